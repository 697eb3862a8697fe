import PyProof.Rows.All
import Wide.All
import OpenK.AllK
import Wide.FinOn
import HandS.ForMost
import HandS.TupAny
import HandS.Flow
import HandS.IsInst
import HandS.Exc
import HandS.ExcOwn
import HandS.ExcIs
import HandS.ExcField
import HandS.ExcInit
import HandS.ExcCtx
import HandS.HotCalls
import HandS.Property
import HandS.StrMore
import HandS.SetKeys
import HandS.More
import KE.KExcInit
import HandS.ExcInitHot
import KE.KExcIs
import KE.KExcLine
import KE.RegKIsAll
import PySem.Challenge.RW_releasehouse_k00_errors
set_option Elab.async false
set_option linter.all false
set_option maxRecDepth 100000
/-! EvA: plain values, how they stand in the abstract heap -/
namespace EV
open PySem L2

/-- a plain value (never changed from where it stands in a variable); on the plain heap also what may be changed -/
inductive P where
  | non | bl (b : Bool) | int (i : Int) | str (s : Str)
  | tup (l : List P) | lst (l : List P) | flst (l : List P)
  | dic (l : List (Key × P)) | obj (c : Nat) (l : List (Str × P))
  | cl (n : Nat) | hf (k : Nat)
  deriving Inhabited

/-- what is known of the text: the written part; where the classes stand -/
structure Gc where
  K : PySem.W.Frag
  ca : Nat → Addr
/-- .. and the caught exception of the suite: where, of which class, its dict -/
structure Gx extends Gc where
  cur : Option (Addr × Nat × Option Addr)
/-- what no value refers to; where the lasting places stand -/
structure Nx where
  no : Addr → Prop
  hp : List Addr
instance : CoeFun Nx (fun _ => Addr → Prop) := ⟨Nx.no⟩

/-- read at a, tracked, and never changed any more (N: what may still be changed) -/
def FrT (N : Nx) (K : PySem.W.Frag) (H : Hp) (a : Addr) (xs : List V) : Prop :=
  (¬ N a ∧ Rd H a (.tup xs)) ∨
    ∃ (o : Obj) (its : Array Value) (n : Nat), K.lookup a = some o ∧ o.cls = .type "tuple" ∧ o.data = .seq its n ∧ its.size ≤ sizeLine ∧ Vals xs its.toList
theorem FrT.sq {N : Nx} {K : PySem.W.Frag} {H : Hp} {a : Addr} {xs : List V} (h : FrT N K H a xs) : SqT K H a xs := by
  rcases h with ⟨_, h⟩ | h
  · exact .inl h
  · exact .inr h

/-- a list that is never changed any more, or one of the module -/
def FrL (N : Nx) (K : PySem.W.Frag) (H : Hp) (a : Addr) (xs : List V) : Prop :=
  (¬ N a ∧ Rd H a (.lst xs)) ∨
    ∃ (o : Obj) (its : Array Value) (n : Nat), K.lookup a = some o ∧ o.cls = .type "list" ∧ o.dict = none ∧ o.data = .seq its n ∧ its.size ≤ sizeLine ∧ Vals xs its.toList
theorem FrL.sq {N : Nx} {K : PySem.W.Frag} {H : Hp} {a : Addr} {xs : List V} (h : FrL N K H a xs) : SqL K H a xs := by
  rcases h with ⟨_, h⟩ | h
  · exact .inl h
  · exact .inr h
mutual
inductive RP (g : Gc) (N : Nx) (H : Hp) : V → P → Prop
  | non : RP g N H .non .non
  | bl {b} : RP g N H (.bl b) (.bl b)
  | int {i} : RP g N H (.int i) (.int i)
  | str {s} : RP g N H (.str s) (.str s)
  | tup {a vs ps} : FrT N g.K H a vs → RPs g N H vs ps → RP g N H (.ref a) (.tup ps)
  | lst {a vs ps} : ¬ N a → H a = some (.lst vs) → RPs g N H vs ps → RP g N H (.ref a) (.lst ps)
  | flst {a vs ps} : FrL N g.K H a vs → RPs g N H vs ps → RP g N H (.ref a) (.flst ps)
  | dic {a vs ps} : ¬ N a → H a = some (.dK vs) → RKs g N H vs ps → RP g N H (.ref a) (.dic ps)
  | obj {a dx c vs ps} : ¬ N a → H a = some (.ins (g.ca c) dx vs) → RFs g N H vs ps → RP g N H (.ref a) (.obj c ps)
  | cl {n} : RP g N H (.ref (g.ca n)) (.cl n)
  | hf {a k} : N.hp[k]? = some a → RP g N H (.ref a) (.hf k)
inductive RPs (g : Gc) (N : Nx) (H : Hp) : List V → List P → Prop
  | nil : RPs g N H [] []
  | cons {v vs p ps} : RP g N H v p → RPs g N H vs ps → RPs g N H (v :: vs) (p :: ps)
inductive RKs (g : Gc) (N : Nx) (H : Hp) : List (Key × V) → List (Key × P) → Prop
  | nil : RKs g N H [] []
  | cons {k v vs p ps} : RP g N H v p → RKs g N H vs ps → RKs g N H ((k, v) :: vs) ((k, p) :: ps)
inductive RFs (g : Gc) (N : Nx) (H : Hp) : List (Str × V) → List (Str × P) → Prop
  | nil : RFs g N H [] []
  | cons {k v vs p ps} : RP g N H v p → RFs g N H vs ps → RFs g N H ((k, v) :: vs) ((k, p) :: ps)
end

/-- places: those that a def lays and takes back, those that last -/
inductive Pl where
  | s (i : Nat) | p (k : Nat)
  deriving DecidableEq
structure Hh where
  s : List P
  p : List P
def Hh.get (h : Hh) : Pl → Option P
  | .s i => h.s[i]?
  | .p k => h.p[k]?
def Hh.put (h : Hh) : Pl → P → Hh
  | .s i, q => ⟨h.s.set i q, h.p⟩
  | .p k, q => ⟨h.s, h.p.set k q⟩
/-- where the places of the plain heap stand (none: given up); what no value refers to besides -/
structure Mp where
  pl : List (Option Addr)
  pm : List Addr
  av : Addr → Prop
def Mp.at (M : Mp) : Pl → Option Addr
  | .s i => (M.pl[i]?).bind id
  | .p k => M.pm[k]?
/-- may be changed -/
def Wr (M : Mp) (a : Addr) : Prop := ∃ r, M.at r = some a
/-- no frozen value refers to it -/
abbrev NM (M : Mp) : Nx := ⟨fun a => Wr M a ∨ M.av a, M.pm⟩
/-- one more that no value refers to -/
abbrev MA (M : Mp) (a : Addr) : Mp := ⟨M.pl, M.pm, fun b => b = a ∨ M.av b⟩
theorem at_s {M : Mp} {i : Nat} {a : Addr} : M.at (.s i) = some a ↔ M.pl[i]? = some (some a) := by
  show (M.pl[i]?).bind id = some a ↔ _
  cases e : M.pl[i]? with
  | none => simp
  | some x => simp
theorem wr_pl {M : Mp} {a : Addr} (h : some a ∈ M.pl) : Wr M a := by
  obtain ⟨i, e⟩ := List.getElem?_of_mem h
  exact ⟨.s i, at_s.mpr e⟩
theorem wr_pm {M : Mp} {a : Addr} (h : a ∈ M.pm) : Wr M a := by
  obtain ⟨i, e⟩ := List.getElem?_of_mem h
  exact ⟨.p i, e⟩
theorem wr_ma {M : Mp} {a b : Addr} : Wr (MA M a) b ↔ Wr M b := Iff.rfl
/-- a step: what may not be changed stands; what may be changed now could be so before, or is new; lasting places stay -/
structure Stp (M : Mp) (H : Hp) (M' : Mp) (H' : Hp) : Prop where
  keep : ∀ a o, H a = some o → ¬ Wr M a → H' a = some o
  new : ∀ a, NM M' a → NM M a ∨ H a = none
  wr : ∀ a, Wr M' a → Wr M a ∨ H a = none
  all : ∀ a, H' a = none → H a = none
  pm : ∀ (k : Nat) (a : Addr), M.pm[k]? = some a → M'.pm[k]? = some a
theorem Stp.refl {M : Mp} {H : Hp} : Stp M H M H := ⟨fun _ _ h _ => h, fun _ h => .inl h, fun _ h => .inl h, fun _ h => h, fun _ _ h => h⟩
theorem Stp.trans {M M1 M2 : Mp} {H H1 H2 : Hp} (x : Stp M H M1 H1) (y : Stp M1 H1 M2 H2) : Stp M H M2 H2 where
  keep := fun a o h n => y.keep a o (x.keep a o h n) fun n1 => by
    rcases x.wr a n1 with z | z
    · exact n z
    · rw [h] at z; cases z
  new := fun a n2 => by
    rcases y.new a n2 with z | z
    · exact x.new a z
    · exact .inr (x.all a z)
  wr := fun a n2 => by
    rcases y.wr a n2 with z | z
    · exact x.wr a z
    · exact .inr (x.all a z)
  all := fun a z => x.all a (y.all a z)
  pm := fun k a e => y.pm k a (x.pm k a e)
theorem Stp.notN {M M' : Mp} {H H' : Hp} (x : Stp M H M' H') {a : Addr} {o : HO} (h : H a = some o) (n : ¬ NM M a) : ¬ NM M' a := fun n' => by
  rcases x.new a n' with z | z
  · exact n z
  · rw [h] at z; cases z
theorem Stp.kp {M M' : Mp} {H H' : Hp} (x : Stp M H M' H') {a : Addr} {o : HO} (h : H a = some o) (n : ¬ NM M a) : H' a = some o := x.keep a o h fun z => n (.inl z)
/-- fewer things may be changed -/
theorem Stp.less {M M' M2 : Mp} {H H' : Hp} (x : Stp M H M' H') (h : ∀ a, NM M2 a → NM M' a) (w : ∀ a, Wr M2 a → Wr M' a) (e : M2.pm = M'.pm) : Stp M H M2 H' := ⟨x.keep, fun a n => x.new a (h a n), fun a n => x.wr a (w a n), x.all, fun k a z => by rw [e]; exact x.pm k a z⟩
theorem Stp.same {M M' : Mp} {H : Hp} (h : ∀ a, NM M' a → NM M a) (w : ∀ a, Wr M' a → Wr M a) (e : M'.pm = M.pm) : Stp M H M' H := ⟨fun _ _ e _ => e, fun a n => .inl (h a n), fun a n => .inl (w a n), fun _ z => z, fun k a z => by rw [e]; exact z⟩
theorem FrT.step {M M' : Mp} {K : PySem.W.Frag} {H H' : Hp} {a : Addr} {xs : List V} (s : Stp M H M' H') (h : FrT (NM M) K H a xs) : FrT (NM M') K H' a xs := by
  rcases h with ⟨n, h | ⟨o, h⟩⟩ | h
  · exact .inl ⟨s.notN h n, .inl (s.kp h n)⟩
  · exact .inl ⟨s.notN h n, .inr ⟨o, s.kp h n⟩⟩
  · exact .inr h
theorem FrL.step {M M' : Mp} {K : PySem.W.Frag} {H H' : Hp} {a : Addr} {xs : List V} (s : Stp M H M' H') (h : FrL (NM M) K H a xs) : FrL (NM M') K H' a xs := by
  rcases h with ⟨n, h | ⟨o, h⟩⟩ | h
  · exact .inl ⟨s.notN h n, .inl (s.kp h n)⟩
  · exact .inl ⟨s.notN h n, .inr ⟨o, s.kp h n⟩⟩
  · exact .inr h
section
variable {g : Gc} {M M' : Mp} {H H' : Hp}
mutual
theorem RP.step (s : Stp M H M' H') : ∀ {v : V} {p : P}, RP g (NM M) H v p → RP g (NM M') H' v p
  | _, _, .non => .non
  | _, _, .bl => .bl
  | _, _, .int => .int
  | _, _, .str => .str
  | _, _, .tup h r => .tup (h.step s) (RPs.step s r)
  | _, _, .lst n h r => .lst (s.notN h n) (s.kp h n) (RPs.step s r)
  | _, _, .flst h r => .flst (h.step s) (RPs.step s r)
  | _, _, .dic n h r => .dic (s.notN h n) (s.kp h n) (RKs.step s r)
  | _, _, .obj n h r => .obj (s.notN h n) (s.kp h n) (RFs.step s r)
  | _, _, .cl => .cl
  | _, _, .hf e => .hf (s.pm _ _ e)
theorem RPs.step (s : Stp M H M' H') : ∀ {v : List V} {p : List P}, RPs g (NM M) H v p → RPs g (NM M') H' v p
  | _, _, .nil => .nil
  | _, _, .cons a b => .cons (RP.step s a) (RPs.step s b)
theorem RKs.step (s : Stp M H M' H') : ∀ {v : List (Key × V)} {p : List (Key × P)}, RKs g (NM M) H v p → RKs g (NM M') H' v p
  | _, _, .nil => .nil
  | _, _, .cons a b => .cons (RP.step s a) (RKs.step s b)
theorem RFs.step (s : Stp M H M' H') : ∀ {v : List (Str × V)} {p : List (Str × P)}, RFs g (NM M) H v p → RFs g (NM M') H' v p
  | _, _, .nil => .nil
  | _, _, .cons a b => .cons (RP.step s a) (RFs.step s b)
end
end
section
variable {g : Gc} {N : Nx} {H : Hp}
theorem RPs.length : ∀ {v : List V} {p : List P}, RPs g N H v p → v.length = p.length
  | _, _, .nil => rfl
  | _, _, .cons _ b => by simp [RPs.length b]
theorem RPs.get : ∀ {vs : List V} {ps : List P} {i : Nat} {p : P}, RPs g N H vs ps → ps[i]? = some p → ∃ v, vs[i]? = some v ∧ RP g N H v p
  | _, _, _, _, .nil, e => by simp at e
  | _, _, 0, _, .cons a _, e => by simp at e; subst e; exact ⟨_, rfl, a⟩
  | _, _, i + 1, p, .cons _ b, e => by
    obtain ⟨v, h1, h2⟩ := RPs.get (i := i) (p := p) b (by simpa using e)
    exact ⟨v, by simpa using h1, h2⟩
theorem RPs.getV : ∀ {vs : List V} {ps : List P} {i : Nat} {v : V}, RPs g N H vs ps → vs[i]? = some v → ∃ p, ps[i]? = some p ∧ RP g N H v p
  | _, _, _, _, .nil, e => by simp at e
  | _, _, 0, _, .cons a _, e => by simp at e; subst e; exact ⟨_, rfl, a⟩
  | _, _, i + 1, p, .cons _ b, e => by
    obtain ⟨v, h1, h2⟩ := RPs.getV (i := i) (v := p) b (by simpa using e)
    exact ⟨v, by simpa using h1, h2⟩
theorem RPs.append : ∀ {vs ws : List V} {ps qs : List P}, RPs g N H vs ps → RPs g N H ws qs → RPs g N H (vs ++ ws) (ps ++ qs)
  | _, _, _, _, .nil, s => s
  | _, _, _, _, .cons a b, s => .cons a (RPs.append b s)
theorem RPs.take : ∀ {vs : List V} {ps : List P} (n : Nat), RPs g N H vs ps → RPs g N H (vs.take n) (ps.take n)
  | _, _, 0, _ => .nil
  | _, _, _ + 1, .nil => .nil
  | _, _, n + 1, .cons a b => .cons a (RPs.take n b)
theorem RPs.drop : ∀ {vs : List V} {ps : List P} (n : Nat), RPs g N H vs ps → RPs g N H (vs.drop n) (ps.drop n)
  | _, _, 0, r => r
  | _, _, _ + 1, .nil => .nil
  | _, _, n + 1, .cons _ b => RPs.drop n b
theorem RPs.set : ∀ {vs : List V} {ps : List P} (i : Nat) {v : V} {p : P}, RPs g N H vs ps → RP g N H v p → RPs g N H (vs.set i v) (ps.set i p)
  | _, _, _, _, _, .nil, _ => .nil
  | _, _, 0, _, _, .cons _ b, r => .cons r b
  | _, _, i + 1, _, _, .cons a b, r => .cons a (RPs.set i b r)
theorem RPs.eraseIdx : ∀ {vs : List V} {ps : List P} (i : Nat), RPs g N H vs ps → RPs g N H (vs.eraseIdx i) (ps.eraseIdx i)
  | _, _, _, .nil => .nil
  | _, _, 0, .cons _ b => b
  | _, _, i + 1, .cons a b => .cons a (RPs.eraseIdx i b)
end

/-- what stands at a: it may be changed, or is new and held by nobody -/
def RT (g : Gc) (N : Nx) (H : Hp) (a : Addr) : P → Prop
  | .lst l => ∃ vs, H a = some (.lst vs) ∧ RPs g N H vs l
  | .dic l => ∃ vs, H a = some (.dK vs) ∧ RKs g N H vs l
  | .obj c l => ∃ dx vs, H a = some (.ins (g.ca c) dx vs) ∧ RFs g N H vs l
  | _ => False
section
variable {g : Gc} {M M' : Mp} {N : Nx} {H H' : Hp} {a : Addr}
theorem RT.some {p : P} (h : RT g N H a p) : ∃ o, H a = Option.some o := by
  cases p <;> first | exact h.elim | (obtain ⟨_, h, _⟩ := h; exact ⟨_, h⟩) | (obtain ⟨_, _, h, _⟩ := h; exact ⟨_, h⟩)
/-- its own object is as it was, all else a step -/
theorem RT.step {p : P} (h : RT g (NM M) H a p) (s : Stp M H M' H') (e : ∀ o, H a = Option.some o → H' a = Option.some o) : RT g (NM M') H' a p := by
  cases p <;> first
    | exact h.elim
    | (obtain ⟨_, h, r⟩ := h; exact ⟨_, e _ h, r.step s⟩)
    | (obtain ⟨_, _, h, r⟩ := h; exact ⟨_, _, e _ h, r.step s⟩)
/-- frozen from now on -/
theorem RT.freeze {p : P} (h : RT g N H a p) (n : ¬ N a) : RP g N H (.ref a) p := by
  cases p <;> first
    | exact h.elim
    | (obtain ⟨_, h, r⟩ := h; exact .lst n h r)
    | (obtain ⟨_, h, r⟩ := h; exact .dic n h r)
    | (obtain ⟨_, _, h, r⟩ := h; exact .obj n h r)
end

/-- the plain heap: place r stands at M.at r -/
structure RH (g : Gc) (M : Mp) (h : Hh) (H : Hp) : Prop where
  ls : h.s.length = M.pl.length
  lp : h.p.length = M.pm.length
  ob : ∀ (r : Pl) (p : P) (a : Addr), h.get r = some p → M.at r = some a → p = .non ∨ RT g (NM M) H a p
  nd : ∀ (i j : Pl) (a : Addr), M.at i = some a → M.at j = some a → i = j
  live : ∀ a, NM M a → ∃ o, H a = some o
  sep : ∀ a, M.av a → ¬ Wr M a
theorem Mp.at_eq {M M' : Mp} (e : M'.pl = M.pl) (e2 : M'.pm = M.pm) (r : Pl) : M'.at r = M.at r := by
  cases r with
  | s i => show (M'.pl[i]?).bind id = (M.pl[i]?).bind id; rw [e]
  | p k => show M'.pm[k]? = M.pm[k]?; rw [e2]
theorem Wr.eq {M M' : Mp} (e : M'.pl = M.pl) (e2 : M'.pm = M.pm) {a : Addr} : Wr M' a ↔ Wr M a := by
  unfold Wr
  simp only [Mp.at_eq e e2]
theorem RH.less {g : Gc} {M M' : Mp} {h : Hh} {H : Hp} (x : RH g M h H) (e : M'.pl = M.pl) (e2 : M'.pm = M.pm) (s : ∀ a, M'.av a → M.av a) : RH g M' h H :=
  have sb : ∀ a, NM M' a → NM M a := fun a z => z.elim (fun z => .inl ((Wr.eq e e2).mp z)) fun z => .inr (s a z)
  ⟨by rw [e]; exact x.ls, by rw [e2]; exact x.lp, fun r p a e1 e3 => (x.ob r p a e1 (by rw [← Mp.at_eq e e2]; exact e3)).imp id fun z => z.step (Stp.same sb (fun a z => (Wr.eq e e2).mp z) e2) fun _ z => z,
    fun i j a => by rw [Mp.at_eq e e2, Mp.at_eq e e2]; exact x.nd i j a, fun a z => x.live a (sb a z), fun a z w => x.sep a (s a z) ((Wr.eq e e2).mp w)⟩

/-- a slot of a frame; what an expression hands on -/
inductive Sl where
  | p (v : P) | rf (r : Nat) | xc (c : Nat) (l : List (Str × P))
  deriving Inhabited
inductive R where
  | p (v : P) | fr (v : P) | rf (r : Nat)
  deriving Inhabited
/-- the fields of an exception, by its dict -/
def RX (g : Gc) (M : Mp) (H : Hp) (d : Option Addr) (l : List (Str × P)) : Prop :=
  (d = none ∧ l = []) ∨ ∃ dd fs, d = some dd ∧ H dd = some (.xd fs) ∧ ¬ NM M dd ∧ RFs g (NM M) H fs l
def RSl (g : Gx) (M : Mp) (H : Hp) (v : V) : Sl → Prop
  | .p q => RP g.toGc (NM M) H v q
  | .rf r => ∃ a, v = .ref a ∧ M.at (.s r) = some a
  | .xc c l => ∃ a d, v = .ref a ∧ g.cur = some (a, c, d) ∧ RX g.toGc M H d l
structure REnv (g : Gx) (M : Mp) (H : Hp) (σ : St) (env : List (Option Sl)) : Prop where
  len : env.length = σ.length
  sl : ∀ (i : Nat) (s : Sl), env[i]? = some (some s) → ∃ v, σ[i]? = some (some v) ∧ RSl g M H v s
/-- an expression's step: the places stay, lasting ones may come -/
structure Sx (M : Mp) (H : Hp) (M' : Mp) (H' : Hp) : Prop where
  st : Stp M H M' H'
  pl : M'.pl = M.pl
  av : M'.av = M.av
theorem Sx.refl {M : Mp} {H : Hp} : Sx M H M H := ⟨.refl, rfl, rfl⟩
theorem Sx.trans {M M1 M2 : Mp} {H H1 H2 : Hp} (x : Sx M H M1 H1) (y : Sx M1 H1 M2 H2) : Sx M H M2 H2 := ⟨x.st.trans y.st, y.pl.trans x.pl, y.av.trans x.av⟩
theorem Sx.at_s {M M' : Mp} {H H' : Hp} (x : Sx M H M' H') {r : Nat} {a : Addr} (e : M.at (.s r) = some a) : M'.at (.s r) = some a := by
  show (M'.pl[r]?).bind id = some a
  rw [x.pl]; exact e
/-- behind an expression that began at M, H -/
def Out (g : Gc) (M : Mp) (H : Hp) (M' : Mp) (h' : Hh) (v : V) (H' : Hp) : R → Prop
  | .p q => Sx M H M' H' ∧ RH g M' h' H' ∧ RP g (NM M') H' v q
  | .rf r => Sx M H M' H' ∧ RH g M' h' H' ∧ ∃ a, v = .ref a ∧ M'.at (.s r) = some a
  | .fr q => ∃ a, v = .ref a ∧ ¬ NM M' a ∧ H a = none ∧ Stp M H (MA M' a) H' ∧ M'.pl = M.pl ∧ M'.av = M.av ∧ RH g (MA M' a) h' H' ∧ RT g (NM (MA M' a)) H' a q
def R.frz : R → R
  | .fr q => .p q
  | r => r
theorem nm_ma {M : Mp} {a : Addr} : ∀ b, NM M b → NM (MA M a) b := fun _ h => h.imp id fun z => .inr z
theorem Out.frz {g : Gc} {M : Mp} {H : Hp} {M' : Mp} {h' : Hh} {v : V} {H' : Hp} {r : R} (o : Out g M H M' h' v H' r) : Out g M H M' h' v H' r.frz := by
  cases r with
  | p q => exact o
  | rf r => exact o
  | fr q =>
    obtain ⟨a, rfl, na, _, st, e1, e2, rh, rt⟩ := o
    exact ⟨⟨st.less nm_ma (fun _ h => h) rfl, e1, e2⟩, rh.less rfl rfl fun _ h => .inr h, (rt.step (Stp.same nm_ma (fun _ h => h) rfl) fun _ z => z).freeze na⟩
theorem Out.sx' {g : Gc} {M : Mp} {H : Hp} {M' : Mp} {h' : Hh} {v : V} {H' : Hp} {r : R} (o : Out g M H M' h' v H' r.frz) : Sx M H M' H' ∧ RH g M' h' H' := by
  cases r with
  | p q => exact ⟨o.1, o.2.1⟩
  | rf r => exact ⟨o.1, o.2.1⟩
  | fr q => exact ⟨o.1, o.2.1⟩
theorem Out.sx {g : Gc} {M : Mp} {H : Hp} {M' : Mp} {h' : Hh} {v : V} {H' : Hp} {r : R} (o : Out g M H M' h' v H' r) : Sx M H M' H' := o.frz.sx'.1
theorem Out.rh {g : Gc} {M : Mp} {H : Hp} {M' : Mp} {h' : Hh} {v : V} {H' : Hp} {r : R} (o : Out g M H M' h' v H' r) : RH g M' h' H' := o.frz.sx'.2
theorem RX.step {g : Gc} {M M' : Mp} {H H' : Hp} {d : Option Addr} {l : List (Str × P)} (x : RX g M H d l) (s : Stp M H M' H') : RX g M' H' d l := by
  rcases x with x | ⟨dd, fs, rfl, e, n, r⟩
  · exact .inl x
  · exact .inr ⟨dd, fs, rfl, s.kp e n, s.notN e n, r.step s⟩
theorem RSl.step {g : Gx} {M M' : Mp} {H H' : Hp} {v : V} {sl : Sl} (x : RSl g M H v sl) (s : Stp M H M' H') (m : ∀ (r : Nat) (a : Addr), M.at (.s r) = some a → M'.at (.s r) = some a) : RSl g M' H' v sl := by
  cases sl with
  | p q => exact RP.step s x
  | rf r => obtain ⟨a, e3, e4⟩ := x; exact ⟨a, e3, m _ _ e4⟩
  | xc c l => obtain ⟨a, d, e3, e4, e5⟩ := x; exact ⟨a, d, e3, e4, e5.step s⟩
theorem REnv.step {g : Gx} {M M' : Mp} {H H' : Hp} {σ : St} {env : List (Option Sl)} (x : REnv g M H σ env) (s : Stp M H M' H') (m : ∀ (r : Nat) (a : Addr), M.at (.s r) = some a → M'.at (.s r) = some a) : REnv g M' H' σ env :=
  ⟨x.len, fun i sl e => by
    obtain ⟨v, e1, e2⟩ := x.sl i sl e
    exact ⟨v, e1, e2.step s m⟩⟩
theorem REnv.sx {g : Gx} {M M' : Mp} {H H' : Hp} {σ : St} {env : List (Option Sl)} (x : REnv g M H σ env) (s : Sx M H M' H') : REnv g M' H' σ env := x.step s.st fun _ _ e => s.at_s e
/-- v may be read as p -/
def RdV (g : Gc) (M : Mp) (H : Hp) (v : V) (p : P) : Prop := RP g (NM M) H v p ∨ ∃ a, v = .ref a ∧ RT g (NM M) H a p
/-- an operand: frozen, or a place -/
def RR (g : Gc) (M : Mp) (H : Hp) (v : V) : R → Prop
  | .p q => RP g (NM M) H v q
  | .rf r => ∃ a, v = .ref a ∧ M.at (.s r) = some a
  | .fr _ => False
theorem Out.rr {g : Gc} {M : Mp} {H : Hp} {M' : Mp} {h' : Hh} {v : V} {H' : Hp} {r : R} (o : Out g M H M' h' v H' r.frz) : RR g M' H' v r.frz := by
  cases r with
  | p q => exact o.2.2
  | rf r => exact o.2.2
  | fr q => exact o.2.2
theorem RR.sx {g : Gc} {M M' : Mp} {H H' : Hp} {v : V} {r : R} (x : RR g M H v r) (s : Sx M H M' H') : RR g M' H' v r := by
  cases r with
  | p q => exact RP.step s.st x
  | rf r => obtain ⟨a, e1, e2⟩ := x; exact ⟨a, e1, s.at_s e2⟩
  | fr q => exact x
/-- later than another -/
theorem Out.before {g : Gc} {M M1 M' : Mp} {H H1 H' : Hp} {h' : Hh} {v : V} {r : R} (s : Sx M H M1 H1) (o : Out g M1 H1 M' h' v H' r) : Out g M H M' h' v H' r := by
  cases r with
  | p q => exact ⟨s.trans o.1, o.2⟩
  | rf r => exact ⟨s.trans o.1, o.2⟩
  | fr q =>
    obtain ⟨a, e, na, n, st, e1, e2, rh, rt⟩ := o
    exact ⟨a, e, na, s.st.all a n, s.st.trans st, e1.trans s.pl, e2.trans s.av, rh, rt⟩
end EV

set_option Elab.async false
set_option linter.all false
set_option maxRecDepth 100000
/-! EvB: the small language and what it does on plain values -/
namespace EV
open PySem L2

abbrev Fr := List (Option Sl)
/-- an exception: its class, what it holds -/
structure Ex where
  c : Nat
  l : List (Str × P)
/-- what a run gives: nothing told, an answer, an exception -/
inductive Rq (α : Type) where
  | no | ok (a : α) | ex (e : Ex) (h : Hh)
def Rq.bind {α β : Type} : Rq α → (α → Rq β) → Rq β
  | .no, _ => .no
  | .ok a, f => f a
  | .ex e h, _ => .ex e h
instance : Monad Rq where
  pure := .ok
  bind := Rq.bind
def Rq.of {α : Type} : Option α → Rq α
  | some a => .ok a
  | none => .no
/-- one that lets nothing out -/
def Rq.calm {α : Type} : Rq α → Rq α
  | .ex _ _ => .no
  | q => q
def wq {α : Type} (q : Rq α) (k : α → Prop) (x : Ex → Hh → Prop) : Prop :=
  match q with
  | .no => False
  | .ok a => k a
  | .ex e h => x e h
abbrev Cl := Nat → List Sl → Hh → Rq (R × Hh)
section
variable {α β : Type} {k : α → Prop} {x : Ex → Hh → Prop}
theorem wq_bind {q : Rq α} {f : α → Rq β} {k : β → Prop} (h : wq (q >>= f) k x) : wq q (fun a => wq (f a) k x) x := by
  cases q <;> exact h
theorem wq_mono {q : Rq α} {k' : α → Prop} {x' : Ex → Hh → Prop} (h : wq q k x) (i : ∀ a, k a → k' a) (j : ∀ e h, x e h → x' e h) : wq q k' x' := by
  cases q with
  | no => exact h
  | ok a => exact i a h
  | ex e h1 => exact j e h1 h
theorem wq_of {o : Option α} {f : α → Rq β} {k : β → Prop} (h : wq (Rq.of o >>= f) k x) : ∃ a, o = some a ∧ wq (f a) k x := by
  cases o with
  | none => exact h.elim
  | some a => exact ⟨a, rfl, h⟩
theorem wq_calm {q : Rq α} (h : wq q.calm k x) : wq q k (fun _ _ => False) := by
  cases q <;> exact h
theorem wq_ok {a : α} (h : wq (pure a) k x) : k a := h
end

inductive Blt where
  | len | int | str | list | tuple | all | any | sorted | max | min | ord | dict
  deriving DecidableEq
inductive Mt where
  | sSplit | sJoin | sStartswith | sIsascii | sIsalnum | sIsalpha | sIslower | sIsprintable | sIsdigit | sUpper
  | dGet | dGet2
  deriving DecidableEq
inductive Mu where
  | lAppend | lExtend | lPop | dPop2 | dPop1 | dSetd
  deriving DecidableEq
inductive Ty where
  | int | str | bool | list | tuple | cls (n : Nat) | exc (n : Nat)
  deriving DecidableEq
/-- built-in classes of exceptions that are asked for -/
def excN : List String := ["ValueError", "LookupError", "ArithmeticError", "TypeError", "Exception"]
inductive Tg where
  | n (i : Nat) | t (is : List Nat)

mutual
inductive E where
  | var (i : Nat) | gv (i : Nat) | int (i : Int) | str (s : Str) | non | bl (b : Bool)
  | bin (op : Operator) (a b : E)
  | neg (a : E)
  | cmp (op : CmpOp) (a b : E)
  | chn (op op' : CmpOp) (a b c : E)
  | and (a b : E) | or (a b : E) | not (a : E) | one (a : E)
  | ite (c : T) (a b : E)
  | tup (es : List E) | lst (es : List E)
  | idx (a b : E)
  | slc (a : E) (lo hi : Option E)
  | call (f : Nat) (es : List E)
  | mk (c f : Nat) (es : List E)
  | blt (b : Blt) (es : List E)
  | mth (m : Mt) (o : E) (es : List E)
  | mut (m : Mu) (o : E) (es : List E)
  | isi (a : E) (ts : List Ty)
  | fld (o : E) (f : Str)
  | prp (c f : Nat) (o : E)
  | pmt (c f : Nat) (m : Str) (o : E) (es : List E)
  | lc (src : I) (tg : Tg) (cond : List T) (elt : E)
  | dc (src : I) (tg : Tg) (cond : List T) (k v : E)
  | dis (ks vs : List E)
  | hp (e : E)
  | xf (i : Nat) (f : Str)
  | xi (i : Nat) (ts : List Ty)
inductive T where
  | v (e : E) | and (a b : T) | or (a b : T) | not (a : T) | one (a : T) | cmp (op : CmpOp) (a b : E) | chn (op op' : CmpOp) (a b c : E)
inductive I where
  | e (e : E) | rng1 (a : E) | rng2 (a b : E) | zip (a b : E) | enum (a : E)
end

inductive S where
  | set (i : Nat) (e : E)
  | new (i : Nat) (e : E)
  | ren (i : Nat) (e : E)
  | frz (i : Nat)
  | put (o i e : E)
  | fset (o : E) (f : Str) (e : E)
  | ex (e : E)
  | ret (e : E) | ret0
  | iff (c : T) (a b : List S)
  | for_ (src : I) (tg : Tg) (b : List S)
  | brk | cont | pass | bad
  | rai (c f : Nat) (es : List E)
  | tra (b : List S) (c i : Nat) (s : List S)

/-! ### operations -/
def isNonP : P → Bool | .non => true | _ => false
def opBin : Operator → P → P → Option R
  | .Add, .int i, .int j => some (.p (.int (i + j)))
  | .Add, .str x, .str y => if x.length + y.length ≤ sizeLine then some (.p (.str (x ++ y))) else none
  | .Add, .lst xs, .lst ys => if xs.length + ys.length ≤ sizeLine then some (.fr (.lst (xs ++ ys))) else none
  | .Add, .tup xs, .tup ys => if xs.length + ys.length ≤ sizeLine then some (.p (.tup (xs ++ ys))) else none
  | .Sub, .int i, .int j => some (.p (.int (i - j)))
  | .Mult, .int i, .int j => if (-(2 ^ 64) < i ∧ i < 2 ^ 64) ∨ (-(2 ^ 64) < j ∧ j < 2 ^ 64) then some (.p (.int (i * j))) else none
  | .FloorDiv, .int i, .int j => if 0 < j ∧ j < 1073741824 then some (.p (.int (i / j))) else none
  | .Mod, .int i, .int j => if 0 < j then some (.p (.int (i % j))) else none
  | .Pow, .int i, .int j => if 0 ≤ j ∧ j ≤ 1000000 ∧ i.natAbs < 2 ^ 64 then some (.p (.int (i ^ j.toNat))) else none
  | _, _, _ => none
mutual
def toD : P → Option PyData
  | .non => some .none
  | .bl b => some (.bool b)
  | .int i => some (.int i)
  | .str s => some (.str s)
  | .tup l => (toDs l).map .tuple
  | .lst l => (toDs l).map .list
  | _ => none
def toDs : List P → Option (List PyData)
  | [] => some []
  | p :: ps => do
    let d ← toD p
    let ds ← toDs ps
    pure (d :: ds)
end
def flatP : P → Bool
  | .non => true | .bl _ => true | .int _ => true | .str _ => true | _ => false
def eqF : P → P → Option Bool
  | .non, .non => some true | .non, .int _ => some false | .int _, .non => some false | .non, .bl _ => some false | .bl _, .non => some false
  | .non, .str _ => some false | .str _, .non => some false
  | .int a, .int b => some (decide (a = b)) | .bl a, .bl b => some (decide (a = b)) | .str a, .str b => some (decide (a = b))
  | .int _, .str _ => some false | .str _, .int _ => some false | .bl _, .str _ => some false | .str _, .bl _ => some false
  | _, _ => none
def eqP (a b : P) : Option Bool :=
  match eqF a b with
  | some r => some r
  | none => do
    let d ← toD a
    let e ← toD b
    if SeqAt.shaped d = true ∧ SeqAt.shaped e = true then some (PyData.eqv d e) else none
def eqU : P → P → Bool
  | .non, .non => true
  | .bl a, .bl b => a == b
  | .bl a, .int b => (if a then 1 else 0) == b
  | .int a, .bl b => a == (if b then 1 else 0)
  | .int a, .int b => a == b
  | .str a, .str b => a == b
  | _, _ => false
def inP (x : P) (xs : List P) : Bool := xs.any fun y => eqU y x
def keyP : P → Option Key
  | .int i => some (.inl i)
  | .str s => some (.inr s)
  | _ => none
def kP : Key → P
  | .inl i => .int i
  | .inr s => .str s
def kget (l : List (Key × P)) (k : Key) : Option P := (l.find? fun kv => decide (kv.1 = k)).map (·.2)
def kput (l : List (Key × P)) (k : Key) (v : P) : List (Key × P) := if (l.any fun kv => decide (kv.1 = k)) = true then l.map (fun kv => if kv.1 = k then (kv.1, v) else kv) else l ++ [(k, v)]
def kdrop (l : List (Key × P)) (k : Key) : List (Key × P) := l.filter fun kv => decide (kv.1 ≠ k)
def opIn (x : P) : P → Option Bool
  | .lst ys => if flatP x = true ∧ ys.all flatP = true then some (inP x ys) else none
  | .tup ys => if flatP x = true ∧ ys.all flatP = true then some (inP x ys) else none
  | .str y => match x with | .str s => some (!(Builtin.Str.occurrences y s 0 y.length 1).isEmpty) | _ => none
  | .dic l => (keyP x).map fun k => (kget l k).isSome
  | _ => none
def opCmp : CmpOp → P → P → Option Bool
  | .Eq, a, b => eqP a b
  | .NotEq, a, b => (eqP a b).map (!·)
  | .Lt, .int i, .int j => some (decide (i < j))
  | .LtE, .int i, .int j => some (decide (i ≤ j))
  | .Gt, .int i, .int j => some (decide (j < i))
  | .GtE, .int i, .int j => some (decide (j ≤ i))
  | .Lt, .str x, .str y => some (decide (x.cps.toList < y.cps.toList))
  | .Is, a, .non => some (isNonP a)
  | .IsNot, a, .non => some (!isNonP a)
  | .In, a, b => opIn a b
  | .NotIn, a, b => (opIn a b).map (!·)
  | _, _, _ => none
def truP : P → Option Bool
  | .bl b => some b
  | .non => some false
  | .int i => some (i != 0)
  | .str s => if s.length ≤ sizeLine then some (s.length != 0) else none
  | .lst l => some (!l.isEmpty)
  | .tup l => some (!l.isEmpty)
  | .dic l => some (!l.isEmpty)
  | _ => none
def seqP : P → Option (List P)
  | .lst l => some l
  | .tup l => some l
  | .flst l => some l
  | _ => none
def idxP : P → P → Option P
  | .lst l, .int i => atI l i
  | .tup l, .int i => atI l i
  | .flst l, .int i => atI l i
  | .str z, .int i => if z.length ≤ sizeLine then (atI z.cps.toList i).map fun c => .str ⟨#[c]⟩ else none
  | .dic l, k => (keyP k).bind (kget l)
  | _, _ => none
def cutP (xs : List P) (lo hi : Option Int) : List P := (xs.drop (HT.sIx xs.length 0 lo)).take (HT.sIx xs.length xs.length hi - HT.sIx xs.length 0 lo)
def slcP : P → Option Int → Option Int → Option R
  | .lst l, lo, hi => some (.fr (.lst (cutP l lo hi)))
  | .flst l, lo, hi => some (.fr (.lst (cutP l lo hi)))
  | .tup l, lo, hi => some (.p (.tup (cutP l lo hi)))
  | .str z, lo, hi => if z.length ≤ sizeLine then some (.p (.str (cutS z lo hi))) else none
  | _, _, _ => none
def intP : P → Option Int
  | .int i => some i
  | _ => none

/-! ### slots and places -/
def R.sl : R → Option Sl
  | .p v => some (.p v)
  | .fr v => some (.p v)
  | .rf r => some (.rf r)
def Sl.r : Sl → Option R
  | .p v => some (.p v)
  | .rf r => some (.rf r)
  | .xc _ _ => none
def sget (env : Fr) (i : Nat) : Option Sl := (env[i]?).bind id
def R.val : R → Option P
  | .p v => some v
  | .fr v => some v
  | .rf _ => none
def R.pl : R → Option Pl
  | .rf i => some (.s i)
  | .p (.hf k) => some (.p k)
  | _ => none
def live : Option P → Option P
  | some .non => none
  | o => o
/-- the content, of a place that lives -/
def rdv (r : R) (h : Hh) : Option P :=
  match r with
  | .p (.hf k) => live (h.p[k]?)
  | .fr (.hf k) => live (h.p[k]?)
  | .p v => some v
  | .fr v => some v
  | .rf i => live (h.s[i]?)
end EV

set_option Elab.async false
set_option linter.all false
set_option maxRecDepth 100000
/-! EvC: what an expression does -/
namespace EV
open PySem L2

def Tg.slots : Tg → List Nat
  | .n i => [i]
  | .t is => is
def setAll : Fr → List Nat → List P → Option Fr
  | env, [], [] => some env
  | env, i :: is, p :: ps => if i < env.length then setAll (env.set i (some (.p p))) is ps else none
  | _, _, _ => none
def bindT : Tg → P → Fr → Option Fr
  | .n i, v, env => if i < env.length then some (env.set i (some (.p v))) else none
  | .t is, .tup l, env => setAll env is l
  | _, _, _ => none
def wipeE (env : Fr) : List Nat → Fr
  | [] => env
  | v :: vs => (wipeE env vs).set v none

/-- a comprehension's turns: f gives the item of a turn, or none where a test fails -/
def lcGo {α : Type} (f : P → Hh → Rq (Option α × Hh)) : List P → Hh → Rq (List α × Hh)
  | [], h => .ok ([], h)
  | x :: xs, h => do
    let (y, h1) ← f x h
    let (ys, h2) ← lcGo f xs h1
    match y with
    | some y => .ok (y :: ys, h2)
    | none => .ok (ys, h2)
def lcTurn {α : Type} (tg : Tg) (ct : Fr → Hh → Rq (Bool × Hh)) (ce : Fr → Hh → Rq (α × Hh)) (env : Fr) (x : P) (h : Hh) : Rq (Option α × Hh) := do
  let env' ← Rq.of (bindT tg x (wipeE env tg.slots))
  let (b, h) ← ct env' h
  if b = true then do
    let (y, h) ← ce env' h
    pure (some y, h)
  else pure (none, h)
def sortS (ks : List Str) : List Str := ks.mergeSort fun a b => decide (a.cps.toList ≤ b.cps.toList)
def keysS : List (Key × P) → Option (List Str)
  | [] => some []
  | (.inr k, _) :: r => (keysS r).map (k :: ·)
  | _ => none
def asPairs : List P → Option (List (Key × P))
  | [] => some []
  | .tup [k, v] :: r => (keyP k).bind fun k => (asPairs r).map ((k, v) :: ·)
  | _ => none
def kmerge (l m : List (Key × P)) : List (Key × P) := m.foldl (fun acc kv => kput acc kv.1 kv.2) l
def asInts : List P → Option (List Int)
  | [] => some []
  | .int i :: r => (asInts r).map (i :: ·)
  | _ => none
def asStrs : List P → Option (List Str)
  | [] => some []
  | .str i :: r => (asStrs r).map (i :: ·)
  | _ => none
def asBls : List P → Option (List Bool)
  | [] => some []
  | .bl i :: r => (asBls r).map (i :: ·)
  | _ => none

def okLen (l : List P) : Option Unit := if l.length < sizeLine then some () else none
def okLe (l : List P) : Option Unit := if l.length ≤ sizeLine then some () else none

def bltP : Blt → List P → Option R
  | .len, [.lst l] => some (.p (.int l.length))
  | .len, [.tup l] => some (.p (.int l.length))
  | .len, [.flst l] => some (.p (.int l.length))
  | .len, [.dic l] => some (.p (.int l.length))
  | .len, [.str z] => if z.length ≤ sizeLine then some (.p (.int z.length)) else none
  | .int, [.int i] => some (.p (.int i))
  | .str, [.int i] => if i.natAbs.log2 < 1920 then some (.p (.str (toString i : String))) else none
  | .list, [.lst l] => some (.fr (.lst l))
  | .list, [.tup l] => some (.fr (.lst l))
  | .list, [.flst l] => some (.fr (.lst l))
  | .tuple, [.lst l] => some (.p (.tup l))
  | .tuple, [.flst l] => some (.p (.tup l))
  | .tuple, [.tup l] => some (.p (.tup l))
  | .max, [.int i, .int j] => some (.p (.int (if j > i then j else i)))
  | .min, [.int i, .int j] => some (.p (.int (if j < i then j else i)))
  | .all, [.lst l] => (asBls l).map fun bs => .p (.bl (bs.all id))
  | .any, [.lst l] => (asBls l).map fun bs => .p (.bl (bs.any id))
  | .sorted, [.dic l] => (keysS l).bind fun ks => if ks.length < 64 then some (.fr (.lst ((sortS ks).map .str))) else none
  | .sorted, [.lst l] => (asStrs l).bind fun ks => if ks.length < 64 then some (.fr (.lst ((sortS ks).map .str))) else none
  | .dict, [.lst l] => (asPairs l).map fun kvs => .fr (.dic (kmerge [] kvs))
  | .ord, [.str z] => if z.length = 1 then some (.p (.int (z.cps.getD 0 0 : Nat))) else none
  | _, _ => none
def isiP (ck : Nat → Ty → Option Bool) (cb : Ty → Option Bool) (y : P) (t : Ty) : Option Bool :=
  match t with
  | .cls n => match y with
    | .obj c _ => ck c t
    | .cl _ => none
    | .hf _ => none
    | _ => cb t
  | .exc _ => none
  | _ => match y with
    | .non => some false
    | .bl _ => some (decide (t = .bool ∨ t = .int))
    | .int _ => some (decide (t = .int))
    | .str _ => some (decide (t = .str))
    | .tup _ => some (decide (t = .tuple))
    | .lst _ => some (decide (t = .list))
    | .dic _ => some false
    | .obj c _ => ck c t
    | _ => none
def isiPs (ck : Nat → Ty → Option Bool) (cb : Ty → Option Bool) (y : P) : List Ty → Option Bool
  | [] => some false
  | t :: ts => do
    let b ← isiP ck cb y t
    if b = true then some true else isiPs ck cb y ts
def enumP (n : Nat) : List P → List P
  | [] => []
  | p :: ps => .tup [.int (n : Nat), p] :: enumP (n + 1) ps
def mtTy : Mt → P → Option Unit
  | .dGet, .dic _ => some ()
  | .dGet2, .dic _ => some ()
  | .dGet, _ => none
  | .dGet2, _ => none
  | _, .str _ => some ()
  | _, _ => none
def mtP : Mt → P → List P → Option R
  | .sIsascii, .str a, [] => some (.p (.bl (Txt.isascii a)))
  | .sIsalnum, .str a, [] => some (.p (.bl (Txt.isalnum a)))
  | .sIsalpha, .str a, [] => some (.p (.bl (Txt.isalpha a)))
  | .sIslower, .str a, [] => some (.p (.bl (Txt.islower a)))
  | .sIsprintable, .str a, [] => some (.p (.bl (Txt.isprintable a)))
  | .sIsdigit, .str a, [] => some (.p (.bl (Txt.isdigit a)))
  | .sUpper, .str a, [] => if a.length ≤ 5592405 then some (.p (.str (Txt.upper a))) else none
  | .sStartswith, .str a, [.str b] => some (.p (.bl (Txt.startswith a b)))
  | .sSplit, .str a, [.str b] => if (b.length == 0) = false ∧ a.length + 2 ≤ sizeLine then some (.fr (.lst ((Txt.split a b).map .str))) else none
  | .sJoin, .str a, [.lst l] => (asStrs l).bind fun ys => if (ys.map (·.length)).sum + ys.length * a.length ≤ 16777216 then some (.p (.str (Txt.join a ys))) else none
  | .dGet, .dic l, [k] => (keyP k).map fun k => .p ((kget l k).getD .non)
  | .dGet2, .dic l, [k, d] => (keyP k).map fun k => .p ((kget l k).getD d)
  | _, _, _ => none
def muTy : Mu → P → Option Unit
  | .lAppend, .lst _ => some ()
  | .lExtend, .lst _ => some ()
  | .lPop, .lst _ => some ()
  | .dPop2, .dic _ => some ()
  | .dPop1, .dic _ => some ()
  | .dSetd, .dic _ => some ()
  | _, _ => none
/-- what it hands back, what stands there then -/
def muP : Mu → P → List P → Option (P × P)
  | .lAppend, .lst l, [x] => if l.length < sizeLine then some (.non, .lst (l ++ [x])) else none
  | .lExtend, .lst l, [.lst m] => if l.length + m.length ≤ sizeLine then some (.non, .lst (l ++ m)) else none
  | .lPop, .lst l, [] => (l[l.length - 1]?).map fun x => (x, .lst l.dropLast)
  | .dPop2, .dic l, [k, d] => (keyP k).map fun k => match kget l k with
    | some v => (v, .dic (kdrop l k))
    | none => (d, .dic l)
  | .dPop1, .dic l, [k] => (keyP k).bind fun k => (kget l k).map fun v => (v, .dic (kdrop l k))
  | _, _, _ => none
/-- a change at a place -/
def muAt (m : Mu) (r : R) (xs : List P) (h : Hh) : Option (R × Hh) := do
  let k ← r.pl
  let q ← h.get k
  let p ← muP m q xs
  pure (.p p.1, h.put k p.2)
def fldP (fl : Nat → List Str) (y : P) (f : Str) : Option P :=
  match y with
  | .obj c l => if f ∈ fl c then l.lookup f else none
  | _ => none
def isObjP (c : Nat) (m : Option Str) (y : P) : Option Unit :=
  match y with
  | .obj c' l => if c' = c ∧ (∀ x, m = some x → l.lookup x = none) then some () else none
  | _ => none
def Hh.cut (n : Nat) (h : Hh) : Hh := ⟨h.s.take n, h.p⟩
def mkP (C : Cl) (c f : Nat) (xs : List Sl) (h : Hh) : Rq (R × Hh) :=
  match C f (.rf h.s.length :: xs) ⟨h.s ++ [.obj c []], h.p⟩ with
  | .no => .no
  | .ex e h' => .ex e (h'.cut h.s.length)
  | .ok (r, h') => match r, h'.s[h.s.length]? with
    | .p .non, some (.obj c' l) => .ok (.fr (.obj c' l), h'.cut h.s.length)
    | _, _ => .no
/-- what the text's top gives: constants, the fields of the classes, what isinstance says of own classes, of the others; the names that an exception's __init__ sets, whether an exception's class is under another -/
structure Tb where
  gv : List P
  fl : Nat → List Str
  ck : Nat → Ty → Option Bool
  cb : Ty → Option Bool
  xi : Nat → Option (List Str)
  xs : Nat → Nat → Option Bool
  xt : Nat → Ty → Option Bool
  xg : Nat → List Str
def xtAny (G : Tb) (c : Nat) : List Ty → Option Bool
  | [] => some false
  | t :: ts => do
    let b ← G.xt c t
    if b = true then some true else xtAny G c ts
section
variable (C : Cl) (G : Tb)
mutual
def ev : E → Fr → Hh → Rq (R × Hh)
  | .var i, env, h => do
    let s ← Rq.of (sget env i)
    let r ← Rq.of s.r
    pure (r, h)
  | .gv i, _, h => do
    let p ← Rq.of (G.gv[i]?)
    pure (.p p, h)
  | .int i, _, h => .ok (.p (.int i), h)
  | .str s, _, h => .ok (.p (.str s), h)
  | .non, _, h => .ok (.p .non, h)
  | .bl b, _, h => .ok (.p (.bl b), h)
  | .bin op a b, env, h => do
    let (x, h) ← ev a env h
    let (y, h) ← ev b env h
    let x ← Rq.of (rdv x h)
    let y ← Rq.of (rdv y h)
    let r ← Rq.of (opBin op x y)
    pure (r, h)
  | .neg a, env, h => do
    let (x, h) ← ev a env h
    let x ← Rq.of (rdv x h)
    let i ← Rq.of (intP x)
    pure (.p (.int (-i)), h)
  | .cmp op a b, env, h => do
    let (x, h) ← ev a env h
    let (y, h) ← ev b env h
    let x ← Rq.of (rdv x h)
    let y ← Rq.of (rdv y h)
    let r ← Rq.of (opCmp op x y)
    pure (.p (.bl r), h)
  | .chn op op' a b c, env, h => do
    let (x, h) ← ev a env h
    let (y, h) ← ev b env h
    let x ← Rq.of (rdv x h)
    let y' ← Rq.of (rdv y h)
    let r ← Rq.of (opCmp op x y')
    if r = true then do
      let (z, h) ← ev c env h
      let y ← Rq.of (rdv y h)
      let z ← Rq.of (rdv z h)
      let r ← Rq.of (opCmp op' y z)
      pure (.p (.bl r), h)
    else pure (.p (.bl false), h)
  | .and a b, env, h => do
    let (x, h) ← ev a env h
    let y ← Rq.of (rdv x h)
    let t ← Rq.of (truP y)
    if t = true then ev b env h else pure (x.frz, h)
  | .or a b, env, h => do
    let (x, h) ← ev a env h
    let y ← Rq.of (rdv x h)
    let t ← Rq.of (truP y)
    if t = true then pure (x.frz, h) else ev b env h
  | .not a, env, h => do
    let (x, h) ← ev a env h
    let y ← Rq.of (rdv x h)
    let t ← Rq.of (truP y)
    pure (.p (.bl (!t)), h)
  | .one a, env, h => ev a env h
  | .ite c a b, env, h => do
    let (x, h) ← evT c env h
    if x = true then ev a env h else ev b env h
  | .tup es, env, h => do
    let (xs, h) ← evs es env h
    let _ ← Rq.of (okLe xs)
    pure (.p (.tup xs), h)
  | .lst es, env, h => do
    let (xs, h) ← evs es env h
    let _ ← Rq.of (okLe xs)
    pure (.fr (.lst xs), h)
  | .idx a b, env, h => do
    let (x, h) ← ev a env h
    let (y, h) ← ev b env h
    let x ← Rq.of (rdv x h)
    let y ← Rq.of (rdv y h)
    let r ← Rq.of (idxP x y)
    pure (.p r, h)
  | .slc a lo hi, env, h => do
    let (x, h) ← ev a env h
    let (lo, h) ← evO lo env h
    let (hi, h) ← evO hi env h
    let x ← Rq.of (rdv x h)
    let r ← Rq.of (slcP x lo hi)
    pure (r, h)
  | .call f es, env, h => do
    let (xs, h) ← evA es env h
    C f xs h
  | .mk c f es, env, h => do
    let (xs, h) ← evA es env h
    mkP C c f xs h
  | .blt b es, env, h => do
    let (xs, h) ← evB es env h
    let r ← Rq.of (bltP b xs)
    pure (r, h)
  | .isi a ts, env, h => do
    let (x, h) ← ev a env h
    let y ← Rq.of (rdv x h)
    let b ← Rq.of (isiPs G.ck G.cb y ts)
    pure (.p (.bl b), h)
  | .fld o f, env, h => do
    let (x, h) ← ev o env h
    let y ← Rq.of (rdv x h)
    let p ← Rq.of (fldP G.fl y f)
    pure (.p p, h)
  | .prp c f o, env, h => do
    let (x, h) ← ev o env h
    let y ← Rq.of (rdv x h)
    let _ ← Rq.of (isObjP c none y)
    let x ← Rq.of x.sl
    Rq.calm (C f [x] h)
  | .pmt c f m o es, env, h => do
    let (x, h) ← ev o env h
    let y ← Rq.of (rdv x h)
    let _ ← Rq.of (isObjP c (some m) y)
    let x ← Rq.of x.sl
    let (xs, h) ← evA es env h
    C f (x :: xs) h
  | .mth m o es, env, h => do
    let (x, h) ← ev o env h
    let y ← Rq.of (rdv x h)
    let _ ← Rq.of (mtTy m y)
    let (xs, h) ← evs es env h
    let y ← Rq.of (rdv x h)
    let r ← Rq.of (mtP m y xs)
    pure (r, h)
  | .mut m o es, env, h => do
    let (x, h) ← ev o env h
    let y ← Rq.of (rdv x h)
    let _ ← Rq.of (muTy m y)
    let (xs, h) ← evs es env h
    Rq.of (muAt m x xs h)
  | .lc src tg cond elt, env, h => do
    let (items, h) ← evI src env h
    let (ys, h) ← Rq.calm (lcGo (lcTurn tg (fun env h => evTs cond env h) (fun env h => do
      let (y, h) ← ev elt env h
      let y ← Rq.of y.val
      pure (y, h)) env) items h)
    let _ ← Rq.of (okLen ys)
    pure (.fr (.lst ys), h)
  | .dc _ _ _ _ _, _, _ => .no
  | .dis _ _, _, _ => .no
  | .hp e, env, h => do
    let (x, h) ← ev e env h
    match x with
    | .fr q => .ok (.p (.hf h.p.length), ⟨h.s, h.p ++ [q]⟩)
    | _ => .no
  | .xf i f, env, h => match sget env i with
    | some (.xc c l) => if f ∈ G.xg c then do
      let p ← Rq.of (l.lookup f)
      pure (.p p, h) else .no
    | _ => .no
  | .xi i ts, env, h => match sget env i with
    | some (.xc c _) => do
      let b ← Rq.of (xtAny G c ts)
      pure (.p (.bl b), h)
    | _ => .no
/-- values alone -/
def evs : List E → Fr → Hh → Rq (List P × Hh)
  | [], _, h => .ok ([], h)
  | e :: es, env, h => do
    let (x, h) ← ev e env h
    let x ← Rq.of x.val
    let (xs, h) ← evs es env h
    pure (x :: xs, h)
/-- arguments of an own def: values or places -/
def evA : List E → Fr → Hh → Rq (List Sl × Hh)
  | [], _, h => .ok ([], h)
  | e :: es, env, h => do
    let (x, h) ← ev e env h
    let x ← Rq.of x.sl
    let (xs, h) ← evA es env h
    pure (x :: xs, h)
/-- arguments of a built-in: read -/
def evB : List E → Fr → Hh → Rq (List P × Hh)
  | [], _, h => .ok ([], h)
  | e :: es, env, h => do
    let (x, h) ← ev e env h
    let (xs, h) ← evB es env h
    let x ← Rq.of (rdv x h)
    pure (x :: xs, h)
def evO : Option E → Fr → Hh → Rq (Option Int × Hh)
  | none, _, h => .ok (none, h)
  | some e, env, h => do
    let (x, h) ← ev e env h
    let x ← Rq.of (rdv x h)
    let i ← Rq.of (intP x)
    pure (some i, h)
def evT : T → Fr → Hh → Rq (Bool × Hh)
  | .v e, env, h => do
    let (x, h) ← ev e env h
    let x ← Rq.of (rdv x h)
    let b ← Rq.of (truP x)
    pure (b, h)
  | .cmp op a b, env, h => do
    let (x, h) ← ev a env h
    let (y, h) ← ev b env h
    let x ← Rq.of (rdv x h)
    let y ← Rq.of (rdv y h)
    let r ← Rq.of (opCmp op x y)
    pure (r, h)
  | .chn op op' a b c, env, h => do
    let (x, h) ← ev a env h
    let (y, h) ← ev b env h
    let x ← Rq.of (rdv x h)
    let y' ← Rq.of (rdv y h)
    let r ← Rq.of (opCmp op x y')
    if r = true then do
      let (z, h) ← ev c env h
      let y ← Rq.of (rdv y h)
      let z ← Rq.of (rdv z h)
      let r ← Rq.of (opCmp op' y z)
      pure (r, h)
    else pure (false, h)
  | .and a b, env, h => do
    let (x, h) ← evT a env h
    if x = true then evT b env h else pure (false, h)
  | .or a b, env, h => do
    let (x, h) ← evT a env h
    if x = true then pure (true, h) else evT b env h
  | .one a, env, h => evT a env h
  | .not a, env, h => do
    let (x, h) ← evT a env h
    pure (!x, h)
def evTs : List T → Fr → Hh → Rq (Bool × Hh)
  | [], _, h => .ok (true, h)
  | [c], env, h => evT c env h
  | _, _, _ => .no
/-- what is walked: its items -/
def evI : I → Fr → Hh → Rq (List P × Hh)
  | .e e, env, h => do
    let (x, h) ← ev e env h
    let x ← Rq.of x.val
    let l ← Rq.of (seqP x)
    pure (l, h)
  | .rng1 a, env, h => do
    let (x, h) ← ev a env h
    let x ← Rq.of (rdv x h)
    let i ← Rq.of (intP x)
    if -(2 ^ 62) ≤ i ∧ i < 2 ^ 62 then pure ((List.range i.toNat).map fun k => .int (k : Nat), h) else .no
  | .rng2 a b, env, h => do
    let (x, h) ← ev a env h
    let (y, h) ← ev b env h
    let x ← Rq.of (rdv x h)
    let y ← Rq.of (rdv y h)
    let i ← Rq.of (intP x)
    let j ← Rq.of (intP y)
    if -(2 ^ 62) ≤ i ∧ i < 2 ^ 62 ∧ -(2 ^ 62) ≤ j ∧ j < 2 ^ 62 then pure ((List.range (j - i).toNat).map fun k => .int (i + (k : Nat)), h) else .no
  | .zip a b, env, h => do
    let (x, h) ← ev a env h
    let (y, h) ← ev b env h
    let x ← Rq.of x.val
    let y ← Rq.of y.val
    match x, y with
    | .lst xs, .lst ys => pure ((xs.zip ys).map fun p => .tup [p.1, p.2], h)
    | _, _ => .no
  | .enum a, env, h => do
    let (x, h) ← ev a env h
    let x ← Rq.of x.val
    match x with
    | .lst xs => pure (enumP 0 xs, h)
    | _ => .no
end
end
/-! ### statements -/
inductive Oc where
  | nx | bk | ct | rt (r : R) | ex (e : Ex)
abbrev Run := Fr → Hh → Rq (Oc × Fr × Hh)
/-- an expression in a statement: what it lets out is an end -/
def inS {α : Type} (q : Rq α) (env : Fr) (f : α → Rq (Oc × Fr × Hh)) : Rq (Oc × Fr × Hh) :=
  match q with
  | .no => .no
  | .ok a => f a
  | .ex e h => .ok (.ex e, env, h)
def soleRef (env : Fr) (i k : Nat) : Bool := (env.set i none).all fun s => match s with
  | some (.rf j) => j != k
  | _ => true
def noXc (env : Fr) : Bool := env.all fun s => match s with
  | some (.xc _ _) => false
  | _ => true
def putF' (f : Str) (v : P) : List (Str × P) → List (Str × P)
  | [] => [(f, v)]
  | (k, x) :: r => if k = f then (k, v) :: r else (k, x) :: putF' f v r
def putAt (fl : Nat → List Str) (v : P) (x : P) : P → Option P
  | .lst l => match x with
    | .int i => (ixN l.length i).map fun j => .lst (l.set j v)
    | _ => none
  | .dic l => (keyP x).bind fun k => if l.length < sizeLine then some (.dic (kput l k v)) else none
  | _ => none
def fputAt (fl : Nat → List Str) (f : Str) (v : P) : P → Option P
  | .obj c l => if f ∈ fl c ∧ l.length < 1000 then some (.obj c (putF' f v l)) else none
  | _ => none
/-- a change at a place -/
def atPl (r : R) (h : Hh) (φ : P → Option P) : Option Hh := do
  let k ← r.pl
  let q ← h.get k
  let q' ← φ q
  pure (h.put k q')
def forGo (bind : P → Fr → Option Fr) (body : Run) : List P → Run
  | [], env, h => .ok (.nx, env, h)
  | x :: xs, env, h => do
    let env1 ← Rq.of (bind x env)
    let (o, env2, h2) ← body env1 h
    match o with
    | .nx => forGo bind body xs env2 h2
    | .ct => forGo bind body xs env2 h2
    | .bk => .ok (.nx, env2, h2)
    | .rt r => .ok (.rt r, env2, h2)
    | .ex e => .ok (.ex e, env2, h2)
section
variable (C : Cl) (G : Tb) (n0 : Nat)
mutual
def evS : S → Run
  | .set i e, env, h => inS (ev C G e env h) env fun (r, h) => do
    let s ← Rq.of r.sl
    if i < env.length then pure (.nx, env.set i (some s), h) else .no
  | .new i e, env, h => inS (ev C G e env h) env fun (r, h) =>
    match r with
    | .fr q => if i < env.length then pure (.nx, env.set i (some (.rf h.s.length)), ⟨h.s ++ [q], h.p⟩) else .no
    | _ => .no
  | .ren i e, env, h => inS (ev C G e env h) env fun (r, h) =>
    match r, sget env i with
    | .fr q, some (.rf k) => if n0 ≤ k ∧ k < h.s.length ∧ soleRef env i k = true then pure (.nx, env, h.put (.s k) q) else .no
    | _, _ => .no
  | .frz i, env, h =>
    match sget env i with
    | some (.rf k) => match h.s[k]? with
      | some q => if n0 ≤ k ∧ soleRef env i k = true ∧ isNonP q = false then pure (.nx, env.set i (some (.p q)), h.put (.s k) .non) else .no
      | none => .no
    | _ => .no
  | .put o i e, env, h => inS (ev C G e env h) env fun (r, h) => inS (ev C G o env h) env fun (o, h) => inS (ev C G i env h) env fun (x, h) => do
    let v ← Rq.of r.val
    let x ← Rq.of (rdv x h)
    let h ← Rq.of (atPl o h (putAt G.fl v x))
    pure (.nx, env, h)
  | .fset o f e, env, h => inS (ev C G e env h) env fun (r, h) => inS (ev C G o env h) env fun (o, h) => do
    let v ← Rq.of r.val
    let h ← Rq.of (atPl o h (fputAt G.fl f v))
    pure (.nx, env, h)
  | .ex e, env, h => inS (ev C G e env h) env fun (_, h) => pure (.nx, env, h)
  | .ret e, env, h => inS (ev C G e env h) env fun (r, h) => pure (.rt r, env, h)
  | .ret0, env, h => .ok (.rt (.p .non), env, h)
  | .iff c a b, env, h => inS (evT C G c env h) env fun (x, h) => if x = true then evSs a env h else evSs b env h
  | .for_ src tg b, env, h => inS (evI C G src env h) env fun (items, h) => forGo (fun x env => bindT tg x env) (evSs b) items env h
  | .brk, env, h => .ok (.bk, env, h)
  | .cont, env, h => .ok (.ct, env, h)
  | .pass, env, h => .ok (.nx, env, h)
  | .bad, _, _ => .no
  | .rai c _ es, env, h => inS (evs C G es env h) env fun (xs, h) => match G.xi c with
    | some fs => if fs.length = xs.length then .ok (.ex ⟨c, (fs.zip xs).reverse⟩, env, h) else .no
    | none => .no
  | .tra b c i s, env, h => do
    let (o, env, h) ← evSs b env h
    match o with
    | .ex e => do
      let t ← Rq.of (G.xs e.c c)
      if t = true then
        if noXc env = true ∧ i < env.length then do
          let (o, env, h) ← evSs s (env.set i (some (.xc e.c e.l))) h
          if noXc (env.set i none) = true then
            match o with
            | .ex _ => .no
            | o => pure (o, env.set i none, h)
          else .no
        else .no
      else pure (.ex e, env, h)
    | o => pure (o, env, h)
def evSs : List S → Run
  | [], env, h => .ok (.nx, env, h)
  | s :: ss, env, h => do
    let (o, env, h) ← evS s env h
    match o with
    | .nx => evSs ss env h
    | o => pure (o, env, h)
end
end
end EV

set_option Elab.async false
set_option linter.all false
set_option maxRecDepth 100000
/-! EvD: what is laid anew; operations on values -/
namespace EV
open PySem L2

example (C : Cl) (G : Tb) : ev C G (.int 3) [] ⟨[], []⟩ = .ok (.p (.int 3), ⟨[], []⟩) := rfl

section
variable {g : Gc} {M : Mp} {h : Hh} {H : Hp} {p : Addr} {o : HO}
theorem RH.notM (rh : RH g M h H) (hp : H p = none) : ¬ NM M p := fun z => by
  obtain ⟨o, e⟩ := rh.live p z
  rw [hp] at e; cases e
theorem new_stp (hp : H p = none) : Stp M H (MA M p) (upd H p o) where
  keep := fun a u e _ => by rw [upd_ne (ne_of_none e hp)]; exact e
  new := fun a z => by
    rcases z with z | rfl | z
    · exact .inl (.inl z)
    · exact .inr hp
    · exact .inl (.inr z)
  wr := fun a z => .inl z
  all := fun a z => by
    unfold upd at z
    split at z
    · cases z
    · exact z
  pm := fun _ _ z => z
theorem RH.upd_new (rh : RH g M h H) (hp : H p = none) : RH g (MA M p) h (upd H p o) where
  ls := rh.ls
  lp := rh.lp
  ob := fun r q a e1 e2 => by
    rcases rh.ob r q a e1 e2 with z | z
    · exact .inl z
    · exact .inr (z.step (new_stp hp) fun u e => by rw [upd_ne (ne_of_none e hp)]; exact e)
  nd := rh.nd
  live := fun a z => by
    by_cases hap : a = p
    · subst hap; exact ⟨_, upd_same⟩
    · have z' : NM M a := by
        rcases z with z | z | z
        · exact .inl z
        · exact absurd z hap
        · exact .inr z
      obtain ⟨u, e⟩ := rh.live a z'
      exact ⟨u, by rw [upd_ne hap]; exact e⟩
  sep := fun a z => by
    rcases z with rfl | z
    · exact fun q => rh.notM hp (.inl q)
    · exact rh.sep a z
theorem new_sx (hp : H p = none) : Sx M H M (upd H p o) := ⟨(new_stp hp).less nm_ma (fun _ h => h) rfl, rfl, rfl⟩
theorem Out.newTup {vs : List V} {l : List P} (rh : RH g M h H) (hp : H p = none) (r : RPs g (NM M) H vs l) : Out g M H M h (.ref p) (upd H p (.tup vs)) (.p (.tup l)) :=
  ⟨new_sx hp, (rh.upd_new hp).less rfl rfl fun _ h => .inr h, .tup (.inl ⟨rh.notM hp, .inl upd_same⟩) (r.step (new_sx hp).st)⟩
theorem Out.newLst {vs : List V} {l : List P} (rh : RH g M h H) (hp : H p = none) (r : RPs g (NM M) H vs l) : Out g M H M h (.ref p) (upd H p (.lst vs)) (.fr (.lst l)) :=
  ⟨p, rfl, rh.notM hp, hp, new_stp hp, rfl, rfl, rh.upd_new hp, vs, upd_same, r.step (new_stp hp)⟩
theorem Out.newDic {vs : List (Key × V)} {l : List (Key × P)} (rh : RH g M h H) (hp : H p = none) (r : RKs g (NM M) H vs l) : Out g M H M h (.ref p) (upd H p (.dK vs)) (.fr (.dic l)) :=
  ⟨p, rfl, rh.notM hp, hp, new_stp hp, rfl, rfl, rh.upd_new hp, vs, upd_same, r.step (new_stp hp)⟩
theorem Out.val {v : V} {q : P} (rh : RH g M h H) (r : RP g (NM M) H v q) : Out g M H M h v H (.p q) := ⟨Sx.refl, rh, r⟩
end
section
variable {g : Gc} {M : Mp} {H : Hp} {v : V}
theorem RdV.non (r : RdV g M H v .non) : v = .non := by
  rcases r with r | ⟨_, _, r⟩
  · cases r; rfl
  · exact r.elim
theorem RdV.bl {b : Bool} (r : RdV g M H v (.bl b)) : v = .bl b := by
  rcases r with r | ⟨_, _, r⟩
  · cases r; rfl
  · exact r.elim
theorem RdV.int {i : Int} (r : RdV g M H v (.int i)) : v = .int i := by
  rcases r with r | ⟨_, _, r⟩
  · cases r; rfl
  · exact r.elim
theorem RdV.str {s : Str} (r : RdV g M H v (.str s)) : v = .str s := by
  rcases r with r | ⟨_, _, r⟩
  · cases r; rfl
  · exact r.elim
theorem RdV.tup {l : List P} (r : RdV g M H v (.tup l)) : ∃ a vs, v = .ref a ∧ SqT g.K H a vs ∧ RPs g (NM M) H vs l := by
  rcases r with r | ⟨_, _, r⟩
  · cases r with | tup a b => exact ⟨_, _, rfl, a.sq, b⟩
  · exact r.elim
theorem RdV.lst {l : List P} (r : RdV g M H v (.lst l)) : ∃ a vs, v = .ref a ∧ H a = some (.lst vs) ∧ RPs g (NM M) H vs l := by
  rcases r with r | ⟨a, e, vs, r1, r2⟩
  · cases r with | lst _ a b => exact ⟨_, _, rfl, a, b⟩
  · exact ⟨a, vs, e, r1, r2⟩
theorem RdV.flst {l : List P} (r : RdV g M H v (.flst l)) : ∃ a vs, v = .ref a ∧ SqL g.K H a vs ∧ RPs g (NM M) H vs l := by
  rcases r with r | ⟨_, _, r⟩
  · cases r with | flst a b => exact ⟨_, _, rfl, a.sq, b⟩
  · exact r.elim
theorem RdV.dic {l : List (Key × P)} (r : RdV g M H v (.dic l)) : ∃ a vs, v = .ref a ∧ H a = some (.dK vs) ∧ RKs g (NM M) H vs l := by
  rcases r with r | ⟨a, e, vs, r1, r2⟩
  · cases r with | dic _ a b => exact ⟨_, _, rfl, a, b⟩
  · exact ⟨a, vs, e, r1, r2⟩
theorem RdV.obj {c : Nat} {l : List (Str × P)} (r : RdV g M H v (.obj c l)) : ∃ a dx vs, v = .ref a ∧ H a = some (.ins (g.ca c) dx vs) ∧ RFs g (NM M) H vs l := by
  rcases r with r | ⟨a, e, dx, vs, r1, r2⟩
  · cases r with | obj _ a b => exact ⟨_, _, _, rfl, a, b⟩
  · exact ⟨a, dx, vs, e, r1, r2⟩
mutual
theorem toD_dp : ∀ {p : P} {d : PyData} {v : V}, toD p = some d → RP g (NM M) H v p → Dp g.K H v d
  | .non, _, _, e, .non => by cases e; exact .non
  | .bl b, _, _, e, .bl => by cases e; exact .bl b
  | .int i, _, _, e, .int => by cases e; exact .int i
  | .str s, _, _, e, .str => by cases e; exact .str s
  | .tup l, d, _, e, .tup a b => by
    unfold toD at e
    cases q : toDs l with
    | none => rw [q] at e; cases e
    | some ds => rw [q] at e; cases e; exact .tup a.sq (toDs_dp q b)
  | .lst l, d, _, e, .lst _ a b => by
    unfold toD at e
    cases q : toDs l with
    | none => rw [q] at e; cases e
    | some ds => rw [q] at e; cases e; exact .lst (SqL.of a) (toDs_dp q b)
theorem toDs_dp : ∀ {ps : List P} {ds : List PyData} {vs : List V}, toDs ps = some ds → RPs g (NM M) H vs ps → DpAll g.K H vs ds
  | [], _, _, e, .nil => by cases e; exact .nil
  | p :: ps, _, _, e, .cons a b => by
    unfold toDs at e
    cases q1 : toD p with
    | none => rw [q1] at e; cases e
    | some d =>
      cases q2 : toDs ps with
      | none => rw [q1, q2] at e; cases e
      | some ds => rw [q1, q2] at e; cases e; exact .cons (toD_dp q1 a) (toDs_dp q2 b)
end
theorem RdV.dp {p : P} {d : PyData} (r : RdV g M H v p) (e : toD p = some d) : Dp g.K H v d := by
  rcases r with r | ⟨a, rfl, r⟩
  · exact toD_dp e r
  · cases p with
    | lst l =>
      obtain ⟨vs, r1, r2⟩ := r
      unfold toD at e
      cases q : toDs l with
      | none => rw [q] at e; cases e
      | some ds => rw [q] at e; cases e; exact .lst (SqL.of r1) (toDs_dp q r2)
    | dic l => unfold toD at e; cases e
    | obj c l => unfold toD at e; cases e
    | _ => exact r.elim
theorem flat_V {p : P} {v : V} (r : RP g (NM M) H v p) (f : flatP p = true) : flatV v = true := by
  cases r <;> first | rfl | (unfold flatP at f; cases f)
theorem flat_Vs : ∀ {ps : List P} {vs : List V}, RPs g (NM M) H vs ps → ps.all flatP = true → vs.all flatV = true
  | _, _, .nil, _ => rfl
  | _, _, .cons a b, h => by
    simp only [List.all_cons, Bool.and_eq_true] at h ⊢
    exact ⟨flat_V a h.1, flat_Vs b h.2⟩
theorem eqU_V {p q : P} {v w : V} (a : RP g (NM M) H v p) (b : RP g (NM M) H w q) (f1 : flatP p = true) (f2 : flatP q = true) : eqV v w = eqU p q := by
  cases a <;> cases b <;> first | rfl | cases f1 | cases f2
theorem inP_V {x : P} {v : V} (a : RP g (NM M) H v x) (f1 : flatP x = true) : ∀ {ps : List P} {vs : List V}, RPs g (NM M) H vs ps → ps.all flatP = true → inV v vs = inP x ps
  | _, _, .nil, _ => rfl
  | _, _, .cons (p := p) (ps := ps) r b, h => by
    simp only [List.all_cons, Bool.and_eq_true] at h
    have e := inP_V a f1 b h.2
    unfold inV inP at e ⊢
    rw [List.any_cons, List.any_cons, e, eqU_V r a h.1 f1]
theorem RdV.rp {p : P} (r : RdV g M H v p) (f : flatP p = true) : RP g (NM M) H v p := by
  rcases r with r | ⟨a, rfl, r⟩
  · exact r
  · cases p <;> first | exact r.elim | cases f
end
end EV

set_option Elab.async false
set_option linter.all false
set_option maxRecDepth 100000
/-! EvE: the operators on values are the machine's -/
namespace EV
open PySem L2

def rOp (g : Gc) (f : P → P → Option R) : R2 := fun v w H Q => ∃ M h x y r, RH g M h H ∧ RdV g M H v x ∧ RdV g M H w y ∧ f x y = some r ∧ ∀ u H', Out g M H M h u H' r → Q u H'
section
variable {g : Gc} {X : Cx}
/-- from a rule whose reading is implied -/
theorem _root_.L2.OpR.weak {f : Value → Value → Sem Value} {r r' : R2} (h : OpR X f r) (w : ∀ x y H Q, r' x y H Q → r x y H Q) : OpR X f r' :=
  fun pins s σ H x y v u Q I rx ry q => h pins s σ H x y v u Q I rx ry (w _ _ _ _ q)
theorem op_bin (hK : g.K = X.K) (op : Operator) : OpR X (binaryOp op) (rOp g (opBin op)) := by
  intro pins s σ H v w u1 u2 Q I r1 r2 ⟨M, h, x, y, r, rh, dx, dy, e, k⟩
  have key : ∀ (x y : P) (r : R), opBin op x y = some r → RdV g M H v x → RdV g M H w y → (∀ u H', Out g M H M h u H' r → Q u H') → wpAny (model X.prog X.w) X.A (binaryOp op u1 u2) (EP X pins σ Q) X.xe s := by
    clear e dx dy k
    intro x y r e dx dy k
    unfold opBin at e
    split at e
    · cases e
      exact op_add pins s σ H v w u1 u2 Q I r1 r2 ⟨_, _, dx.int, dy.int, k _ _ (Out.val rh .int)⟩
    · split at e
      · rename_i hl; cases e
        exact op_add_str pins s σ H v w u1 u2 Q I r1 r2 ⟨_, _, dx.str, dy.str, hl, k _ _ (Out.val rh .str)⟩
      · cases e
    · split at e
      · rename_i hl; cases e
        obtain ⟨a, vs, e1, ha, rs⟩ := dx.lst
        obtain ⟨b, ws, e2, hb, rt⟩ := dy.lst
        exact op_cat pins s σ H v w u1 u2 Q I r1 r2 ⟨a, b, vs, ws, e1, e2, ha, hb, by rw [rs.length, rt.length]; exact hl, fun p hp => k _ _ (Out.newLst rh hp (rs.append rt))⟩
      · cases e
    · split at e
      · rename_i hl; cases e
        obtain ⟨a, vs, e1, ha, rs⟩ := dx.tup
        obtain ⟨b, ws, e2, hb, rt⟩ := dy.tup
        rw [hK] at ha hb
        refine op_catA pins s σ H v w u1 u2 Q I r1 r2 ⟨a, b, vs, ws, e1, e2, ha, hb, by rw [rs.length, rt.length]; exact hl, fun z => ?_, fun _ z => ?_, fun _ _ p hp => k _ _ (Out.newTup rh hp (rs.append rt))⟩
        · subst z; cases rs
          subst e2
          rcases dy with dy | ⟨_, _, dy⟩
          · exact k _ _ (Out.val rh dy)
          · exact dy.elim
        · subst z; cases rt
          subst e1
          rcases dx with dx | ⟨_, _, dx⟩
          · rw [List.append_nil] at k; exact k _ _ (Out.val rh dx)
          · exact dx.elim
      · cases e
    · cases e
      exact op_sub pins s σ H v w u1 u2 Q I r1 r2 ⟨_, _, dx.int, dy.int, k _ _ (Out.val rh .int)⟩
    · split at e
      · rename_i hl; cases e
        exact op_mul pins s σ H v w u1 u2 Q I r1 r2 ⟨_, _, dx.int, dy.int, hl, k _ _ (Out.val rh .int)⟩
      · cases e
    · split at e
      · rename_i hl; cases e
        exact op_fdiv pins s σ H v w u1 u2 Q I r1 r2 ⟨_, _, dx.int, dy.int, hl, k _ _ (Out.val rh .int)⟩
      · cases e
    · split at e
      · rename_i hl; cases e
        exact op_mod pins s σ H v w u1 u2 Q I r1 r2 ⟨_, _, dx.int, dy.int, hl, k _ _ (Out.val rh .int)⟩
      · cases e
    · split at e
      · rename_i hl; cases e
        exact op_pow pins s σ H v w u1 u2 Q I r1 r2 ⟨_, _, dx.int, dy.int, hl, k _ _ (Out.val rh .int)⟩
      · cases e
    · cases e
  exact key x y r e dx dy k

theorem un_neg' : UnR X (unaryOp .USub) (fun v H Q => ∃ M h i, RH g M h H ∧ RdV g M H v (.int i) ∧ ∀ u H', Out g M H M h u H' (.p (.int (-i))) → Q u H') := by
  intro pins s σ H v u Q I r ⟨M, h, i, rh, dx, k⟩
  exact un_neg pins s σ H v u Q I r ⟨_, dx.int, k _ _ (Out.val rh .int)⟩

def rCmp (g : Gc) (f : P → P → Option Bool) : R2 := fun v w H Q => ∃ M h x y b, RH g M h H ∧ RdV g M H v x ∧ RdV g M H w y ∧ f x y = some b ∧ Q (.bl b) H
theorem eqF_scal {x y : P} {b : Bool} (e : eqF x y = some b) : ∃ v w, scal v w = true ∧ decide (v = w) = b ∧ (∀ (M : Mp) (H : Hp) (u : V), RdV g M H u x → u = v) ∧ (∀ (M : Mp) (H : Hp) (u : V), RdV g M H u y → u = w) := by
  unfold eqF at e
  split at e <;> first
    | (cases e; done)
    | (cases e; first
      | exact ⟨.non, .non, rfl, rfl, fun _ _ _ r => r.non, fun _ _ _ r => r.non⟩
      | exact ⟨.non, .int _, rfl, rfl, fun _ _ _ r => r.non, fun _ _ _ r => r.int⟩
      | exact ⟨.int _, .non, rfl, rfl, fun _ _ _ r => r.int, fun _ _ _ r => r.non⟩
      | exact ⟨.non, .bl _, rfl, rfl, fun _ _ _ r => r.non, fun _ _ _ r => r.bl⟩
      | exact ⟨.bl _, .non, rfl, rfl, fun _ _ _ r => r.bl, fun _ _ _ r => r.non⟩
      | exact ⟨.non, .str _, rfl, rfl, fun _ _ _ r => r.non, fun _ _ _ r => r.str⟩
      | exact ⟨.str _, .non, rfl, rfl, fun _ _ _ r => r.str, fun _ _ _ r => r.non⟩
      | exact ⟨.int _, .int _, rfl, by simp, fun _ _ _ r => r.int, fun _ _ _ r => r.int⟩
      | exact ⟨.bl _, .bl _, rfl, by simp, fun _ _ _ r => r.bl, fun _ _ _ r => r.bl⟩
      | exact ⟨.str _, .str _, rfl, by simp, fun _ _ _ r => r.str, fun _ _ _ r => r.str⟩
      | exact ⟨.int _, .str _, rfl, by simp, fun _ _ _ r => r.int, fun _ _ _ r => r.str⟩
      | exact ⟨.str _, .int _, rfl, by simp, fun _ _ _ r => r.str, fun _ _ _ r => r.int⟩
      | exact ⟨.bl _, .str _, rfl, by simp, fun _ _ _ r => r.bl, fun _ _ _ r => r.str⟩
      | exact ⟨.str _, .bl _, rfl, by simp, fun _ _ _ r => r.str, fun _ _ _ r => r.bl⟩)
theorem op_eqQ (hK : g.K = X.K) (hu : X.A.units + 64 < cLine) : OpR X (compareOp .Eq) (rCmp g eqP) := by
  intro pins s σ H v w u1 u2 Q I r1 r2 ⟨M, h, x, y, b, rh, dx, dy, e, k⟩
  unfold eqP at e
  split at e
  · rename_i r er
    cases e
    obtain ⟨v', w', sc, ed, h1, h2⟩ := eqF_scal (g := g) er
    cases h1 _ _ _ dx; cases h2 _ _ _ dy
    exact op_eq pins s σ H v w u1 u2 Q I r1 r2 ⟨sc, by rw [ed]; exact k⟩
  · simp only [Option.bind_eq_bind, Option.bind_eq_some_iff] at e
    obtain ⟨d, e1, e', e2, e3⟩ := e
    split at e3
    · rename_i sh
      cases e3
      have p1 := dx.dp e1
      have p2 := dy.dp e2
      rw [hK] at p1 p2
      exact op_eqD hu pins s σ H v w u1 u2 Q I r1 r2 ⟨d, e', p1, p2, sh.1, sh.2, k⟩
    · cases e3
theorem op_neQ (hK : g.K = X.K) (hu : X.A.units + 64 < cLine) : OpR X (compareOp .NotEq) (rCmp g fun a b => (eqP a b).map (!·)) := by
  intro pins s σ H v w u1 u2 Q I r1 r2 ⟨M, h, x, y, b, rh, dx, dy, e, k⟩
  simp only [Option.map_eq_some_iff] at e
  obtain ⟨b', e, rfl⟩ := e
  unfold eqP at e
  split at e
  · rename_i r er
    cases e
    obtain ⟨v', w', sc, ed, h1, h2⟩ := eqF_scal (g := g) er
    cases h1 _ _ _ dx; cases h2 _ _ _ dy
    exact op_ne pins s σ H v w u1 u2 Q I r1 r2 ⟨sc, by rw [ed]; exact k⟩
  · simp only [Option.bind_eq_bind, Option.bind_eq_some_iff] at e
    obtain ⟨d, e1, e', e2, e3⟩ := e
    split at e3
    · rename_i sh
      cases e3
      have p1 := dx.dp e1
      have p2 := dy.dp e2
      rw [hK] at p1 p2
      exact op_neD hu pins s σ H v w u1 u2 Q I r1 r2 ⟨d, e', p1, p2, sh.1, sh.2, k⟩
    · cases e3
theorem isNon_V {M : Mp} {H : Hp} {v : V} {x : P} (r : RdV g M H v x) : decide (v = .non) = isNonP x := by
  rcases r with r | ⟨a, rfl, r⟩
  · cases r <;> first | rfl | simp [isNonP]
  · cases x <;> first | exact r.elim | simp [isNonP]
end
end EV

set_option Elab.async false
set_option linter.all false
set_option maxRecDepth 100000
/-! EvF: comparisons, subscripts, truth, slices -/
namespace EV
open PySem PySem.Spec PyProof.Rows L2
section
variable {g : Gc} {M : Mp} {N : Nx} {H : Hp}
theorem keyP_V {p : P} {k : Key} {v : V} (e : keyP p = some k) (r : RdV g M H v p) : v = kV k := by
  cases p with
  | int i => cases e; exact r.int
  | str s => cases e; exact r.str
  | _ => cases e
theorem RKs.val {k : Key} : ∀ {vs : List (Key × V)} {l : List (Key × P)}, RKs g N H vs l → (∀ p, kget l k = some p → ∃ v, valV vs k = some v ∧ RP g N H v p) ∧ (kget l k = none → valV vs k = none)
  | _, _, .nil => ⟨fun p e => by simp [kget] at e, fun _ => rfl⟩
  | _, _, .cons (k := k') (v := v) (p := p) (ps := ps) (vs := vs) r b => by
    have ih := RKs.val (k := k) b
    unfold kget valV at ih ⊢
    by_cases e : k' = k
    · simp only [List.find?_cons, e, decide_true, Option.map_some]
      exact ⟨fun q z => by cases z; exact ⟨v, rfl, r⟩, fun z => by cases z⟩
    · simp only [List.find?_cons, e, decide_false]
      exact ih
theorem RKs.isSome {k : Key} {vs : List (Key × V)} {l : List (Key × P)} (r : RKs g N H vs l) : (valV vs k).isSome = (kget l k).isSome := by
  obtain ⟨h1, h2⟩ := RKs.val (k := k) r
  cases e : kget l k with
  | none => rw [h2 e]; rfl
  | some p => obtain ⟨v, e1, _⟩ := h1 p e; rw [e1]; rfl
theorem RKs.length : ∀ {v : List (Key × V)} {p : List (Key × P)}, RKs g N H v p → v.length = p.length
  | _, _, .nil => rfl
  | _, _, .cons _ b => by simp [RKs.length b]
theorem RKs.any (k : Key) : ∀ {vs : List (Key × V)} {l : List (Key × P)}, RKs g N H vs l → (vs.any fun kv => decide (kv.1 = k)) = l.any fun kv => decide (kv.1 = k)
  | _, _, .nil => rfl
  | _, _, .cons _ b => by simp only [List.any_cons, RKs.any k b]
theorem RKs.repl (k : Key) {v : V} {p : P} (r : RP g N H v p) : ∀ {vs : List (Key × V)} {l : List (Key × P)}, RKs g N H vs l → RKs g N H (vs.map fun kv => if kv.1 = k then (kv.1, v) else kv) (l.map fun kv => if kv.1 = k then (kv.1, p) else kv)
  | _, _, .nil => .nil
  | _, _, .cons (k := k') a b => by
    simp only [List.map_cons]
    by_cases e : k' = k
    · rw [if_pos e, if_pos e]; exact .cons r (RKs.repl k r b)
    · rw [if_neg e, if_neg e]; exact .cons a (RKs.repl k r b)
theorem RKs.snoc {k : Key} {v : V} {p : P} (r : RP g N H v p) : ∀ {vs : List (Key × V)} {l : List (Key × P)}, RKs g N H vs l → RKs g N H (vs ++ [(k, v)]) (l ++ [(k, p)])
  | _, _, .nil => .cons r .nil
  | _, _, .cons a b => .cons a (RKs.snoc r b)
theorem RKs.put (k : Key) {v : V} {p : P} (r : RP g N H v p) {vs : List (Key × V)} {l : List (Key × P)} (b : RKs g N H vs l) : RKs g N H (putK vs k v) (kput l k p) := by
  unfold putK kput
  rw [RKs.any k b]
  split
  · exact RKs.repl k r b
  · exact RKs.snoc r b
theorem RKs.drop (k : Key) : ∀ {vs : List (Key × V)} {l : List (Key × P)}, RKs g N H vs l → RKs g N H (dropK vs k) (kdrop l k)
  | _, _, .nil => .nil
  | _, _, .cons (k := k') a b => by
    have ih := RKs.drop k b
    unfold dropK kdrop at ih ⊢
    by_cases e : k' = k
    · simp only [List.filter_cons, e, ne_eq, not_true_eq_false, decide_false]; exact ih
    · simp only [List.filter_cons, e, ne_eq, not_false_eq_true, decide_true, if_true]; exact .cons a ih
end
section
variable {g : Gc} {X : Cx}
theorem opIn_neg : OpR X (compareOp .In) (rCmp g opIn) → True := fun _ => trivial
theorem op_inQ (hK : g.K = X.K) (hu : X.A.units + 1 < cLine) : OpR X (compareOp .In) (rCmp g opIn) := by
  intro pins s σ H v w u1 u2 Q I r1 r2 ⟨M, h, x, y, b, rh, dx, dy, e, k⟩
  unfold opIn at e
  split at e
  · split at e
    · rename_i f; cases e
      obtain ⟨a, vs, e2, ha, rs⟩ := dy.lst
      have q := inP_V (dx.rp f.1) f.1 rs f.2
      exact op_in_seq pins s σ H v w u1 u2 Q I r1 r2 ⟨a, vs, e2, .inl (SqL.of ha), flat_V (dx.rp f.1) f.1, flat_Vs rs f.2, by rw [q]; exact k⟩
    · cases e
  · split at e
    · rename_i f; cases e
      obtain ⟨a, vs, e2, ha, rs⟩ := dy.tup
      rw [hK] at ha
      have q := inP_V (dx.rp f.1) f.1 rs f.2
      exact op_in_seq pins s σ H v w u1 u2 Q I r1 r2 ⟨a, vs, e2, .inr ha, flat_V (dx.rp f.1) f.1, flat_Vs rs f.2, by rw [q]; exact k⟩
    · cases e
  · split at e
    · cases e
      exact op_in_str pins s σ H v w u1 u2 Q I r1 r2 ⟨_, _, dx.str, dy.str, k⟩
    · cases e
  · simp only [Option.map_eq_some_iff] at e
    obtain ⟨key, e1, rfl⟩ := e
    obtain ⟨a, vs, e2, ha, rs⟩ := dy.dic
    have e3 := keyP_V e1 dx
    subst e2
    obtain rfl : u2 = Value.ref a := r2
    subst e3
    exact d_in hu I (DGet.k ha) r1 fun s4 I4 => ⟨.bl (valV vs key).isSome, H, I4, rfl, by rw [rs.isSome]; exact k⟩
  · cases e
theorem op_notInQ (hK : g.K = X.K) (hu : X.A.units + 1 < cLine) : OpR X (compareOp .NotIn) (rCmp g fun a b => (opIn a b).map (!·)) := by
  intro pins s σ H v w u1 u2 Q I r1 r2 ⟨M, h, x, y, b, rh, dx, dy, e, k⟩
  simp only [Option.map_eq_some_iff] at e
  obtain ⟨b', e, rfl⟩ := e
  unfold opIn at e
  split at e
  · split at e
    · rename_i f; cases e
      obtain ⟨a, vs, e2, ha, rs⟩ := dy.lst
      have q := inP_V (dx.rp f.1) f.1 rs f.2
      exact op_notIn_seq pins s σ H v w u1 u2 Q I r1 r2 ⟨a, vs, e2, .inl (SqL.of ha), flat_V (dx.rp f.1) f.1, flat_Vs rs f.2, by simp only [if_true]; rw [q]; exact k⟩
    · cases e
  · split at e
    · rename_i f; cases e
      obtain ⟨a, vs, e2, ha, rs⟩ := dy.tup
      rw [hK] at ha
      have q := inP_V (dx.rp f.1) f.1 rs f.2
      exact op_notIn_seq pins s σ H v w u1 u2 Q I r1 r2 ⟨a, vs, e2, .inr ha, flat_V (dx.rp f.1) f.1, flat_Vs rs f.2, by simp only [if_true]; rw [q]; exact k⟩
    · cases e
  · split at e
    · cases e
      exact op_notin_str pins s σ H v w u1 u2 Q I r1 r2 ⟨_, _, dx.str, dy.str, k⟩
    · cases e
  · simp only [Option.map_eq_some_iff] at e
    obtain ⟨key, e1, rfl⟩ := e
    obtain ⟨a, vs, e2, ha, rs⟩ := dy.dic
    have e3 := keyP_V e1 dx
    subst e2
    obtain rfl : u2 = Value.ref a := r2
    subst e3
    exact d_notIn hu I (DGet.k ha) r1 fun s4 I4 => ⟨.bl (!(valV vs key).isSome), H, I4, rfl, by rw [rs.isSome]; exact k⟩
  · cases e
theorem op_cmp (hK : g.K = X.K) (hu : X.A.units + 64 < cLine) (op : CmpOp) : OpR X (compareOp op) (rCmp g (opCmp op)) := by
  cases op with
  | Eq => exact op_eqQ hK hu
  | NotEq => exact op_neQ hK hu
  | In => exact op_inQ hK (by omega)
  | NotIn => exact op_notInQ hK (by omega)
  | Lt =>
    intro pins s σ H v w u1 u2 Q I r1 r2 ⟨M, h, x, y, b, rh, dx, dy, e, k⟩
    unfold opCmp at e
    split at e <;> first
      | (cases e; done)
      | (rename_i q; cases q; done)
      | (cases e; exact op_lt pins s σ H v w u1 u2 Q I r1 r2 ⟨_, _, dx.int, dy.int, k⟩)
      | (cases e; exact op_lt_str pins s σ H v w u1 u2 Q I r1 r2 ⟨_, _, dx.str, dy.str, k⟩)
      | contradiction
  | LtE =>
    intro pins s σ H v w u1 u2 Q I r1 r2 ⟨M, h, x, y, b, rh, dx, dy, e, k⟩
    unfold opCmp at e
    split at e <;> first
      | (cases e; done)
      | (cases e; exact op_le pins s σ H v w u1 u2 Q I r1 r2 ⟨_, _, dx.int, dy.int, k⟩)
      | contradiction
  | Gt =>
    intro pins s σ H v w u1 u2 Q I r1 r2 ⟨M, h, x, y, b, rh, dx, dy, e, k⟩
    unfold opCmp at e
    split at e <;> first
      | (cases e; done)
      | (cases e; exact op_gt pins s σ H v w u1 u2 Q I r1 r2 ⟨_, _, dx.int, dy.int, k⟩)
      | contradiction
  | GtE =>
    intro pins s σ H v w u1 u2 Q I r1 r2 ⟨M, h, x, y, b, rh, dx, dy, e, k⟩
    unfold opCmp at e
    split at e <;> first
      | (cases e; done)
      | (cases e; exact op_ge pins s σ H v w u1 u2 Q I r1 r2 ⟨_, _, dx.int, dy.int, k⟩)
      | contradiction
  | Is =>
    intro pins s σ H v w u1 u2 Q I r1 r2 ⟨M, h, x, y, b, rh, dx, dy, e, k⟩
    unfold opCmp at e
    split at e <;> first
      | (cases e; done)
      | (cases e; exact op_isN pins s σ H v w u1 u2 Q I r1 r2 ⟨dy.non, by rw [isNon_V dx]; exact k⟩)
      | contradiction
  | IsNot =>
    intro pins s σ H v w u1 u2 Q I r1 r2 ⟨M, h, x, y, b, rh, dx, dy, e, k⟩
    unfold opCmp at e
    split at e <;> first
      | (cases e; done)
      | (cases e; exact op_notN pins s σ H v w u1 u2 Q I r1 r2 ⟨dy.non, by rw [isNon_V dx]; exact k⟩)
      | contradiction
theorem atI_RP {N : Nx} {H : Hp} {vs : List V} {ps : List P} {i : Int} {p : P} (r : RPs g N H vs ps) (e : atI ps i = some p) : ∃ v, atI vs i = some v ∧ RP g N H v p := by
  unfold atI at e ⊢
  rw [r.length]
  simp only [Option.bind_eq_some_iff] at e
  obtain ⟨j, e1, e2⟩ := e
  obtain ⟨v, e3, e4⟩ := r.get e2
  exact ⟨v, by rw [e1]; exact e3, e4⟩
def rIxP (g : Gc) (f : P → P → Option P) : R2 := fun v w H Q => ∃ M h x y p, RH g M h H ∧ RdV g M H v x ∧ RdV g M H w y ∧ f x y = some p ∧ ∀ u, RP g (NM M) H u p → Q u H
theorem ix_all (hK : g.K = X.K) (hu : X.A.units + 1 < cLine) : IxR X (rIxP g idxP) := by
  intro value slice pins s σ H v w u1 u2 Q I r1 r2 ⟨M, h, x, y, p, rh, dx, dy, e, k⟩ hs
  unfold idxP at e
  split at e
  · obtain ⟨a, vs, e2, ha, rs⟩ := dx.lst
    obtain ⟨z, e3, e4⟩ := atI_RP rs e
    exact ix_list value slice pins s σ H v w u1 u2 Q I r1 r2 ⟨a, vs, _, z, e2, dy.int, SqL.of ha, e3, k _ e4⟩ hs
  · obtain ⟨a, vs, e2, ha, rs⟩ := dx.tup
    obtain ⟨z, e3, e4⟩ := atI_RP rs e
    rw [hK] at ha
    exact ix_tup value slice pins s σ H v w u1 u2 Q I r1 r2 ⟨a, vs, _, z, e2, dy.int, ha, e3, k _ e4⟩ hs
  · obtain ⟨a, vs, e2, ha, rs⟩ := dx.flst
    obtain ⟨z, e3, e4⟩ := atI_RP rs e
    rw [hK] at ha
    exact ix_list value slice pins s σ H v w u1 u2 Q I r1 r2 ⟨a, vs, _, z, e2, dy.int, ha, e3, k _ e4⟩ hs
  · split at e
    · rename_i hl
      simp only [Option.map_eq_some_iff] at e
      obtain ⟨c, e1, rfl⟩ := e
      exact ix_str value slice pins s σ H v w u1 u2 Q I r1 r2 ⟨_, _, c, dx.str, dy.int, hl, e1, k _ .str⟩ hs
    · cases e
  · simp only [Option.bind_eq_some_iff] at e
    obtain ⟨key, e1, e2⟩ := e
    obtain ⟨a, vs, e3, ha, rs⟩ := dx.dic
    have e4 := keyP_V e1 dy
    subst e3
    obtain rfl : u1 = Value.ref a := r1
    subst e4
    obtain ⟨z, e5, e6⟩ := (RKs.val rs).1 p e2
    have gd : DGet H a (kV key) (some z) := by rw [← e5]; exact DGet.k ha
    have tn := dict_typeIs I gd
    have h2 : wpAny (model X.prog X.w) X.A (getItem (.ref a) u2) (fun w' s' => EP X pins σ Q w' s') X.xe s := d_getItem hu I gd r2 fun w' s3 I3 rw' => ⟨z, H, I3, rw', k _ e6⟩
    unfold subscriptTail
    refine wpAny_bind ?_
    rw [getitemInPython_of_ne tn.not_modules]
    refine wpAny_bind (wpAny_specialOf tn PySem.F.slot_dict_getitem.lookup ?_)
    have fin : wpAny (model X.prog X.w) X.A (subscripted slice false (.ref a) u2) (fun r s₃ => wpAny (model X.prog X.w) X.A (letTemporaryGo value (.ref a) r >>= fun _ => pure r) (EP X pins σ Q) X.xe s₃) X.xe s := by
      rw [hs]
      exact wpAny_operating (wpAny_mono h2 (fun r s₃ h₃ => wpAny_bind (wpAny_letTemporaryGo (wpAny_pure h₃))) fun _ _ x => x)
    first
      | exact wpAny_pure (wpAny_bind fin)
      | exact wpAny_bind (wpAny_pure (wpAny_bind fin))
      | exact wpAny_bind fin
  · cases e
def TruP (g : Gc) : V → Hp → (Bool → Hp → Prop) → Prop := fun v H Q => ∃ M h x b, RH g M h H ∧ RdV g M H v x ∧ truP x = some b ∧ Q b H
theorem isEmpty_RPs {N : Nx} {H : Hp} {vs : List V} {ps : List P} (r : RPs g N H vs ps) : vs.isEmpty = ps.isEmpty := by cases r <;> rfl
theorem isEmpty_RKs {N : Nx} {H : Hp} {vs : List (Key × V)} {ps : List (Key × P)} (r : RKs g N H vs ps) : vs.isEmpty = ps.isEmpty := by cases r <;> rfl
theorem truV_of (hK : g.K = X.K) {M : Mp} {H : Hp} {v : V} {x : P} {b : Bool} (dx : RdV g M H v x) (e : truP x = some b) : TruV X.K v H b := by
  unfold truP at e
  split at e
  · cases e; rw [dx.bl]; rfl
  · cases e; rw [dx.non]; rfl
  · cases e; rw [dx.int]; rfl
  · split at e
    · rename_i hl; cases e; rw [dx.str]
      refine ⟨hl, ?_⟩
      rename_i s
      by_cases z : s.length = 0
      · rw [z]; rfl
      · have z2 : ¬ ((s.length : Int) = 0) := by omega
        have q1 : (s.length != 0) = true := by rw [bne_iff_ne]; exact z
        have q2 : ((s.length : Int) != 0) = true := by rw [bne_iff_ne]; exact z2
        rw [q1, q2]
    · cases e
  · cases e
    obtain ⟨a, vs, e2, ha, rs⟩ := dx.lst
    rw [e2]; exact .inl ⟨vs, SqL.of ha, by rw [isEmpty_RPs rs]⟩
  · cases e
    obtain ⟨a, vs, e2, ha, rs⟩ := dx.tup
    rw [hK] at ha
    rw [e2]; exact .inr (.inl ⟨vs, ha, by rw [isEmpty_RPs rs]⟩)
  · cases e
    obtain ⟨a, vs, e2, ha, rs⟩ := dx.dic
    rw [e2]; exact .inr (.inr ⟨vs, ha, by rw [isEmpty_RKs rs]⟩)
  · cases e
theorem tru_all (hK : g.K = X.K) : TruR X (TruP g) := by
  intro pins s σ H v u Q I r ⟨M, h, x, b, rh, dx, e, k⟩
  exact tru_ok pins s σ H v u Q I r ⟨b, truV_of hK dx e, k⟩
theorem cut_RPs {N : Nx} {H : Hp} {vs : List V} {ps : List P} (r : RPs g N H vs ps) (lo hi : Option Int) : RPs g N H (cutV vs lo hi) (cutP ps lo hi) := by
  unfold cutV cutP
  rw [r.length]
  exact (r.drop _).take _
end
end EV

set_option Elab.async false
set_option linter.all false
set_option maxRecDepth 100000
/-! EvG: slices, built-ins called -/
namespace EV
open PySem PySem.Spec PyProof.Rows L2
section
variable {g : Gc} {X : Cx}
def rSlP (g : Gc) : V → Option Int → Option Int → Hp → VK → Prop := fun v lo hi H Q => ∃ M h x r, RH g M h H ∧ RdV g M H v x ∧ slcP x lo hi = some r ∧ ∀ u H', Out g M H M h u H' r → Q u H'
theorem cutP_whole {ps : List P} {lo hi : Option Int} (h : HT.sIx ps.length 0 lo = 0 ∧ HT.sIx ps.length ps.length hi = ps.length) : cutP ps lo hi = ps := by
  unfold cutP
  rw [h.1, h.2]; simp
theorem sl_all (hK : g.K = X.K) : SlR X (rSlP g) := by
  intro pins s σ H x v vl vu lo hi sl Q I rx hs pl pu ⟨M, h, y, r, rh, dx, e, k⟩
  unfold slcP at e
  split at e
  · cases e
    obtain ⟨a, vs, e2, ha, rs⟩ := dx.lst
    exact sl_list pins s σ H x v vl vu lo hi sl Q I rx hs pl pu ⟨a, vs, e2, SqL.of ha, fun p hp => k _ _ (Out.newLst rh hp (cut_RPs rs lo hi))⟩
  · cases e
    obtain ⟨a, vs, e2, ha, rs⟩ := dx.flst
    rw [hK] at ha
    exact sl_list pins s σ H x v vl vu lo hi sl Q I rx hs pl pu ⟨a, vs, e2, ha, fun p hp => k _ _ (Out.newLst rh hp (cut_RPs rs lo hi))⟩
  · cases e
    obtain ⟨a, vs, e2, ha, rs⟩ := dx.tup
    rw [hK] at ha
    refine sl_tupA pins s σ H x v vl vu lo hi sl Q I rx hs pl pu ⟨a, vs, e2, ha, fun w => ?_, fun _ p hp => k _ _ (Out.newTup rh hp (cut_RPs rs lo hi))⟩
    rw [rs.length] at w
    subst e2
    rcases dx with dx | ⟨_, _, dx⟩
    · refine k _ _ (Out.val rh ?_)
      rw [cutP_whole w]; exact dx
    · exact dx.elim
  · split at e
    · rename_i hl; cases e
      exact sl_str pins s σ H x v vl vu lo hi sl Q I rx hs pl pu ⟨_, dx.str, hl, k _ _ (Out.val rh .str)⟩
    · cases e
  · cases e
/-- a built-in by the values that it reads -/
def RdVs (g : Gc) (M : Mp) (H : Hp) : List V → List P → Prop
  | [], [] => True
  | v :: vs, p :: ps => RdV g M H v p ∧ RdVs g M H vs ps
  | _, _ => False
def rBlt (g : Gc) (f : List P → Option R) : List V → Hp → VK → Prop := fun vs H Q => ∃ M h xs r, RH g M h H ∧ RdVs g M H vs xs ∧ f xs = some r ∧ ∀ u H', Out g M H M h u H' r → Q u H'
theorem RdVs.one {M : Mp} {H : Hp} {vs : List V} {p : P} (r : RdVs g M H vs [p]) : ∃ v, vs = [v] ∧ RdV g M H v p := by
  match vs, r with
  | [v], r => exact ⟨v, rfl, r.1⟩
theorem RdVs.two {M : Mp} {H : Hp} {vs : List V} {p q : P} (r : RdVs g M H vs [p, q]) : ∃ v w, vs = [v, w] ∧ RdV g M H v p ∧ RdV g M H w q := by
  match vs, r with
  | [v, w], r => exact ⟨v, w, rfl, r.1, r.2.1⟩
theorem len_all (hK : g.K = X.K) : CallR X (.builtin "len") (rBlt g (bltP .len)) := by
  intro pins s σ H vs us Q I r ⟨M, h, xs, rr, rh, rd, e, k⟩
  unfold bltP at e
  split at e <;> first
    | (cases e; done)
    | contradiction
    | skip
  · cases e
    obtain ⟨v, rfl, d⟩ := rd.one
    obtain ⟨a, vs, rfl, ha, rs⟩ := d.lst
    exact call_len_seq pins s σ H _ us Q I r ⟨a, vs, rfl, .inl (SqL.of ha), by rw [rs.length]; exact k _ _ (Out.val rh .int)⟩
  · cases e
    obtain ⟨v, rfl, d⟩ := rd.one
    obtain ⟨a, vs, rfl, ha, rs⟩ := d.tup
    rw [hK] at ha
    exact call_len_seq pins s σ H _ us Q I r ⟨a, vs, rfl, .inr ha, by rw [rs.length]; exact k _ _ (Out.val rh .int)⟩
  · cases e
    obtain ⟨v, rfl, d⟩ := rd.one
    obtain ⟨a, vs, rfl, ha, rs⟩ := d.flst
    rw [hK] at ha
    exact call_len_seq pins s σ H _ us Q I r ⟨a, vs, rfl, .inl ha, by rw [rs.length]; exact k _ _ (Out.val rh .int)⟩
  · cases e
    obtain ⟨v, rfl, d⟩ := rd.one
    obtain ⟨a, vs, rfl, ha, rs⟩ := d.dic
    rw [Vals.ref1 r]
    exact d_len I (.inl ha) fun t s' I' => ⟨.int vs.length, H, I', ⟨t, rfl⟩, by rw [rs.length]; exact k _ _ (Out.val rh .int)⟩
  · split at e
    · rename_i hl; cases e
      obtain ⟨v, rfl, d⟩ := rd.one
      exact call_len_str pins s σ H _ us Q I r ⟨_, by rw [d.str], hl, k _ _ (Out.val rh .int)⟩
    · cases e
theorem int_all : CallR X (.type "int") (rBlt g (bltP .int)) := by
  intro pins s σ H vs us Q I r ⟨M, h, xs, rr, rh, rd, e, k⟩
  unfold bltP at e
  split at e <;> first
    | (cases e; done)
    | contradiction
    | skip
  cases e
  obtain ⟨v, rfl, d⟩ := rd.one
  exact call_int1 pins s σ H _ us Q I r (.inl ⟨_, by rw [d.int], k _ _ (Out.val rh .int)⟩)
theorem str_all : CallR X (.type "str") (rBlt g (bltP .str)) := by
  intro pins s σ H vs us Q I r ⟨M, h, xs, rr, rh, rd, e, k⟩
  unfold bltP at e
  split at e <;> first
    | (cases e; done)
    | contradiction
    | skip
  split at e
  · rename_i hl; cases e
    obtain ⟨v, rfl, d⟩ := rd.one
    exact call_str_int pins s σ H _ us Q I r ⟨_, by rw [d.int], hl, k _ _ (Out.val rh .str)⟩
  · cases e
theorem list_all (hK : g.K = X.K) : CallR X (.type "list") (rBlt g (bltP .list)) := by
  intro pins s σ H vs us Q I r ⟨M, h, xs, rr, rh, rd, e, k⟩
  unfold bltP at e
  split at e <;> first
    | (cases e; done)
    | contradiction
    | skip
  · cases e
    obtain ⟨v, rfl, d⟩ := rd.one
    obtain ⟨a, vs, rfl, ha, rs⟩ := d.lst
    exact call_list_of pins s σ H _ us Q I r ⟨a, vs, rfl, .inl (SqL.of ha), fun p hp => k _ _ (Out.newLst rh hp rs)⟩
  · cases e
    obtain ⟨v, rfl, d⟩ := rd.one
    obtain ⟨a, vs, rfl, ha, rs⟩ := d.tup
    rw [hK] at ha
    exact call_list_of pins s σ H _ us Q I r ⟨a, vs, rfl, .inr ha, fun p hp => k _ _ (Out.newLst rh hp rs)⟩
  · cases e
    obtain ⟨v, rfl, d⟩ := rd.one
    obtain ⟨a, vs, rfl, ha, rs⟩ := d.flst
    rw [hK] at ha
    exact call_list_of pins s σ H _ us Q I r ⟨a, vs, rfl, .inl ha, fun p hp => k _ _ (Out.newLst rh hp rs)⟩
theorem tuple_all (hK : g.K = X.K) : CallR X (.type "tuple") (rBlt g (bltP .tuple)) := by
  intro pins s σ H vs us Q I r ⟨M, h, xs, rr, rh, rd, e, k⟩
  unfold bltP at e
  split at e <;> first
    | (cases e; done)
    | contradiction
    | skip
  · cases e
    obtain ⟨v, rfl, d⟩ := rd.one
    obtain ⟨a, vs, rfl, ha, rs⟩ := d.lst
    exact call_tuple_of pins s σ H _ us Q I r ⟨a, vs, rfl, .inl ⟨SqL.of ha, fun p hp => k _ _ (Out.newTup rh hp rs)⟩⟩
  · cases e
    obtain ⟨v, rfl, d⟩ := rd.one
    obtain ⟨a, vs, rfl, ha, rs⟩ := d.flst
    rw [hK] at ha
    exact call_tuple_of pins s σ H _ us Q I r ⟨a, vs, rfl, .inl ⟨ha, fun p hp => k _ _ (Out.newTup rh hp rs)⟩⟩
  · cases e
    obtain ⟨v, rfl, d⟩ := rd.one
    obtain ⟨a, vs, rfl, ha, rs⟩ := d.tup
    rw [hK] at ha
    refine call_tuple_of pins s σ H _ us Q I r ⟨a, vs, rfl, .inr ⟨ha, ?_⟩⟩
    rcases d with d | ⟨_, _, d⟩
    · exact k _ _ (Out.val rh d)
    · exact d.elim
theorem max_all (hc : X.calm = true) : CallR X (.builtin "max") (rBlt g (bltP .max)) := by
  intro pins s σ H vs us Q I r ⟨M, h, xs, rr, rh, rd, e, k⟩
  unfold bltP at e
  split at e <;> first
    | (cases e; done)
    | contradiction
    | skip
  cases e
  obtain ⟨v, w, rfl, d, d2⟩ := rd.two
  exact call_max2 hc pins s σ H _ us Q I r ⟨_, _, by rw [d.int, d2.int], k _ _ (Out.val rh .int)⟩
theorem min_all (hc : X.calm = true) : CallR X (.builtin "min") (rBlt g (bltP .min)) := by
  intro pins s σ H vs us Q I r ⟨M, h, xs, rr, rh, rd, e, k⟩
  unfold bltP at e
  split at e <;> first
    | (cases e; done)
    | contradiction
    | skip
  cases e
  obtain ⟨v, w, rfl, d, d2⟩ := rd.two
  exact call_min2 hc pins s σ H _ us Q I r ⟨_, _, by rw [d.int, d2.int], k _ _ (Out.val rh .int)⟩
theorem ord_all : CallR X (.builtin "ord") (rBlt g (bltP .ord)) := by
  intro pins s σ H vs us Q I r ⟨M, h, xs, rr, rh, rd, e, k⟩
  unfold bltP at e
  split at e <;> first
    | (cases e; done)
    | contradiction
    | skip
  split at e
  · rename_i hl; cases e
    obtain ⟨v, rfl, d⟩ := rd.one
    exact call_ord pins s σ H _ us Q I r ⟨_, by rw [d.str], hl, k _ _ (Out.val rh .int)⟩
  · cases e
end
end EV

set_option Elab.async false
set_option linter.all false
set_option maxRecDepth 100000
/-! EvH: readings by plain runs -/
namespace EV
open PySem PySem.Spec PyProof.Rows L2

/-- what is known of an exception that left an expression -/
def XP (g : Gx) (W : WX) (σ : L2.St) (M : Mp) (H : Hp) : Ex → Hh → Prop := fun e h' => ∀ M' H' d, Sx M H M' H' → RH g.toGc M' h' H' → RX g.toGc M' H' d e.l → W (.ref (g.ca e.c)) d σ H'
theorem XP.sx {g : Gx} {W : WX} {σ : L2.St} {M M1 : Mp} {H H1 : Hp} (s : Sx M H M1 H1) {e : Ex} {h' : Hh} (x : XP g W σ M H e h') : XP g W σ M1 H1 e h' := fun M' H' d s' => x M' H' d (s.trans s')
def tE (g : Gx) (W : WX) (c : Fr → Hh → Rq (R × Hh)) : TE := fun σ H Q => ∃ M env h, REnv g M H σ env ∧ RH g.toGc M h H ∧ wq (c env h) (fun p => ∀ M' v H', Out g.toGc M H M' p.2 v H' p.1 → Q v H') (XP g W σ M H)
def tTp (g : Gx) (W : WX) (c : Fr → Hh → Rq (Bool × Hh)) : TT := fun σ H Q => ∃ M env h, REnv g M H σ env ∧ RH g.toGc M h H ∧ wq (c env h) (fun p => ∀ M' H', Sx M H M' H' → RH g.toGc M' p.2 H' → Q p.1 H') (XP g W σ M H)
/-- arguments: by what is said of them at the end -/
def tAr (g : Gx) (W : WX) {α : Type} (rel : Mp → Hp → List V → α → Prop) (c : Fr → Hh → Rq (α × Hh)) : TA := fun σ H Q => ∃ M env h, REnv g M H σ env ∧ RH g.toGc M h H ∧ wq (c env h) (fun p => ∀ M' vs H', Sx M H M' H' → RH g.toGc M' p.2 H' → rel M' H' vs p.1 → Q vs H') (XP g W σ M H)
abbrev relP (g : Gc) : Mp → Hp → List V → List P → Prop := fun M H vs ps => RPs g (NM M) H vs ps
abbrev relB (g : Gc) : Mp → Hp → List V → List P → Prop := fun M H vs ps => RdVs g M H vs ps
/-- an argument of an own def -/
def RSa (g : Gc) (M : Mp) (H : Hp) (v : V) : Sl → Prop
  | .p q => RP g (NM M) H v q
  | .rf r => ∃ a, v = .ref a ∧ M.at (.s r) = some a
  | .xc _ _ => False
def RSls (g : Gc) (M : Mp) (H : Hp) : List V → List Sl → Prop
  | [], [] => True
  | v :: vs, s :: ss => RSa g M H v s ∧ RSls g M H vs ss
  | _, _ => False
abbrev relA (g : Gc) : Mp → Hp → List V → List Sl → Prop := fun M H vs ps => RSls g M H vs ps

section
variable {X : Cx}
theorem _root_.L2.PE.weak {e : Expr} {t t' : TE} (h : PE X e t) (w : ∀ σ H Q, t' σ H Q → t σ H Q) : PE X e t' := ⟨fun pins s σ H Q I q => h.run pins s σ H Q I (w _ _ _ q)⟩
theorem _root_.L2.PT.weak {e : Expr} {t t' : TT} (h : PT X e t) (w : ∀ σ H Q, t' σ H Q → t σ H Q) : PT X e t' := ⟨fun pins s σ H Q I q => h.run pins s σ H Q I (w _ _ _ q)⟩
theorem _root_.L2.PW.weak {e : Expr} {t t' : TT} (h : PW X e t) (w : ∀ σ H Q, t' σ H Q → t σ H Q) : PW X e t' := ⟨fun wh pins s σ H Q I q => h.run wh pins s σ H Q I (w _ _ _ q)⟩
theorem _root_.L2.PA.weak {e : List Expr} {t t' : TA} (h : PA X e t) (w : ∀ σ H Q, t' σ H Q → t σ H Q) : PA X e t' := ⟨fun p pins s σ H Q I q => h.run p pins s σ H Q I (w _ _ _ q)⟩
theorem _root_.L2.PTs.weak {e : List Expr} {t t' : TT} (h : PTs X e t) (w : ∀ σ H Q, t' σ H Q → t σ H Q) : PTs X e t' := ⟨fun pins s σ H Q I q => h.run pins s σ H Q I (w _ _ _ q)⟩
end

section
variable {g : Gc} {M M' : Mp} {H H' : Hp} {h : Hh} {v : V} {r : R}
theorem live_some {o : Option P} {p : P} (e : live o = some p) : o = some p ∧ p ≠ .non := by
  cases o with
  | none => cases e
  | some q => cases q <;> first | (cases e; exact ⟨rfl, fun z => nomatch z⟩) | cases e
theorem RdV.at {p : P} {a : Addr} {k : Pl} (y : RH g M h H) (e : live (h.get k) = some p) (ea : M.at k = some a) : RdV g M H (.ref a) p := by
  obtain ⟨e1, e2⟩ := live_some e
  rcases y.ob k p a e1 ea with z | z
  · exact absurd z e2
  · exact .inr ⟨a, rfl, z⟩
theorem RP.rdv' {q p : P} (x : RP g (NM M) H v q) (y : RH g M h H) (e : rdv (.p q) h = some p) : RdV g M H v p := by
  cases q with
  | hf k =>
    cases x with
    | hf ea => exact RdV.at (k := .p k) y e ea
  | _ => cases e; exact .inl x
theorem rdv_frz (r : R) (h : Hh) : rdv r h = rdv r.frz h := by
  cases r with
  | fr q => cases q <;> rfl
  | _ => rfl
theorem RR.rdv' {p : P} (x : RR g M H v r) (y : RH g M h H) (e : rdv r h = some p) : RdV g M H v p := by
  cases r with
  | p q => exact RP.rdv' x y e
  | fr q => exact x.elim
  | rf i =>
    obtain ⟨a, rfl, ea⟩ := x
    exact RdV.at (k := .s i) y e ea
/-- what an operand gives, read now -/
theorem Out.rd {p : P} (o : Out g M H M' h v H' r) (e : rdv r h = some p) : RdV g M' H' v p := by
  rw [rdv_frz] at e
  exact RR.rdv' o.frz.rr o.rh e
/-- read behind a step -/
theorem Out.rdL {M2 : Mp} {H2 : Hp} {h2 : Hh} {p : P} (o : Out g M H M' h v H' r) (s : Sx M' H' M2 H2) (y : RH g M2 h2 H2) (e : rdv r h2 = some p) : RdV g M2 H2 v p := by
  rw [rdv_frz] at e
  exact RR.rdv' (o.frz.rr.sx s) y e
theorem Out.valP {p : P} (o : Out g M H M' h v H' r) (e : r.val = some p) : RP g (NM M') H' v p := by
  cases r with
  | p q => cases e; exact o.2.2
  | fr q => cases e; exact o.frz.2.2
  | rf i => cases e
theorem Out.slot {s : Sl} (o : Out g M H M' h v H' r) (e : r.sl = some s) : RSa g M' H' v s := by
  cases r with
  | p q => cases e; exact o.2.2
  | fr q => cases e; exact o.frz.2.2
  | rf i => cases e; exact o.2.2
theorem RSa.sx {s : Sl} (x : RSa g M H v s) (st : Sx M H M' H') : RSa g M' H' v s := by
  cases s with
  | p q => exact RP.step st.st x
  | rf r => obtain ⟨a, e, z⟩ := x; exact ⟨a, e, st.at_s z⟩
  | xc c l => exact x
theorem RSls.sx (st : Sx M H M' H') : ∀ {vs : List V} {ss : List Sl}, RSls g M H vs ss → RSls g M' H' vs ss
  | [], [], _ => trivial
  | _ :: _, _ :: _, ⟨a, b⟩ => ⟨a.sx st, RSls.sx st b⟩
  | [], _ :: _, h => h
  | _ :: _, [], h => h
theorem RSls.length : ∀ {vs : List V} {ss : List Sl}, RSls g M H vs ss → vs.length = ss.length
  | [], [], _ => rfl
  | _ :: _, _ :: _, ⟨_, b⟩ => by simp [RSls.length b]
  | [], _ :: _, h => h.elim
  | _ :: _, [], h => h.elim
end
section
variable {g : Gx} {W : WX} {M : Mp} {H : Hp} {σ : L2.St} {env : Fr} {h : Hh}
/-- a part is run: what follows -/
theorem tE.of {c : Fr → Hh → Rq (R × Hh)} {Q : VK} {k : R × Hh → Prop} {x : Ex → Hh → Prop} (re : REnv g M H σ env) (rh : RH g.toGc M h H) (w : wq (c env h) k x) (kx : ∀ {e h'}, x e h' → XP g W σ M H e h')
    (n : ∀ r h1 M1 v H1, Out g.toGc M H M1 h1 v H1 r → k (r, h1) → Q v H1) : tE g W c σ H Q := ⟨M, env, h, re, rh, wq_mono w (fun p hp M1 v H1 o => n p.1 p.2 M1 v H1 o hp) fun _ _ z => kx z⟩
theorem tTp.of {c : Fr → Hh → Rq (Bool × Hh)} {Q : Bool → Hp → Prop} {k : Bool × Hh → Prop} {x : Ex → Hh → Prop} (re : REnv g M H σ env) (rh : RH g.toGc M h H) (w : wq (c env h) k x) (kx : ∀ {e h'}, x e h' → XP g W σ M H e h')
    (n : ∀ r h1 M1 H1, Sx M H M1 H1 → RH g.toGc M1 h1 H1 → k (r, h1) → Q r H1) : tTp g W c σ H Q := ⟨M, env, h, re, rh, wq_mono w (fun p hp M1 H1 o rh1 => n p.1 p.2 M1 H1 o rh1 hp) fun _ _ z => kx z⟩
theorem tAr.of {α : Type} {rel : Mp → Hp → List V → α → Prop} {c : Fr → Hh → Rq (α × Hh)} {Q : List V → Hp → Prop} {k : α × Hh → Prop} {x : Ex → Hh → Prop} (re : REnv g M H σ env) (rh : RH g.toGc M h H) (w : wq (c env h) k x) (kx : ∀ {e h'}, x e h' → XP g W σ M H e h')
    (n : ∀ r h1 M1 vs H1, Sx M H M1 H1 → RH g.toGc M1 h1 H1 → rel M1 H1 vs r → k (r, h1) → Q vs H1) : tAr g W rel c σ H Q := ⟨M, env, h, re, rh, wq_mono w (fun p hp M1 vs H1 o rh1 r1 => n p.1 p.2 M1 vs H1 o rh1 r1 hp) fun _ _ z => kx z⟩
end
end EV

set_option Elab.async false
set_option linter.all false
set_option maxRecDepth 100000
/-! EvI: one lemma a construct -/
namespace EV
open PySem PySem.Spec PyProof.Rows L2

/-- destruct a run -/
theorem bind_some {α β : Type} {o : Option α} {f : α → Option β} {b : β} (h : (o >>= f) = some b) : ∃ a, o = some a ∧ f a = some b := by
  cases o with
  | none => cases h
  | some a => exact ⟨a, rfl, h⟩
theorem pure_some {α : Type} {a b : α} (h : (pure a : Option α) = some b) : a = b := Option.some.inj h
theorem sget_some {env : Fr} {i : Nat} {s : Sl} (es : sget env i = some s) : env[i]? = some (some s) := by
  unfold sget at es
  cases q : env[i]? with
  | none => rw [q] at es; cases es
  | some o => rw [q] at es; cases o with
    | none => cases es
    | some t => cases es; rfl
theorem intP_some {p : P} {i : Int} (e : intP p = some i) : p = .int i := by cases p <;> first | (cases e; rfl) | cases e
theorem okLe_some {l : List P} {u : Unit} (e : okLe l = some u) : l.length ≤ sizeLine := by
  unfold okLe at e
  split at e
  · assumption
  · cases e
theorem okLen_some {l : List P} {u : Unit} (e : okLen l = some u) : l.length < sizeLine := by
  unfold okLen at e
  split at e
  · assumption
  · cases e

section
variable {X : Cx} {g : Gx} {W : WX} {C : Cl} {G : Tb} {pos : Pos} {a b c : Expr} {ea eb ec : E}
theorem e_var {i : Nat} {x : Str} (hN : X.N[i]? = some x) (hv : Vis X.env.scope x) (hd : (x == ("__debug__" : Str)) = false) (hcd : (x == ("__classdict__" : Str)) = false) :
    PE X (.Name x pos) (tE g W (ev C G (.var i))) :=
  (pe_var hN hv hd hcd).weak fun σ H Q ⟨M, env, h, re, rh, w⟩ => by
    rw [ev] at w
    obtain ⟨s, e1, w⟩ := wq_of w
    obtain ⟨r, e2, w⟩ := wq_of w
    have k := wq_ok w
    obtain ⟨v, e3, e4⟩ := re.sl i s (sget_some e1)
    refine ⟨v, e3, k M v H ?_⟩
    cases s with
    | p q => cases e2; exact ⟨Sx.refl, rh, e4⟩
    | rf r => cases e2; exact ⟨Sx.refl, rh, e4⟩
    | xc c l => cases e2
theorem e_tC {v : V} {p : P} {c : Fr → Hh → Rq (R × Hh)} (hc : ∀ env h, c env h = .ok (.p p, h)) (hr : ∀ N H, RP g.toGc N H v p) (h : PE X a (tC v)) : PE X a (tE g W c) :=
  h.weak fun σ H Q ⟨M, env, h, re, rh, w⟩ => by
    rw [hc] at w
    exact w M _ _ (Out.val rh (hr _ _))
theorem e_gv {i : Nat} {v : V} {p : P} (hi : G.gv[i]? = some p) (hr : ∀ N H, RP g.toGc N H v p) (h : PE X a (tC v)) : PE X a (tE g W (ev C G (.gv i))) :=
  e_tC (p := p) (fun env h => by rw [ev, hi]; rfl) hr h
theorem e_bin {op : Operator} (hK : g.K = X.K) (ha : PE X a (tE g W (ev C G ea))) (hb : PE X b (tE g W (ev C G eb))) : PE X (.BinOp a op b pos) (tE g W (ev C G (.bin op ea eb))) :=
  (pe_op (op_bin hK op) ha hb).weak fun σ H Q ⟨M, env, h, re, rh, w⟩ => by
    rw [ev] at w
    refine tE.of re rh (wq_bind w) id fun x h1 M1 v H1 o1 w => ?_
    refine tE.of (re.sx o1.sx) o1.rh (wq_bind w) (XP.sx o1.sx) fun y h2 M2 u H2 o2 w => ?_
    obtain ⟨p, e3, w⟩ := wq_of w
    obtain ⟨q, e4, w⟩ := wq_of w
    obtain ⟨r, e5, w⟩ := wq_of w
    exact ⟨M2, _, p, q, r, o2.rh, o1.rdL o2.sx o2.rh e3, o2.rd e4, e5, fun u H3 o3 => wq_ok w M2 u H3 (Out.before (o1.sx.trans o2.sx) o3)⟩
theorem e_neg (ha : PE X a (tE g W (ev C G ea))) : PE X (.UnaryOp .USub a pos) (tE g W (ev C G (.neg ea))) :=
  (pe_un (un_neg' (g := g.toGc)) ha).weak fun σ H Q ⟨M, env, h, re, rh, w⟩ => by
    rw [ev] at w
    refine tE.of re rh (wq_bind w) id fun x h1 M1 v H1 o1 w => ?_
    obtain ⟨p, e3, w⟩ := wq_of w
    obtain ⟨i, e4, w⟩ := wq_of w
    have d := o1.rd e3
    rw [intP_some e4] at d
    exact ⟨M1, _, i, o1.rh, d, fun u H3 o3 => wq_ok w M1 u H3 (Out.before o1.sx o3)⟩
theorem bl_inj {b : Bool} {P' : Bool → Prop} (h : ∃ c, V.bl b = .bl c ∧ P' c) : P' b := by
  obtain ⟨c, e, h⟩ := h; cases e; exact h
theorem e_cmp {op : CmpOp} (hK : g.K = X.K) (hu : X.A.units + 64 < cLine) (ha : PE X a (tE g W (ev C G ea))) (hb : PE X b (tE g W (ev C G eb))) (hm : behindInMarks op b = false) : PE X (.Compare a [op] [b] pos) (tE g W (ev C G (.cmp op ea eb))) :=
  (pe_cmpR (op_cmp hK hu op) ha hb hm).weak fun σ H Q ⟨M, env, h, re, rh, w⟩ => by
    rw [ev] at w
    refine tE.of re rh (wq_bind w) id fun x h1 M1 v H1 o1 w => ?_
    refine tE.of (re.sx o1.sx) o1.rh (wq_bind w) (XP.sx o1.sx) fun y h2 M2 u H2 o2 w => ?_
    obtain ⟨p, e3, w⟩ := wq_of w
    obtain ⟨q, e4, w⟩ := wq_of w
    obtain ⟨r, e5, w⟩ := wq_of w
    exact ⟨M2, _, p, q, r, o2.rh, o1.rdL o2.sx o2.rh e3, o2.rd e4, e5, wq_ok w M2 _ _ (Out.before (o1.sx.trans o2.sx) (Out.val o2.rh .bl))⟩
theorem t_cmp {op : CmpOp} (hK : g.K = X.K) (hu : X.A.units + 64 < cLine) (ha : PE X a (tE g W (ev C G ea))) (hb : PE X b (tE g W (ev C G eb))) (hm : behindInMarks op b = false) : PT X (.Compare a [op] [b] pos) (tTp g W (evT C G (.cmp op ea eb))) :=
  (pt_cmpR (op_cmp hK hu op) ha hb hm).weak fun σ H Q ⟨M, env, h, re, rh, w⟩ => by
    rw [evT] at w
    refine tE.of re rh (wq_bind w) id fun x h1 M1 v H1 o1 w => ?_
    refine tE.of (re.sx o1.sx) o1.rh (wq_bind w) (XP.sx o1.sx) fun y h2 M2 u H2 o2 w => ?_
    obtain ⟨p, e3, w⟩ := wq_of w
    obtain ⟨q, e4, w⟩ := wq_of w
    obtain ⟨r, e5, w⟩ := wq_of w
    exact ⟨M2, _, p, q, r, o2.rh, o1.rdL o2.sx o2.rh e3, o2.rd e4, e5, r, rfl, wq_ok w M2 _ (o1.sx.trans o2.sx) o2.rh⟩
theorem e_chn {op op' : CmpOp} (hK : g.K = X.K) (hu : X.A.units + 64 < cLine) (ha : PE X a (tE g W (ev C G ea))) (hb : PE X b (tE g W (ev C G eb))) (hc : PE X c (tE g W (ev C G ec))) (hm : lastMarks [op, op'] [b, c] = false) : PE X (.Compare a [op, op'] [b, c] pos) (tE g W (ev C G (.chn op op' ea eb ec))) :=
  (pe_chain (op_cmp hK hu op) (op_cmp hK hu op') ha hb hc hm).weak fun σ H Q ⟨M, env, h, re, rh, w⟩ => by
    rw [ev] at w
    refine tE.of re rh (wq_bind w) id fun x h1 M1 v H1 o1 w => ?_
    refine tE.of (re.sx o1.sx) o1.rh (wq_bind w) (XP.sx o1.sx) fun y h2 M2 u H2 o2 w => ?_
    obtain ⟨p, e3, w⟩ := wq_of w
    obtain ⟨q, e4, w⟩ := wq_of w
    obtain ⟨r, e5, w⟩ := wq_of w
    refine ⟨M2, _, p, q, r, o2.rh, o1.rdL o2.sx o2.rh e3, o2.rd e4, e5, r, rfl, ?_⟩
    cases r with
    | false =>
      rw [if_neg (by decide)] at w ⊢
      exact wq_ok w M2 _ _ (Out.before (o1.sx.trans o2.sx) (Out.val o2.rh .bl))
    | true =>
      rw [if_pos rfl] at w ⊢
      refine tE.of (re.sx (o1.sx.trans o2.sx)) o2.rh (wq_bind w) (XP.sx (o1.sx.trans o2.sx)) fun z h3 M3 u3 H3 o3 w => ?_
      obtain ⟨p', e7, w⟩ := wq_of w
      obtain ⟨q', e8, w⟩ := wq_of w
      obtain ⟨r'', e9, w⟩ := wq_of w
      exact ⟨M3, _, p', q', r'', o3.rh, o2.rdL o3.sx o3.rh e7, o3.rd e8, e9, wq_ok w M3 _ _ (Out.before ((o1.sx.trans o2.sx).trans o3.sx) (Out.val o3.rh .bl))⟩
theorem t_chn {op op' : CmpOp} (hK : g.K = X.K) (hu : X.A.units + 64 < cLine) (ha : PE X a (tE g W (ev C G ea))) (hb : PE X b (tE g W (ev C G eb))) (hc : PE X c (tE g W (ev C G ec))) (hm : lastMarks [op, op'] [b, c] = false) : PT X (.Compare a [op, op'] [b, c] pos) (tTp g W (evT C G (.chn op op' ea eb ec))) :=
  (pt_chain (op_cmp hK hu op) (op_cmp hK hu op') ha hb hc hm).weak fun σ H Q ⟨M, env, h, re, rh, w⟩ => by
    rw [evT] at w
    refine tE.of re rh (wq_bind w) id fun x h1 M1 v H1 o1 w => ?_
    refine tE.of (re.sx o1.sx) o1.rh (wq_bind w) (XP.sx o1.sx) fun y h2 M2 u H2 o2 w => ?_
    obtain ⟨p, e3, w⟩ := wq_of w
    obtain ⟨q, e4, w⟩ := wq_of w
    obtain ⟨r, e5, w⟩ := wq_of w
    refine ⟨M2, _, p, q, r, o2.rh, o1.rdL o2.sx o2.rh e3, o2.rd e4, e5, r, rfl, ?_⟩
    cases r with
    | false =>
      rw [if_neg (by decide)] at w ⊢
      exact ⟨false, rfl, wq_ok w M2 _ (o1.sx.trans o2.sx) o2.rh⟩
    | true =>
      rw [if_pos rfl] at w ⊢
      refine tE.of (re.sx (o1.sx.trans o2.sx)) o2.rh (wq_bind w) (XP.sx (o1.sx.trans o2.sx)) fun z h3 M3 u3 H3 o3 w => ?_
      obtain ⟨p', e7, w⟩ := wq_of w
      obtain ⟨q', e8, w⟩ := wq_of w
      obtain ⟨r'', e9, w⟩ := wq_of w
      exact ⟨M3, _, p', q', r'', o3.rh, o2.rdL o3.sx o3.rh e7, o3.rd e8, e9, r'', rfl, wq_ok w M3 _ ((o1.sx.trans o2.sx).trans o3.sx) o3.rh⟩
theorem e_or {rest : List Expr} (hK : g.K = X.K) (ha : PE X a (tE g W (ev C G ea))) (hb : PE X (.BoolOp .Or (b :: rest) pos) (tE g W (ev C G eb))) : PE X (.BoolOp .Or (a :: b :: rest) pos) (tE g W (ev C G (.or ea eb))) :=
  (pe_orT ha hb).weak fun σ H Q ⟨M, env, h, re, rh, w⟩ => by
    rw [ev] at w
    refine tE.of re rh (wq_bind w) id fun x h1 M1 v H1 o1 w => ?_
    obtain ⟨p, e3, w⟩ := wq_of w
    obtain ⟨t, e4, w⟩ := wq_of w
    refine ⟨t, truV_of hK (o1.rd e3) e4, ?_⟩
    cases t with
    | true => rw [if_pos rfl] at w ⊢; exact wq_ok w M1 _ _ o1.frz
    | false =>
      rw [if_neg (by decide)] at w ⊢
      exact tE.of (re.sx o1.sx) o1.rh w (XP.sx o1.sx) fun r h2 M2 u H2 o2 k => k M2 _ _ (Out.before o1.sx o2)
theorem e_and {rest : List Expr} (hK : g.K = X.K) (ha : PE X a (tE g W (ev C G ea))) (hb : PE X (.BoolOp .And (b :: rest) pos) (tE g W (ev C G eb))) : PE X (.BoolOp .And (a :: b :: rest) pos) (tE g W (ev C G (.and ea eb))) :=
  (pe_andT ha hb).weak fun σ H Q ⟨M, env, h, re, rh, w⟩ => by
    rw [ev] at w
    refine tE.of re rh (wq_bind w) id fun x h1 M1 v H1 o1 w => ?_
    obtain ⟨p, e3, w⟩ := wq_of w
    obtain ⟨t, e4, w⟩ := wq_of w
    refine ⟨t, truV_of hK (o1.rd e3) e4, ?_⟩
    cases t with
    | false => rw [if_neg (by decide)] at w ⊢; exact wq_ok w M1 _ _ o1.frz
    | true =>
      rw [if_pos rfl] at w ⊢
      exact tE.of (re.sx o1.sx) o1.rh w (XP.sx o1.sx) fun r h2 M2 u H2 o2 k => k M2 _ _ (Out.before o1.sx o2)
theorem e_not (hK : g.K = X.K) (ha : PE X a (tE g W (ev C G ea))) : PE X (.UnaryOp .Not a pos) (tE g W (ev C G (.not ea))) :=
  (pe_notT ha).weak fun σ H Q ⟨M, env, h, re, rh, w⟩ => by
    rw [ev] at w
    refine tE.of re rh (wq_bind w) id fun x h1 M1 v H1 o1 w => ?_
    obtain ⟨p, e3, w⟩ := wq_of w
    obtain ⟨t, e4, w⟩ := wq_of w
    exact ⟨t, truV_of hK (o1.rd e3) e4, wq_ok w M1 _ _ (Out.before o1.sx (Out.val o1.rh .bl))⟩
theorem t_val (hK : g.K = X.K) (ha : PE X a (tE g W (ev C G ea))) (he : ∀ whole, isTrue a X.env whole = (do let v ← whole; standAt a.pos; holding [v] (truthy v))) : PT X a (tTp g W (evT C G (.v ea))) :=
  (pt_truth ha he).weak fun σ H Q ⟨M, env, h, re, rh, w⟩ => by
    rw [evT] at w
    refine tE.of re rh (wq_bind w) id fun x h1 M1 v H1 o1 w => ?_
    obtain ⟨p, e3, w⟩ := wq_of w
    obtain ⟨t, e4, w⟩ := wq_of w
    exact ⟨t, truV_of hK (o1.rd e3) e4, wq_ok w M1 _ o1.sx o1.rh⟩
theorem t_not {ta : T} (ha : PT X a (tTp g W (evT C G ta))) : PT X (.UnaryOp .Not a pos) (tTp g W (evT C G (.not ta))) :=
  (pt_not ha).weak fun σ H Q ⟨M, env, h, re, rh, w⟩ => by
    rw [evT] at w
    exact tTp.of re rh (wq_bind w) id fun x h1 M1 H1 s1 rh1 w => wq_ok w M1 _ s1 rh1
theorem tw_and {ta tb : T} {rest : List Expr} (ha : PT X a (tTp g W (evT C G ta))) (hb : PW X (.BoolOp .And (b :: rest) pos) (tTp g W (evT C G tb))) : PW X (.BoolOp .And (a :: b :: rest) pos) (tTp g W (evT C G (.and ta tb))) :=
  (pw_and ha hb).weak fun σ H Q ⟨M, env, h, re, rh, w⟩ => by
    rw [evT] at w
    refine tTp.of re rh (wq_bind w) id fun x h1 M1 H1 s1 rh1 w => ?_
    cases x with
    | true =>
      simp only [if_true] at w ⊢
      exact tTp.of (re.sx s1) rh1 w (XP.sx s1) fun r h2 M2 H2 s2 rh2 k => k M2 _ (s1.trans s2) rh2
    | false => simp only [Bool.false_eq_true, if_false] at w ⊢; exact wq_ok w M1 _ s1 rh1
theorem tw_or {ta tb : T} {rest : List Expr} (ha : PT X a (tTp g W (evT C G ta))) (hb : PW X (.BoolOp .Or (b :: rest) pos) (tTp g W (evT C G tb))) : PW X (.BoolOp .Or (a :: b :: rest) pos) (tTp g W (evT C G (.or ta tb))) :=
  (pw_or ha hb).weak fun σ H Q ⟨M, env, h, re, rh, w⟩ => by
    rw [evT] at w
    refine tTp.of re rh (wq_bind w) id fun x h1 M1 H1 s1 rh1 w => ?_
    cases x with
    | false =>
      simp only [Bool.false_eq_true, if_false] at w ⊢
      exact tTp.of (re.sx s1) rh1 w (XP.sx s1) fun r h2 M2 H2 s2 rh2 k => k M2 _ (s1.trans s2) rh2
    | true => simp only [if_true] at w ⊢; exact wq_ok w M1 _ s1 rh1
theorem e_ite {tc : T} (hc : PT X c (tTp g W (evT C G tc))) (ha : PE X a (tE g W (ev C G ea))) (hb : PE X b (tE g W (ev C G eb))) : PE X (.IfExp c a b pos) (tE g W (ev C G (.ite tc ea eb))) :=
  (pe_ifExp hc ha hb).weak fun σ H Q ⟨M, env, h, re, rh, w⟩ => by
    rw [ev] at w
    refine tTp.of re rh (wq_bind w) id fun x h1 M1 H1 s1 rh1 w => ?_
    cases x with
    | true =>
      simp only [if_true] at w ⊢
      exact tE.of (re.sx s1) rh1 w (XP.sx s1) fun r h2 M2 u H2 o2 k => k M2 _ _ (Out.before s1 o2)
    | false =>
      simp only [Bool.false_eq_true, if_false] at w ⊢
      exact tE.of (re.sx s1) rh1 w (XP.sx s1) fun r h2 M2 u H2 o2 k => k M2 _ _ (Out.before s1 o2)
/-! ### argument lists -/
theorem a_nil {α : Type} {rel : Mp → Hp → List V → List α → Prop} {c : Fr → Hh → Rq (List α × Hh)} (hc : ∀ env h, c env h = .ok ([], h)) (hn : ∀ M H, rel M H [] []) : PA X [] (tAr g W rel c) :=
  pa_nil.weak fun σ H Q ⟨M, env, h, re, rh, w⟩ => by
    rw [hc] at w
    exact w M _ _ Sx.refl rh (hn _ _)
variable {es : List Expr} {cs : List E}
theorem a_consP (he : PE X a (tE g W (ev C G ea))) (hr : PA X es (tAr g W (relP g.toGc) (evs C G cs))) (hs : starEach (a :: es) X.env = (false, eval a X.env) :: starEach es X.env) : PA X (a :: es) (tAr g W (relP g.toGc) (evs C G (ea :: cs))) :=
  (pa_cons he hr hs).weak fun σ H Q ⟨M, env, h, re, rh, w⟩ => by
    rw [evs] at w
    refine tE.of re rh (wq_bind w) id fun x h1 M1 v H1 o1 w => ?_
    obtain ⟨p, e2, w⟩ := wq_of w
    refine tAr.of (re.sx o1.sx) o1.rh (wq_bind w) (XP.sx o1.sx) fun xs h2 M2 vs H2 s2 rh2 r2 w => ?_
    exact wq_ok w M2 _ _ (o1.sx.trans s2) rh2 (.cons ((o1.valP e2).step s2.st) r2)
theorem a_consA (he : PE X a (tE g W (ev C G ea))) (hr : PA X es (tAr g W (relA g.toGc) (evA C G cs))) (hs : starEach (a :: es) X.env = (false, eval a X.env) :: starEach es X.env) : PA X (a :: es) (tAr g W (relA g.toGc) (evA C G (ea :: cs))) :=
  (pa_cons he hr hs).weak fun σ H Q ⟨M, env, h, re, rh, w⟩ => by
    rw [evA] at w
    refine tE.of re rh (wq_bind w) id fun x h1 M1 v H1 o1 w => ?_
    obtain ⟨p, e2, w⟩ := wq_of w
    refine tAr.of (re.sx o1.sx) o1.rh (wq_bind w) (XP.sx o1.sx) fun xs h2 M2 vs H2 s2 rh2 r2 w => ?_
    exact wq_ok w M2 _ _ (o1.sx.trans s2) rh2 ⟨(o1.slot e2).sx s2, r2⟩
theorem a_consB (he : PE X a (tE g W (ev C G ea))) (hr : PA X es (tAr g W (relB g.toGc) (evB C G cs))) (hs : starEach (a :: es) X.env = (false, eval a X.env) :: starEach es X.env) : PA X (a :: es) (tAr g W (relB g.toGc) (evB C G (ea :: cs))) :=
  (pa_cons he hr hs).weak fun σ H Q ⟨M, env, h, re, rh, w⟩ => by
    rw [evB] at w
    refine tE.of re rh (wq_bind w) id fun x h1 M1 v H1 o1 w => ?_
    refine tAr.of (re.sx o1.sx) o1.rh (wq_bind w) (XP.sx o1.sx) fun xs h2 M2 vs H2 s2 rh2 r2 w => ?_
    obtain ⟨p, e2, w⟩ := wq_of w
    exact wq_ok w M2 _ _ (o1.sx.trans s2) rh2 ⟨o1.rdL s2 rh2 e2, r2⟩
theorem e_tup {n : Nat} (hr : PA X es (tAr g W (relP g.toGc) (evs C G cs))) : PE X (.Tuple es n pos) (tE g W (ev C G (.tup cs))) :=
  (pe_tup hr).weak fun σ H Q ⟨M, env, h, re, rh, w⟩ => by
    rw [ev] at w
    refine tAr.of re rh (wq_bind w) id fun xs h1 M1 vs H1 s1 rh1 r1 w => ?_
    obtain ⟨_, e2, w⟩ := wq_of w
    exact ⟨by rw [r1.length]; exact okLe_some e2, fun p hp => wq_ok w M1 _ _ (Out.before s1 (Out.newTup rh1 hp r1))⟩
theorem e_lst (hr : PA X es (tAr g W (relP g.toGc) (evs C G cs))) : PE X (.List es pos) (tE g W (ev C G (.lst cs))) :=
  (pe_lst hr).weak fun σ H Q ⟨M, env, h, re, rh, w⟩ => by
    rw [ev] at w
    refine tAr.of re rh (wq_bind w) id fun xs h1 M1 vs H1 s1 rh1 r1 w => ?_
    obtain ⟨_, e2, w⟩ := wq_of w
    exact ⟨by rw [r1.length]; exact okLe_some e2, fun p hp => wq_ok w M1 _ _ (Out.before s1 (Out.newLst rh1 hp r1))⟩
theorem e_idx (hK : g.K = X.K) (hu : X.A.units + 1 < cLine) (ha : PE X a (tE g W (ev C G ea))) (hb : PE X b (tE g W (ev C G eb))) (hs : PlainIx b) : PE X (.Subscript a b pos) (tE g W (ev C G (.idx ea eb))) :=
  (pe_ix (ix_all hK hu) ha hb hs).weak fun σ H Q ⟨M, env, h, re, rh, w⟩ => by
    rw [ev] at w
    refine tE.of re rh (wq_bind w) id fun x h1 M1 v H1 o1 w => ?_
    refine tE.of (re.sx o1.sx) o1.rh (wq_bind w) (XP.sx o1.sx) fun y h2 M2 u H2 o2 w => ?_
    obtain ⟨p, e3, w⟩ := wq_of w
    obtain ⟨q, e4, w⟩ := wq_of w
    obtain ⟨r, e5, w⟩ := wq_of w
    exact ⟨M2, _, p, q, r, o2.rh, o1.rdL o2.sx o2.rh e3, o2.rd e4, e5, fun u ru => wq_ok w M2 _ _ (Out.before (o1.sx.trans o2.sx) (Out.val o2.rh ru))⟩
def tOi (g : Gx) (W : WX) (c : Fr → Hh → Rq (Option Int × Hh)) : TO := fun σ H Q => ∃ M env h, REnv g M H σ env ∧ RH g.toGc M h H ∧ wq (c env h) (fun p => ∀ M' H', Sx M H M' H' → RH g.toGc M' p.2 H' → Q p.1 H') (XP g W σ M H)
theorem tOi.of {M : Mp} {H : Hp} {σ : L2.St} {env : Fr} {h : Hh} {c : Fr → Hh → Rq (Option Int × Hh)} {Q : Option Int → Hp → Prop} {k : Option Int × Hh → Prop} {x : Ex → Hh → Prop} (re : REnv g M H σ env) (rh : RH g.toGc M h H) (w : wq (c env h) k x) (kx : ∀ {e h'}, x e h' → XP g W σ M H e h')
    (n : ∀ r h1 M1 H1, Sx M H M1 H1 → RH g.toGc M1 h1 H1 → k (r, h1) → Q r H1) : tOi g W c σ H Q := ⟨M, env, h, re, rh, wq_mono w (fun p hp M1 H1 o rh1 => n p.1 p.2 M1 H1 o rh1 hp) fun _ _ z => kx z⟩
theorem _root_.L2.PO.weak {e : Option Expr} {t t' : TO} (h : PO X e t) (w : ∀ σ H Q, t' σ H Q → t σ H Q) : PO X e t' := ⟨fun pins s σ H Q I q => h.run pins s σ H Q I (w _ _ _ q)⟩
theorem o_none : PO X none (tOi g W (evO C G none)) := po_none.weak fun σ H Q ⟨M, env, h, re, rh, w⟩ => by
    rw [evO] at w
    exact w M _ Sx.refl rh
theorem o_some (ha : PE X a (tE g W (ev C G ea))) : PO X (some a) (tOi g W (evO C G (some ea))) :=
  (po_some ha).weak fun σ H Q ⟨M, env, h, re, rh, w⟩ => by
    rw [evO] at w
    refine tE.of re rh (wq_bind w) id fun x h1 M1 v H1 o1 w => ?_
    obtain ⟨p, e3, w⟩ := wq_of w
    obtain ⟨i, e4, w⟩ := wq_of w
    have d := o1.rd e3
    rw [intP_some e4] at d
    exact ⟨i, d.int, wq_ok w M1 _ o1.sx o1.rh⟩
theorem e_slc {lo hi : Option Expr} {cl ch : Option E} {p2 : Pos} (hK : g.K = X.K) (ha : PE X a (tE g W (ev C G ea))) (hl : PO X lo (tOi g W (evO C G cl))) (hh : PO X hi (tOi g W (evO C G ch))) : PE X (.Subscript a (.Slice lo hi none p2) pos) (tE g W (ev C G (.slc ea cl ch))) :=
  (pe_slice (sl_all hK) ha hl hh).weak fun σ H Q ⟨M, env, h, re, rh, w⟩ => by
    rw [ev] at w
    refine tE.of re rh (wq_bind w) id fun x h1 M1 v H1 o1 w => ?_
    refine tOi.of (re.sx o1.sx) o1.rh (wq_bind w) (XP.sx o1.sx) fun y h2 M2 H2 s2 rh2 w => ?_
    refine tOi.of (re.sx (o1.sx.trans s2)) rh2 (wq_bind w) (XP.sx (o1.sx.trans s2)) fun z h3 M3 H3 s3 rh3 w => ?_
    obtain ⟨p, e3, w⟩ := wq_of w
    obtain ⟨r, e5, w⟩ := wq_of w
    exact ⟨M3, _, p, r, rh3, o1.rdL (s2.trans s3) rh3 e3, e5, fun u H4 o4 => wq_ok w M3 _ _ (Out.before (o1.sx.trans (s2.trans s3)) o4)⟩
/-- a built-in by its name -/
theorem e_blt {m : Blt} {x : Str} {idn : String} {p : Pos} {e : Expr} (hc : CallR X (.builtin idn) (rBlt g.toGc (bltP m))) (hg : Gl X x) (hm : X.mg x = none) (hv : bootBuiltins x = some (.builtin idn))
    (ha : PA X (e :: es) (tAr g W (relB g.toGc) (evB C G cs))) (hn : x ≠ "__name__") (hdb : (x == ("__debug__" : Str)) = false) (he : starEach (e :: es) X.env = (false, eval e X.env) :: starEach es X.env) (hpl : (backTo pos (starEach es X.env)).any (·.1) = false) :
    PE X (.Call (.Name x p) (e :: es) [] pos) (tE g W (ev C G (.blt m cs))) :=
  (pe_callB hc hg hm hv ha hn hdb he hpl).weak fun σ H Q ⟨M, env, h, re, rh, w⟩ => by
    rw [ev] at w
    refine tAr.of re rh (wq_bind w) id fun xs h1 M1 vs H1 s1 rh1 r1 w => ?_
    obtain ⟨r, e5, w⟩ := wq_of w
    exact ⟨M1, _, xs, r, rh1, r1, e5, fun u H4 o4 => wq_ok w M1 _ _ (Out.before s1 o4)⟩
theorem e_bltT {m : Blt} {x : Str} {idn : String} {p : Pos} {e : Expr} (hc : CallR X (.type idn) (rBlt g.toGc (bltP m))) (hg : Gl X x) (hm : X.mg x = none) (hv : bootBuiltins x = some (.type idn))
    (ha : PA X (e :: es) (tAr g W (relB g.toGc) (evB C G cs))) (hn : x ≠ "__name__") (hdb : (x == ("__debug__" : Str)) = false) (he : starEach (e :: es) X.env = (false, eval e X.env) :: starEach es X.env) (hpl : (backTo pos (starEach es X.env)).any (·.1) = false) :
    PE X (.Call (.Name x p) (e :: es) [] pos) (tE g W (ev C G (.blt m cs))) :=
  (pe_callTy hc hg hm hv ha hn hdb he hpl).weak fun σ H Q ⟨M, env, h, re, rh, w⟩ => by
    rw [ev] at w
    refine tAr.of re rh (wq_bind w) id fun xs h1 M1 vs H1 s1 rh1 r1 w => ?_
    obtain ⟨r, e5, w⟩ := wq_of w
    exact ⟨M1, _, xs, r, rh1, r1, e5, fun u H4 o4 => wq_ok w M1 _ _ (Out.before s1 o4)⟩
end
end EV

set_option Elab.async false
set_option linter.all false
set_option maxRecDepth 100000
/-! EvJ: own defs called, instances -/
namespace EV
open PySem PySem.Spec PyProof.Rows L2

theorem wq_ne {α : Type} {q : Rq α} {k : α → Prop} {x : Ex → Hh → Prop} (h : wq q k x) : q ≠ .no := fun z => by rw [z] at h; exact h
/-- what a def promises: its plain run -/
def spF (g : Gc) (np : Nat) (φ : List Sl → Hh → Rq (R × Hh)) : Sp := fun vs H Q E => vs.length = np ∧ ∃ M args h, RSls g M H vs args ∧ RH g M h H ∧
  wq (φ args h) (fun p => ∀ M' v H', Out g M H M' p.2 v H' p.1 → Q v H') (fun e h' => ∀ M' H' d, Sx M H M' H' → RH g M' h' H' → RX g M' H' d e.l → E (.ref (g.ca e.c)) d H')
theorem RH.cut {g : Gc} {M' M2 : Mp} {h' : Hh} {H : Hp} (x : RH g M' h' H) {n : Nat} (hm : M'.pl.take n = M2.pl) (hp : M2.pm = M'.pm) (s : ∀ a, M2.av a → NM M' a) (t : ∀ a, M2.av a → ¬ Wr M2 a) : RH g M2 (h'.cut n) H := by
  have ate : ∀ r a, M2.at r = some a → M'.at r = some a ∧ ∀ i, r = .s i → i < n := fun r a e => by
    cases r with
    | s i =>
      have e' := at_s.mp e
      rw [← hm, List.getElem?_take] at e'
      split at e'
      · rename_i hi
        exact ⟨at_s.mpr e', fun j z => by cases z; exact hi⟩
      · cases e'
    | p k => exact ⟨by show M'.pm[k]? = some a; rw [← hp]; exact e, fun j z => nomatch z⟩
  have wr : ∀ a, Wr M2 a → Wr M' a := fun a ⟨r, e⟩ => ⟨r, (ate r a e).1⟩
  have sub : ∀ a, NM M2 a → NM M' a := fun a z => z.elim (fun z => .inl (wr a z)) (s a)
  refine { ls := ?_, lp := ?_, ob := fun r p a e1 e2 => ?_, nd := fun i j a e1 e2 => x.nd i j a (ate i a e1).1 (ate j a e2).1, live := fun a z => x.live a (sub a z), sep := t }
  · show (h'.s.take n).length = _
    rw [← hm, List.length_take, List.length_take, x.ls]
  · show h'.p.length = _
    rw [hp]; exact x.lp
  · obtain ⟨e3, hi⟩ := ate r a e2
    have e4 : h'.get r = some p := by
      cases r with
      | s i =>
        have e1' : (h'.s.take n)[i]? = some p := e1
        rw [List.getElem?_take, if_pos (hi i rfl)] at e1'
        exact e1'
      | p k => exact e1
    exact (x.ob r p a e4 e3).imp id fun z => z.step (Stp.same sub wr hp) fun _ z => z
section
variable {X : Cx} {g : Gx} {W : WX} {C : Cl} {G : Tb} {pos : Pos} {a b c : Expr} {ea : E} {es : List Expr} {cs : List E}
/-- a call in an expression: from the def's promise -/
theorem spF_of {W : WX} {σ : L2.St} {M : Mp} {H0 H : Hp} {M0 : Mp} {np : Nat} {φ : List Sl → Hh → Rq (R × Hh)} (hφ : ∀ as h, φ as h ≠ .no → as.length = np) {vs : List V} {xs : List Sl} {h : Hh} {Q : VK} (s1 : Sx M0 H0 M H) (rh : RH g.toGc M h H) (r1 : RSls g.toGc M H vs xs)
    (w : wq (φ xs h) (fun p => ∀ M' v H', Out g.toGc M0 H0 M' p.2 v H' p.1 → Q v H') (XP g W σ M0 H0)) : spF g.toGc np φ vs H Q (WE W σ) :=
  ⟨by rw [r1.length]; exact hφ _ _ (wq_ne w), M, xs, h, r1, rh, wq_mono w (fun p k M' v H' o => k M' v H' (Out.before s1 o)) fun e h' k M' H' d s => k M' H' d (s1.trans s)⟩
theorem e_call {f k : Nat} {fa : Addr} {fd : FuncData} {ps : List Str} {x : Str} {p : Pos} {e : Expr} (hφ : ∀ as h, C f as h ≠ .no → as.length = ps.length)
    (F : FnOk X.prog X.w X.K X.mg X.base (L2N.CX X.prog X.w) k fa fd ps (spF g.toGc ps.length (C f))) (tk : L2N.Takes X W) (hr : Room k X.A) (hg : Gl X x) (hm : X.mg x = some (.ref fa)) (hk : PySem.W.keepIn X.K (.ref fa) = true) (hb : Binds X.K fd ps [])
    (ha : PA X (e :: es) (tAr g W (relA g.toGc) (evA C G cs))) (hdb : (x == ("__debug__" : Str)) = false) (he : starEach (e :: es) X.env = (false, eval e X.env) :: starEach es X.env) (hpl : (backTo pos (starEach es X.env)).any (·.1) = false) :
    PE X (.Call (.Name x p) (e :: es) [] pos) (tE g W (ev C G (.call f cs))) :=
  (pe_callS F hr hg hm hk hb (L2N.passAt tk) ha hdb he hpl).weak fun σ H Q ⟨M, env, h, re, rh, w⟩ => by
    rw [ev] at w
    refine tAr.of re rh (wq_bind w) id fun xs h1 M1 vs H1 s1 rh1 r1 w => ?_
    exact spF_of hφ s1 rh1 r1 w
theorem e_callH {f k : Nat} {fa : Addr} {fd : FuncData} {ps : List Str} {x : Str} {p : Pos} {e : Expr} (hφ : ∀ as h, C f as h ≠ .no → as.length = ps.length)
    (F : L2H.FnH X.prog X.w X.K X.mg X.base (L2N.CX X.prog X.w) k fa fd ps (spF g.toGc ps.length (C f))) (tk : L2N.Takes X W) (hr : L2H.RoomH k X.A) (hc : L2H.HotC X) (hg : Gl X x) (hm : X.mg x = some (.ref fa)) (hk : PySem.W.keepIn X.K (.ref fa) = true) (hb : Binds X.K fd ps [])
    (ha : PA X (e :: es) (tAr g W (relA g.toGc) (evA C G cs))) (hdb : (x == ("__debug__" : Str)) = false) (he : starEach (e :: es) X.env = (false, eval e X.env) :: starEach es X.env) (hpl : (backTo pos (starEach es X.env)).any (·.1) = false) :
    PE X (.Call (.Name x p) (e :: es) [] pos) (tE g W (ev C G (.call f cs))) :=
  (L2H.pe_callH F hr hc hg hm hk hb (L2N.passAt tk) ha hdb he hpl).weak fun σ H Q ⟨M, env, h, re, rh, w⟩ => by
    rw [ev] at w
    refine tAr.of re rh (wq_bind w) id fun xs h1 M1 vs H1 s1 rh1 r1 w => ?_
    exact spF_of hφ s1 rh1 r1 w
theorem e_call0H {f k : Nat} {fa : Addr} {fd : FuncData} {x : Str} {p : Pos} (hφ : ∀ as h, C f as h ≠ .no → as.length = 0)
    (F : L2H.FnH X.prog X.w X.K X.mg X.base (L2N.CX X.prog X.w) k fa fd [] (spF g.toGc 0 (C f))) (tk : L2N.Takes X W) (hr : L2H.RoomH k X.A) (hc : L2H.HotC X) (hg : Gl X x) (hm : X.mg x = some (.ref fa)) (hk : PySem.W.keepIn X.K (.ref fa) = true) (hb : Binds X.K fd [] [])
    (hdb : (x == ("__debug__" : Str)) = false) : PE X (.Call (.Name x p) [] [] pos) (tE g W (ev C G (.call f []))) := by
  refine ⟨fun pins s σ H Q I ⟨M, env, h, re, rh, w⟩ => ?_⟩
  refine wpAny_Call_Name_kw (ld_glob I hg hm ?_ hdb)
  rw [ev, evA] at w
  exact PySem.W.callWith_K0 I.kIn hk (L2H.run_fnH (us := []) (E := WE W) F hr hc hb (L2N.passAt tk σ) I .nil (spF_of (xs := []) hφ Sx.refl rh trivial w))
theorem e_call0 {f k : Nat} {fa : Addr} {fd : FuncData} {x : Str} {p : Pos} (hφ : ∀ as h, C f as h ≠ .no → as.length = 0)
    (F : FnOk X.prog X.w X.K X.mg X.base (L2N.CX X.prog X.w) k fa fd [] (spF g.toGc 0 (C f))) (tk : L2N.Takes X W) (hr : Room k X.A) (hg : Gl X x) (hm : X.mg x = some (.ref fa)) (hk : PySem.W.keepIn X.K (.ref fa) = true) (hb : Binds X.K fd [] [])
    (hdb : (x == ("__debug__" : Str)) = false) : PE X (.Call (.Name x p) [] [] pos) (tE g W (ev C G (.call f []))) := by
  refine ⟨fun pins s σ H Q I ⟨M, env, h, re, rh, w⟩ => ?_⟩
  refine wpAny_Call_Name_kw (ld_glob I hg hm ?_ hdb)
  rw [ev, evA] at w
  exact PySem.W.callWith_K0 I.kIn hk (run_fnS (us := []) F hr hb (L2N.passAt tk σ) I .nil (spF_of (xs := []) hφ Sx.refl rh trivial w))
/-- one more place -/
abbrev ML (M : Mp) (x : Addr) : Mp := ⟨M.pl ++ [some x], M.pm, M.av⟩
theorem ml_at {M : Mp} {x a : Addr} {r : Pl} (e : (ML M x).at r = some a) : M.at r = some a ∨ (r = .s M.pl.length ∧ a = x) := by
  cases r with
  | s k =>
    have e := at_s.mp e
    change (M.pl ++ [some x])[k]? = some (some a) at e
    by_cases hk : k < M.pl.length
    · rw [List.getElem?_append_left hk] at e; exact .inl (at_s.mpr e)
    · rw [List.getElem?_append_right (by omega)] at e
      cases q : k - M.pl.length with
      | zero => rw [q] at e; simp at e; exact .inr ⟨by rw [show k = M.pl.length by omega], e.symm⟩
      | succ n => rw [q] at e; simp at e
  | p k => exact .inl e
theorem at_ml {M : Mp} {x a : Addr} {r : Pl} (e : M.at r = some a) : (ML M x).at r = some a := by
  cases r with
  | s k =>
    have e := at_s.mp e
    refine at_s.mpr ?_
    show (M.pl ++ [some x])[k]? = some (some a)
    rw [List.getElem?_append_left (List.getElem?_eq_some_iff.mp e).1]; exact e
  | p k => exact e
theorem at_ml_new {M : Mp} {x : Addr} : (ML M x).at (.s M.pl.length) = some x := at_s.mpr (by show (M.pl ++ [some x])[M.pl.length]? = _; simp)
theorem wr_ml {M : Mp} {x a : Addr} (z : Wr (ML M x) a) : Wr M a ∨ a = x := by
  obtain ⟨r, e⟩ := z
  rcases ml_at e with e | ⟨_, e⟩
  · exact .inl ⟨r, e⟩
  · exact .inr e
theorem nm_ml {M : Mp} {x a : Addr} (z : NM (ML M x) a) : NM M a ∨ a = x := by
  rcases z with z | z
  · exact (wr_ml z).imp (fun z => .inl z) id
  · exact .inl (.inr z)
theorem get_app {h : Hh} {q p : P} {r : Pl} {n : Nat} (hn : h.s.length = n) (e : (⟨h.s ++ [q], h.p⟩ : Hh).get r = some p) : (h.get r = some p ∧ r ≠ .s n) ∨ (r = .s n ∧ p = q) := by
  cases r with
  | s k =>
    change (h.s ++ [q])[k]? = some p at e
    by_cases hk : k < h.s.length
    · rw [List.getElem?_append_left hk] at e; exact .inl ⟨e, fun z => by cases z; omega⟩
    · rw [List.getElem?_append_right (by omega)] at e
      cases z : k - h.s.length with
      | zero => rw [z] at e; simp at e; exact .inr ⟨by rw [← hn, show k = h.s.length by omega], e.symm⟩
      | succ m => rw [z] at e; simp at e
  | p k => exact .inl ⟨e, fun z => nomatch z⟩
theorem RH.at_lt {g : Gc} {M : Mp} {h : Hh} {H : Hp} {a : Addr} (rh : RH g M h H) (e : M.at (.s h.s.length) = some a) : False := by
  have e := at_s.mp e
  rw [rh.ls] at e
  simp at e
/-- a new thing gets a place -/
theorem RH.place {g : Gc} {M : Mp} {h : Hh} {H H' : Hp} {x : Addr} {q : P} (rh : RH g M h H) (hx : H x = none) (st : Stp M H (ML M x) H') (keep : ∀ a o, H a = some o → H' a = some o) (rt : RT g (NM (ML M x)) H' x q) : RH g (ML M x) ⟨h.s ++ [q], h.p⟩ H' where
  ls := by simp [rh.ls]
  lp := rh.lp
  ob := fun r p a e1 e2 => by
    rcases get_app rh.ls e1 with ⟨e1, nr⟩ | ⟨hr, rfl⟩
    · rcases ml_at e2 with e3 | ⟨hr', _⟩
      · exact (rh.ob r p a e1 e3).imp id fun z => z.step st fun o e => keep a o e
      · exact absurd hr' nr
    · rcases ml_at e2 with e3 | ⟨_, rfl⟩
      · subst hr; rw [← rh.ls] at e3; exact (rh.at_lt e3).elim
      · exact .inr rt
  nd := fun i j a e1 e2 => by
    rcases ml_at e1 with z1 | ⟨z1, z2⟩ <;> rcases ml_at e2 with z3 | ⟨z3, z4⟩
    · exact rh.nd i j a z1 z3
    · subst z4; exact absurd (.inl ⟨i, z1⟩) (rh.notM hx)
    · subst z2; exact absurd (.inl ⟨j, z3⟩) (rh.notM hx)
    · rw [z1, z3]
  live := fun a z => by
    rcases nm_ml z with z | rfl
    · obtain ⟨o, e⟩ := rh.live a z; exact ⟨o, keep a o e⟩
    · exact rt.some
  sep := fun a z q => by
    rcases wr_ml q with q | rfl
    · exact rh.sep a z q
    · exact rh.notM hx (.inr z)
theorem ml_stp {M : Mp} {H H' : Hp} {x : Addr} (hx : H x = none) (keep : ∀ a o, H a = some o → H' a = some o) : Stp M H (ML M x) H' := by
  refine ⟨fun a o e _ => keep a o e, fun a z => ?_, fun a z => ?_, fun a z => ?_, fun _ _ z => z⟩
  · rcases nm_ml z with z | rfl
    · exact .inl z
    · exact .inr hx
  · rcases wr_ml z with z | rfl
    · exact .inl z
    · exact .inr hx
  · cases q : H a with
    | none => rfl
    | some o => rw [keep a o q] at z; cases z
/-- a new instance, laid ahead of its __init__ -/
theorem RH.laid {g : Gc} {M : Mp} {h : Hh} {H : Hp} {x dx : Addr} {c : Nat} (rh : RH g M h H) (hx : H x = none) (hd : H dx = none) (ne : dx ≠ x) :
    Stp M H (ML M x) (upd (upd H dx (.own x)) x (.ins (g.ca c) dx [])) ∧ RH g (ML M x) ⟨h.s ++ [.obj c []], h.p⟩ (upd (upd H dx (.own x)) x (.ins (g.ca c) dx [])) := by
  have keep : ∀ a o, H a = some o → (upd (upd H dx (.own x)) x (.ins (g.ca c) dx [])) a = some o := fun a o e => by
    rw [upd_ne (ne_of_none e hx), upd_ne (ne_of_none e hd)]; exact e
  have st := ml_stp (M := M) hx keep
  exact ⟨st, rh.place hx st keep ⟨dx, [], upd_same, .nil⟩⟩
/-! a class called, its __init__ may raise -/
section
variable {K0 : Nat} {CX : CXT} {k : Nat} {f Ca : Addr} {fd : FuncData} {ps : List Str} {sp : Sp} {E : L2.St → XK} {x m : Str} {p apos : Pos} {e o : Expr} {ta : TE} {t : TA}
theorem run_makeS {pins : List (Addr × Obj)} {σ : L2.St} {H : Hp} {s : Shared} {Q : VK} {us : List Value} {vs : List V} (Mk' : Mk X.K Ca f) (F : FnOk X.prog X.w X.K X.mg X.base CX k f fd ps sp) (hr : Room (k + 1) X.A) (hb : Binds X.K fd ps [])
    (hx : PassesAt CX X σ (E σ)) (I : Inv X pins σ H s) (r : Vals vs us)
    (h : ∀ x dx, H x = none → H dx = none → dx ≠ x → sp (.ref x :: vs) (upd (upd H dx (.own x)) x (.ins Ca dx [])) (fun v H2 => v = .non ∧ Q (.ref x) H2) (E σ)) :
    wpAny (model X.prog X.w) X.A (call (.ref Ca) us) (EP X pins σ Q) X.xe s := by
  have q := h (s.heap.objs.size + 1) s.heap.objs.size (I.hok.fresh (Nat.le_succ _)) (I.hok.fresh (Nat.le_refl _)) (Nat.ne_of_lt (Nat.lt_succ_self _))
  have J := Inv.made (C := Ca) I
  have rv : Vals (V.ref (s.heap.objs.size + 1) :: vs) (Value.ref (s.heap.objs.size + 1) :: us) := .cons rfl r
  have hl : (Value.ref (s.heap.objs.size + 1) :: us).length = ps.length := by rw [← rv.length]; exact F.len _ _ _ _ q
  have bt := hb _ (Value.ref (s.heap.objs.size + 1) :: us) J.kIn (by rw [List.append_nil]; exact hl)
  rw [List.append_nil] at bt
  refine wpAny_call (make_map (f := f) I.kIn Mk'.makes Mk'.init (beq_iff_eq.mp Mk'.fn) (codeAny_mono (F.run _ X.stack _ _ ⟨_, []⟩ _ _ _ _ (hr.make Ca us []) (J.env0.make Ca us []) bt rv q) fun r s' z => ?_))
  cases r with
  | error e => exact hx pins _ _ e s' J z
  | ok fl =>
    cases fl with
    | ret u =>
      obtain ⟨v, H', J3, rv', rfl, q3⟩ := J.after z
      exact ⟨rv', V.ref (s.heap.objs.size + 1), H', J3, rfl, q3⟩
    | next => exact z.elim
    | brk => exact z.elim
    | cont => exact z.elim
def tMakeS (Ca : Addr) (sp : Sp) (E : L2.St → XK) (t : TA) : TE := fun σ H Q => t σ H fun vs H1 => ∀ x dx, H1 x = none → H1 dx = none → dx ≠ x → sp (.ref x :: vs) (upd (upd H1 dx (.own x)) x (.ins Ca dx [])) (fun v H2 => v = .non ∧ Q (.ref x) H2) (E σ)
theorem pe_makeS (Mk' : Mk X.K Ca f) (F : FnOk X.prog X.w X.K X.mg X.base CX k f fd ps sp) (hr : Room (k + 1) X.A) (hg : Gl X x) (hm : X.mg x = some (.ref Ca)) (hb : Binds X.K fd ps []) (hx : ∀ σ, PassesAt CX X σ (E σ))
    (ha : PA X (e :: es) t) (hdb : (x == ("__debug__" : Str)) = false) (he : starEach (e :: es) X.env = (false, eval e X.env) :: starEach es X.env) (hpl : (backTo pos (starEach es X.env)).any (·.1) = false) :
    PE X (.Call (.Name x p) (e :: es) [] pos) (tMakeS Ca sp E t) := by
  refine ⟨fun pins s σ H Q I h => ?_⟩
  refine wpAny_Call_Name_kw (ld_glob I hg hm ?_ hdb)
  exact PySem.W.callWith_K (h₀ := X.base) I.ok.mod.kin Mk'.kp (thn (ha.run pos pins s σ H _ I h) fun us s1 ⟨vs, H1, I1, r, q⟩ => ⟨I1.kIn, run_makeS Mk' F hr hb (hx σ) I1 r q⟩) he hpl
theorem pe_make0S (Mk' : Mk X.K Ca f) (F : FnOk X.prog X.w X.K X.mg X.base CX k f fd ps sp) (hr : Room (k + 1) X.A) (hg : Gl X x) (hm : X.mg x = some (.ref Ca)) (hb : Binds X.K fd ps []) (hx : ∀ σ, PassesAt CX X σ (E σ))
    (hdb : (x == ("__debug__" : Str)) = false) : PE X (.Call (.Name x p) [] [] pos) (tMakeS Ca sp E tNil) := by
  refine ⟨fun pins s σ H Q I h => ?_⟩
  refine wpAny_Call_Name_kw (ld_glob I hg hm ?_ hdb)
  exact PySem.W.callWith_K0 I.kIn Mk'.kp (run_makeS (us := []) Mk' F hr hb (hx σ) I .nil h)
def tMethS (Ca : Addr) (m : Str) (sp : Sp) (E : L2.St → XK) (ta : TE) (t : TA) : TE := fun σ H Q => ta σ H fun x H1 => ∃ a dx fs, x = .ref a ∧ H1 a = some (.ins Ca dx fs) ∧ fs.lookup m = none ∧ t σ H1 fun vs H2 => sp (.ref a :: vs) H2 Q (E σ)
/-- how a method call of so many arguments begins -/
def MCall (X : Cx) (o : Expr) (m : Str) (apos : Pos) (es : List Expr) (pos : Pos) : Prop := ∃ pl : Sem Bool, eval (.Call (.Attribute o m apos) es [] pos) X.env = (do
      let ov ← eval o X.env
      standAt apos.atName
      let (f, first) ← holding [ov] (getMethod ov m pl)
      callWith pos f first (backTo pos (starEach es X.env)) (backToKw pos (keywordEach [] X.env)))
theorem pe_methS' (he : PE X o ta) (c : Cls X.K Ca) (hm : Meth X.K Ca m f) (F : FnOk X.prog X.w X.K X.mg X.base CX k f fd ps sp) (hr : Room k X.A) (hb : Binds X.K fd ps []) (hx : ∀ σ, PassesAt CX X σ (E σ)) (ha : PA X (e :: es) t)
    (hst : starEach (e :: es) X.env = (false, eval e X.env) :: starEach es X.env) (hpl : (backTo pos (starEach es X.env)).any (·.1) = false) (ht : MCall X o m apos (e :: es) pos) :
    PE X (.Call (.Attribute o m apos) (e :: es) [] pos) (tMethS Ca m sp E ta t) := by
  obtain ⟨pl, ht⟩ := ht
  refine ⟨fun pins s σ H Q I h => ?_⟩
  refine PySem.W.methodCall_KW (pl := pl) (thn (he.run pins s σ H _ I h) fun u s1 ⟨x, H1, I1, rx, a, dx, fs, ex, ea, l, q⟩ => ?_) ht
  subst ex
  obtain rfl : u = Value.ref a := rx
  refine getmeth_ok I1 ea c hm l ?_
  exact PySem.W.callWith_K (first := [.ref a]) (h₀ := X.base) I.ok.mod.kin hm.kp (thn (ha.run pos pins s1 σ H1 _ I1 q) fun us s2 ⟨vs, H2, I2, r, q2⟩ => ⟨I2.kIn, run_fnS (us := .ref a :: us) (vs := .ref a :: vs) F hr hb (hx σ) I2 (.cons rfl r) q2⟩) hst hpl
theorem pe_meth0S (he : PE X o ta) (c : Cls X.K Ca) (hm : Meth X.K Ca m f) (F : FnOk X.prog X.w X.K X.mg X.base CX k f fd ps sp) (hr : Room k X.A) (hb : Binds X.K fd ps []) (hx : ∀ σ, PassesAt CX X σ (E σ)) (ht : MCall X o m apos [] pos) :
    PE X (.Call (.Attribute o m apos) [] [] pos) (tMethS Ca m sp E ta tNil) := by
  obtain ⟨pl, ht⟩ := ht
  refine ⟨fun pins s σ H Q I h => ?_⟩
  refine PySem.W.methodCall_KW (pl := pl) (thn (he.run pins s σ H _ I h) fun u s1 ⟨x, H1, I1, rx, a, dx, fs, ex, ea, l, q⟩ => ?_) ht
  subst ex
  obtain rfl : u = Value.ref a := rx
  refine getmeth_ok I1 ea c hm l ?_
  exact PySem.W.callWith_K0 (first := [.ref a]) I1.kIn hm.kp (run_fnS (us := [.ref a]) (vs := [.ref a]) F hr hb (hx σ) I1 (.cons rfl .nil) q)
end
/-- a class called: the plain run gives its promise -/
theorem mk_of {σ : L2.St} {M0 M1 : Mp} {H0 H1 : Hp} {c f np : Nat} (hφ : ∀ as h, C f as h ≠ .no → as.length = np) {vs : List V} {xs : List Sl} {h1 : Hh} {Q : VK} (s1 : Sx M0 H0 M1 H1) (rh1 : RH g.toGc M1 h1 H1) (r1 : RSls g.toGc M1 H1 vs xs)
    (w : wq (mkP C c f xs h1) (fun p => ∀ M' v H', Out g.toGc M0 H0 M' p.2 v H' p.1 → Q v H') (XP g W σ M0 H0)) :
    ∀ x dx, H1 x = none → H1 dx = none → dx ≠ x → spF g.toGc np (C f) (.ref x :: vs) (upd (upd H1 dx (.own x)) x (.ins (g.ca c) dx [])) (fun v H2 => v = .non ∧ Q (.ref x) H2) (WE W σ) := by
  intro y dx hy hd ne
  obtain ⟨st, rl⟩ := rh1.laid (c := c) hy hd ne
  have r1' : RSls g.toGc (ML M1 y) (upd (upd H1 dx (.own y)) y (.ins (g.ca c) dx [])) vs xs := by
    clear w hφ
    induction vs generalizing xs with
    | nil => cases xs <;> exact r1
    | cons v vs ih =>
      cases xs with
      | nil => exact r1
      | cons s xs =>
        refine ⟨?_, ih r1.2⟩
        have q := r1.1
        cases s with
        | p q' => exact RP.step st q
        | rf i => obtain ⟨a, e1, e2⟩ := q; exact ⟨a, e1, at_ml e2⟩
        | xc c l => exact q
  have hl : (RSls g.toGc (ML M1 y) (upd (upd H1 dx (.own y)) y (.ins (g.ca c) dx [])) (.ref y :: vs) (.rf h1.s.length :: xs)) := ⟨⟨y, rfl, by rw [rh1.ls]; exact at_ml_new⟩, r1'⟩
  unfold mkP at w
  have nz : C f (.rf h1.s.length :: xs) ⟨h1.s ++ [.obj c []], h1.p⟩ ≠ .no := fun z => by rw [z] at w; exact w
  have sub : ∀ {M2 : Mp} {H2 : Hp}, Sx (ML M1 y) (upd (upd H1 dx (.own y)) y (.ins (g.ca c) dx [])) M2 H2 → (∀ b, Wr ⟨M1.pl, M2.pm, M1.av⟩ b → Wr M2 b) := fun {M2 H2} s2 b ⟨r, e⟩ => by
    refine ⟨r, ?_⟩
    cases r with
    | s i =>
      have e := at_s.mp e
      refine at_s.mpr ?_
      rw [s2.pl]
      show (M1.pl ++ [some y])[i]? = _
      rw [List.getElem?_append_left (List.getElem?_eq_some_iff.mp e).1]; exact e
    | p k => exact e
  refine ⟨by rw [hl.length]; exact hφ _ _ nz, ML M1 y, _, _, hl, rl, ?_⟩
  cases e2 : C f (.rf h1.s.length :: xs) ⟨h1.s ++ [.obj c []], h1.p⟩ with
  | no => exact absurd e2 nz
  | ex e h2 =>
    rw [e2] at w
    intro M2 H2 d s2 rh2 rx
    have tk : M2.pl.take h1.s.length = M1.pl := by rw [s2.pl]; show (M1.pl ++ [some y]).take _ = _; rw [rh1.ls]; simp
    have wr := sub s2
    have nm : ∀ b, NM ⟨M1.pl, M2.pm, M1.av⟩ b → NM M2 b := fun b z => z.imp (wr b) fun z => by rw [s2.av]; exact z
    have sx : Sx M1 H1 ⟨M1.pl, M2.pm, M1.av⟩ H2 := ⟨(st.trans s2.st).less nm wr rfl, rfl, rfl⟩
    refine w _ H2 d (s1.trans sx) (rh2.cut (M2 := ⟨M1.pl, M2.pm, M1.av⟩) tk rfl (fun b z => nm b (.inr z)) fun b z q => ?_) (rx.step (Stp.same nm wr rfl))
    exact rh2.sep b (by rw [s2.av]; exact z) (wr b q)
  | ok p =>
    obtain ⟨r2, h2⟩ := p
    rw [e2] at w
    intro M2 v H2 o2
    dsimp only at w
    split at w
    · rename_i c' l er
      have k := wq_ok w
      obtain ⟨s2, rh2, rv⟩ := o2
      cases rv
      refine ⟨rfl, k ⟨M1.pl, M2.pm, M1.av⟩ _ _ (Out.before s1 ?_)⟩
      have wr : ∀ b, Wr (MA ⟨M1.pl, M2.pm, M1.av⟩ y) b → Wr M2 b := sub s2
      have ya : M2.at (.s h1.s.length) = some y := at_s.mpr (by rw [s2.pl, rh1.ls]; exact at_s.mp at_ml_new)
      have nm : ∀ b, NM (MA ⟨M1.pl, M2.pm, M1.av⟩ y) b → NM M2 b := fun b z => by
        rcases z with z | rfl | z
        · exact .inl (wr b z)
        · exact .inl ⟨_, ya⟩
        · exact .inr (by rw [s2.av]; exact z)
      have ny : ¬ Wr ⟨M1.pl, M2.pm, M1.av⟩ y := fun ⟨r, e⟩ => by
        have e' : M2.at r = some y := by
          cases r with
          | s i =>
            have e := at_s.mp e
            refine at_s.mpr ?_
            rw [s2.pl]
            show (M1.pl ++ [some y])[i]? = _
            rw [List.getElem?_append_left (List.getElem?_eq_some_iff.mp e).1]; exact e
          | p k => exact e
        have z := rh2.nd r _ y e' ya
        subst z
        rw [rh1.ls] at e
        have e := at_s.mp e
        simp at e
      have tk : M2.pl.take h1.s.length = (MA ⟨M1.pl, M2.pm, M1.av⟩ y).pl := by rw [s2.pl]; show (M1.pl ++ [some y]).take _ = _; rw [rh1.ls]; simp
      refine ⟨y, rfl, fun z => ?_, hy, (st.trans s2.st).less nm wr rfl, rfl, rfl, ?_, ?_⟩
      · rcases z with z | z
        · exact ny z
        · exact rh1.notM hy (.inr z)
      · refine rh2.cut tk rfl (fun b z => nm b (.inr z)) fun b z q => ?_
        rcases z with rfl | z
        · exact ny q
        · exact rh2.sep b (by rw [s2.av]; exact z) (wr b q)
      · rcases rh2.ob (.s h1.s.length) _ y er ya with z | z
        · cases z
        · exact z.step (Stp.same nm wr rfl) fun _ z => z
    · exact (wq_ne w rfl).elim
theorem e_mk {f c k : Nat} {fa : Addr} {fd : FuncData} {ps : List Str} {x : Str} {p : Pos} {e : Expr} (hφ : ∀ as h, C f as h ≠ .no → as.length = ps.length)
    (Mk' : Mk X.K (g.ca c) fa) (F : FnOk X.prog X.w X.K X.mg X.base (L2N.CX X.prog X.w) k fa fd ps (spF g.toGc ps.length (C f))) (tk : L2N.Takes X W) (hr : Room (k + 1) X.A) (hg : Gl X x) (hm : X.mg x = some (.ref (g.ca c))) (hb : Binds X.K fd ps [])
    (ha : PA X (e :: es) (tAr g W (relA g.toGc) (evA C G cs))) (hdb : (x == ("__debug__" : Str)) = false) (he : starEach (e :: es) X.env = (false, eval e X.env) :: starEach es X.env) (hpl : (backTo pos (starEach es X.env)).any (·.1) = false) :
    PE X (.Call (.Name x p) (e :: es) [] pos) (tE g W (ev C G (.mk c f cs))) :=
  (pe_makeS Mk' F hr hg hm hb (L2N.passAt tk) ha hdb he hpl).weak fun σ H Q ⟨M, env, h, re, rh, w⟩ => by
    rw [ev] at w
    exact tAr.of re rh (wq_bind w) id fun xs h1 M1 vs H1 s1 rh1 r1 w => mk_of hφ s1 rh1 r1 w
theorem e_mk0 {f c k : Nat} {fa : Addr} {fd : FuncData} {ps : List Str} {x : Str} {p : Pos} (hφ : ∀ as h, C f as h ≠ .no → as.length = ps.length)
    (Mk' : Mk X.K (g.ca c) fa) (F : FnOk X.prog X.w X.K X.mg X.base (L2N.CX X.prog X.w) k fa fd ps (spF g.toGc ps.length (C f))) (tk : L2N.Takes X W) (hr : Room (k + 1) X.A) (hg : Gl X x) (hm : X.mg x = some (.ref (g.ca c))) (hb : Binds X.K fd ps [])
    (hdb : (x == ("__debug__" : Str)) = false) : PE X (.Call (.Name x p) [] [] pos) (tE g W (ev C G (.mk c f []))) :=
  (pe_make0S Mk' F hr hg hm hb (L2N.passAt tk) hdb).weak fun σ H Q ⟨M, env, h, re, rh, w⟩ => by
    rw [ev, evA] at w
    exact mk_of (xs := []) hφ Sx.refl rh trivial w
theorem RFs.lookup {g : Gc} {N : Nx} {H : Hp} {f : Str} : ∀ {fs : List (Str × V)} {l : List (Str × P)}, RFs g N H fs l → (∀ p, l.lookup f = some p → ∃ v, fs.lookup f = some v ∧ RP g N H v p) ∧ (l.lookup f = none → fs.lookup f = none)
  | _, _, .nil => ⟨fun p e => by simp at e, fun _ => rfl⟩
  | _, _, .cons (k := k') (v := v) r b => by
    have ih := RFs.lookup (f := f) b
    by_cases e : f = k'
    · subst e
      simp only [List.lookup_cons_self]
      exact ⟨fun q z => by cases z; exact ⟨v, rfl, r⟩, fun z => by cases z⟩
    · have q : (f == k') = false := by simpa using e
      simp only [List.lookup_cons, q]
      exact ih
theorem e_fld {f : Str} (hf : ∀ c, f ∈ G.fl c → Cls X.K (g.ca c) ∧ NoAttr X.K (g.ca c) f) (ha : PE X a (tE g W (ev C G ea))) (hb : attributeBase a f X.env (eval a X.env) = eval a X.env) : PE X (.Attribute a f pos) (tE g W (ev C G (.fld ea f))) :=
  (pe_fld ha hb).weak fun σ H Q ⟨M, env, h, re, rh, w⟩ => by
    rw [ev] at w
    refine tE.of re rh (wq_bind w) id fun x h1 M1 v H1 o1 w => ?_
    obtain ⟨y, e3, w⟩ := wq_of w
    obtain ⟨q, e4, w⟩ := wq_of w
    have kk := wq_ok w
    clear w
    have d := o1.rd e3
    unfold fldP at e4
    split at e4
    · split at e4
      · rename_i c l hc
        obtain ⟨b, dx, vs, e5, e6, e7⟩ := d.obj
        obtain ⟨u, e8, e9⟩ := (RFs.lookup e7).1 _ e4
        obtain ⟨c1, c2⟩ := hf c hc
        exact ⟨b, g.ca c, dx, vs, u, e5, e6, c1, c2, e8, kk M1 _ _ (Out.before o1.sx (Out.val o1.rh e9))⟩
      · cases e4
    · cases e4
theorem isObjP_ok {c : Nat} {m : Option Str} {y : P} {u : Unit} (e : isObjP c m y = some u) : ∃ l, y = .obj c l ∧ ∀ x, m = some x → l.lookup x = none := by
  unfold isObjP at e
  split at e
  · split at e
    · rename_i h; exact ⟨_, by rw [h.1], h.2⟩
    · cases e
  · cases e
theorem pass_none {X : Cx} : Passes (L2N.CX X.prog X.w) X (fun _ _ _ => False) := fun pins σ H s e s' I c => by
  obtain ⟨a, B, H', cls, d, _, _, _, _, _, _, _, z⟩ := c
  exact z.elim
theorem e_prp {f : Str} {c fi k : Nat} {pr fa : Addr} {fd : FuncData} {ps : List Str} (hφ : ∀ as h, C fi as h ≠ .no → as.length = ps.length)
    (hc : Cls X.K (g.ca c)) (hp : PropOf X.K (g.ca c) f pr fa) (F : FnOk X.prog X.w X.K X.mg X.base (L2N.CX X.prog X.w) k fa fd ps (spF g.toGc ps.length (C fi))) (hr : Room (k + 1) X.A) (hb : Binds X.K fd ps [])
    (ha : PE X a (tE g W (ev C G ea))) (hab : attributeBase a f X.env (eval a X.env) = eval a X.env) : PE X (.Attribute a f pos) (tE g W (ev C G (.prp c fi ea))) :=
  (pe_prop ha hc hp F hr hb .nil (E := fun _ _ _ => False) (pass_none (X := X.nox)) hab).weak fun σ H Q ⟨M, env, h, re, rh, w⟩ => by
    rw [ev] at w
    refine tE.of re rh (wq_bind w) id fun x h1 M1 v H1 o1 w => ?_
    obtain ⟨y, e3, w⟩ := wq_of w
    obtain ⟨u, e4, w⟩ := wq_of w
    obtain ⟨s, e5, w⟩ := wq_of w
    have w' := wq_calm w
    obtain ⟨l, rfl, _⟩ := isObjP_ok e4
    obtain ⟨b, dx, vs, e6, e7, e8⟩ := (o1.rd e3).obj
    subst e6
    have hs : RSls g.toGc M1 H1 [V.ref b] [s] := ⟨o1.slot e5, trivial⟩
    exact ⟨b, dx, vs, rfl, e7, by rw [hs.length]; exact hφ _ _ (wq_ne w'), M1, [s], h1, hs, o1.rh, wq_mono w' (fun p k M2 v H2 o2 => k M2 v H2 (Out.before o1.sx o2)) fun _ _ z => z.elim⟩
theorem e_pmt {m : Str} {c fi k : Nat} {fa : Addr} {fd : FuncData} {ps : List Str} {apos : Pos} {e : Expr} (hφ : ∀ as h, C fi as h ≠ .no → as.length = ps.length)
    (hc : Cls X.K (g.ca c)) (hm : Meth X.K (g.ca c) m fa) (F : FnOk X.prog X.w X.K X.mg X.base (L2N.CX X.prog X.w) k fa fd ps (spF g.toGc ps.length (C fi))) (tk : L2N.Takes X W) (hr : Room k X.A) (hb : Binds X.K fd ps [])
    (he : PE X a (tE g W (ev C G ea))) (ha : PA X (e :: es) (tAr g W (relA g.toGc) (evA C G cs)))
    (hst : starEach (e :: es) X.env = (false, eval e X.env) :: starEach es X.env) (hpl : (backTo pos (starEach es X.env)).any (·.1) = false) (ht : MCall X a m apos (e :: es) pos) :
    PE X (.Call (.Attribute a m apos) (e :: es) [] pos) (tE g W (ev C G (.pmt c fi m ea cs))) :=
  (pe_methS' he hc hm F hr hb (L2N.passAt tk) ha hst hpl ht).weak fun σ H Q ⟨M, env, h, re, rh, w⟩ => by
    rw [ev] at w
    refine tE.of re rh (wq_bind w) id fun x h1 M1 v H1 o1 w => ?_
    obtain ⟨y, e3, w⟩ := wq_of w
    obtain ⟨u, e4, w⟩ := wq_of w
    obtain ⟨s, e5, w'⟩ := wq_of w
    obtain ⟨l, rfl, hl⟩ := isObjP_ok e4
    obtain ⟨b, dx, vs, e6, e7, e8⟩ := (o1.rd e3).obj
    subst e6
    refine ⟨b, dx, vs, rfl, e7, (RFs.lookup e8).2 (hl m rfl), ?_⟩
    refine tAr.of (re.sx o1.sx) o1.rh (wq_bind w') (XP.sx o1.sx) fun xs h2 M2 ws H2 s2 rh2 r2 w => ?_
    exact spF_of hφ (o1.sx.trans s2) rh2 (xs := s :: xs) ⟨(o1.slot e5).sx s2, r2⟩ w
theorem e_pmt0 {m : Str} {c fi k : Nat} {fa : Addr} {fd : FuncData} {ps : List Str} {apos : Pos} (hφ : ∀ as h, C fi as h ≠ .no → as.length = ps.length)
    (hc : Cls X.K (g.ca c)) (hm : Meth X.K (g.ca c) m fa) (F : FnOk X.prog X.w X.K X.mg X.base (L2N.CX X.prog X.w) k fa fd ps (spF g.toGc ps.length (C fi))) (tk : L2N.Takes X W) (hr : Room k X.A) (hb : Binds X.K fd ps [])
    (he : PE X a (tE g W (ev C G ea))) (ht : MCall X a m apos [] pos) :
    PE X (.Call (.Attribute a m apos) [] [] pos) (tE g W (ev C G (.pmt c fi m ea []))) :=
  (pe_meth0S he hc hm F hr hb (L2N.passAt tk) ht).weak fun σ H Q ⟨M, env, h, re, rh, w⟩ => by
    rw [ev] at w
    refine tE.of re rh (wq_bind w) id fun x h1 M1 v H1 o1 w => ?_
    obtain ⟨y, e3, w⟩ := wq_of w
    obtain ⟨u, e4, w⟩ := wq_of w
    obtain ⟨s, e5, w'⟩ := wq_of w
    obtain ⟨l, rfl, hl⟩ := isObjP_ok e4
    obtain ⟨b, dx, vs, e6, e7, e8⟩ := (o1.rd e3).obj
    subst e6
    refine ⟨b, dx, vs, rfl, e7, (RFs.lookup e8).2 (hl m rfl), ?_⟩
    rw [evA] at w'
    exact spF_of hφ o1.sx o1.rh (xs := [s]) ⟨o1.slot e5, trivial⟩ w'
end
end EV

set_option Elab.async false
set_option linter.all false
set_option maxRecDepth 100000
/-! EvK: what is walked; comprehensions -/
namespace EV
open PySem PySem.Spec PyProof.Rows L2

abbrev Ext (H H' : Hp) : Prop := ∀ a o, H a = some o → H' a = some o
theorem Ext.sx {M : Mp} {H H' : Hp} (e : Ext H H') : Sx M H M H' := by
  refine ⟨⟨fun a o h _ => e a o h, fun _ h => .inl h, fun _ h => .inl h, fun a z => ?_, fun _ _ z => z⟩, rfl, rfl⟩
  cases q : H a with
  | none => rfl
  | some o => rw [e a o q] at z; cases z
theorem Ext.stp {M : Mp} {H H' : Hp} (e : Ext H H') : Stp M H M H' := e.sx.st
theorem RH.ext {g : Gc} {M : Mp} {h : Hh} {H H' : Hp} (x : RH g M h H) (e : Ext H H') : RH g M h H' :=
  ⟨x.ls, x.lp, fun r p a e1 e2 => (x.ob r p a e1 e2).imp id fun z => z.step e.stp fun o q => e a o q, x.nd, fun a z => by obtain ⟨o, q⟩ := x.live a z; exact ⟨o, e a o q⟩, x.sep⟩
/-- the iterator J gives these, whatever steps are done -/
structure Wk (g : Gc) (M : Mp) (H1 : Hp) (J : It) (ps : List P) : Prop where
  stop : ∀ M' H, Stp M H1 M' H → J.stop ps.length H
  go : ∀ M' H i, Stp M H1 M' H → i < ps.length → J.go i H
  yld : ∀ M' H i x H', Stp M H1 M' H → (∀ a, NM M' a → ∃ o, H a = some o) → i < ps.length → J.yld i H x H' → ∃ p, ps[i]? = some p ∧ Ext H H' ∧ RP g (NM M') H' x p
theorem RPs.ixV {g : Gc} {N : Nx} {H : Hp} {vs : List V} {ps : List P} {i : Nat} (r : RPs g N H vs ps) (h : i < ps.length) : ∃ v p, vs[i]? = some v ∧ ps[i]? = some p ∧ RP g N H v p := by
  have e : ps[i]? = some ps[i] := List.getElem?_eq_getElem h
  obtain ⟨v, e1, e2⟩ := r.get e
  exact ⟨v, _, e1, e, e2⟩
section
variable {g : Gc} {M : Mp} {H1 : Hp}
theorem wk_lst {a : Addr} {ps : List P} (r : RP g (NM M) H1 (.ref a) (.lst ps)) : Wk g M H1 (Itl g.K a) ps where
  stop := fun N' H s => by
    cases r.step s with | lst n h b => exact ⟨_, SqL.of h, by rw [b.length]; exact Nat.le_refl _⟩
  go := fun N' H i s hi => by
    cases r.step s with | lst n h b => obtain ⟨v, p, e1, e2, e3⟩ := b.ixV hi; exact ⟨_, v, SqL.of h, e1⟩
  yld := fun N' H i x H' s _ hi y => by
    obtain ⟨rfl, y⟩ := y
    cases r.step s with
    | lst n h b =>
      obtain ⟨v, p, e1, e2, e3⟩ := b.ixV hi
      have := y _ (SqL.of h)
      rw [e1] at this; cases this
      exact ⟨p, e2, fun _ _ z => z, e3⟩
theorem wk_flst {a : Addr} {ps : List P} (r : RP g (NM M) H1 (.ref a) (.flst ps)) : Wk g M H1 (Itl g.K a) ps where
  stop := fun N' H s => by
    cases r.step s with | flst h b => exact ⟨_, h.sq, by rw [b.length]; exact Nat.le_refl _⟩
  go := fun N' H i s hi => by
    cases r.step s with | flst h b => obtain ⟨v, p, e1, e2, e3⟩ := b.ixV hi; exact ⟨_, v, h.sq, e1⟩
  yld := fun N' H i x H' s _ hi y => by
    obtain ⟨rfl, y⟩ := y
    cases r.step s with
    | flst h b =>
      obtain ⟨v, p, e1, e2, e3⟩ := b.ixV hi
      have := y _ (h.sq)
      rw [e1] at this; cases this
      exact ⟨p, e2, fun _ _ z => z, e3⟩
theorem wk_tup {a : Addr} {ps : List P} (r : RP g (NM M) H1 (.ref a) (.tup ps)) : Wk g M H1 (Itt g.K a) ps where
  stop := fun N' H s => by
    cases r.step s with | tup h b => exact ⟨_, h.sq, by rw [b.length]; exact Nat.le_refl _⟩
  go := fun N' H i s hi => by
    cases r.step s with | tup h b => obtain ⟨v, p, e1, e2, e3⟩ := b.ixV hi; exact ⟨_, v, h.sq, e1⟩
  yld := fun N' H i x H' s _ hi y => by
    obtain ⟨rfl, y⟩ := y
    cases r.step s with
    | tup h b =>
      obtain ⟨v, p, e1, e2, e3⟩ := b.ixV hi
      have := y _ h.sq
      rw [e1] at this; cases this
      exact ⟨p, e2, fun _ _ z => z, e3⟩
theorem wk_rng {lo : Int} {n : Nat} : Wk g M H1 (Itr lo n) ((List.range n).map fun k => .int (lo + (k : Nat))) where
  stop := fun N' H s => by show n ≤ _; simp
  go := fun N' H i s hi => by show i < n; simpa using hi
  yld := fun N' H i x H' s _ hi y => by
    obtain ⟨rfl, rfl⟩ := y
    have hi : i < n := by simpa using hi
    exact ⟨.int (lo + (i : Nat)), by simp [hi], fun _ _ z => z, .int⟩
theorem ext_new {H : Hp} {T : Addr} {o : HO} (h : H T = none) : Ext H (upd H T o) := fun a u e => by rw [upd_ne (ne_of_none e h)]; exact e
theorem newTup_RP {M : Mp} {H : Hp} {T : Addr} {vs : List V} {ps : List P} (hT : H T = none) (live : ∀ a, NM M a → ∃ o, H a = some o) (r : RPs g (NM M) H vs ps) : RP g (NM M) (upd H T (.tup vs)) (.ref T) (.tup ps) := by
  have nT : ¬ NM M T := fun z => by obtain ⟨o, e⟩ := live T z; rw [hT] at e; cases e
  exact .tup (.inl ⟨nT, .inl upd_same⟩) (r.step (Ext.stp (ext_new hT)))
theorem wk_zip {a b : Addr} {ps qs : List P} (r1 : RP g (NM M) H1 (.ref a) (.lst ps)) (r2 : RP g (NM M) H1 (.ref b) (.lst qs)) : Wk g M H1 (Itz g.K a b) ((ps.zip qs).map fun p => .tup [p.1, p.2]) where
  stop := fun N' H s => by
    cases r1.step s with | lst n h c => cases r2.step s with | lst n' h' c' =>
      refine ⟨_, _, SqL.of h, SqL.of h', ?_⟩
      rw [c.length, c'.length]; simp; omega
  go := fun N' H i s hi => by
    simp only [List.length_map, List.length_zip] at hi
    cases r1.step s with | lst n h c => cases r2.step s with | lst n' h' c' =>
      obtain ⟨v, p, e1, _, _⟩ := c.ixV (i := i) (by omega)
      obtain ⟨w, q, e2, _, _⟩ := c'.ixV (i := i) (by omega)
      exact ⟨_, _, v, w, SqL.of h, SqL.of h', e1, e2⟩
  yld := fun N' H i x H' s live hi y => by
    simp only [List.length_map, List.length_zip] at hi
    obtain ⟨T, v, w, rfl, hT, rfl, y1, y2⟩ := y
    cases r1.step s with | lst n h c => cases r2.step s with | lst n' h' c' =>
      obtain ⟨v', p, e1, e3, e5⟩ := c.ixV (i := i) (by omega)
      obtain ⟨w', q, e2, e4, e6⟩ := c'.ixV (i := i) (by omega)
      have z1 := y1 _ (SqL.of h)
      have z2 := y2 _ (SqL.of h')
      rw [e1] at z1; rw [e2] at z2; cases z1; cases z2
      refine ⟨.tup [p, q], ?_, ext_new hT, newTup_RP hT live (.cons e5 (.cons e6 .nil))⟩
      have ez : (ps.zip qs)[i]? = some (p, q) := List.getElem?_zip_eq_some.mpr ⟨e3, e4⟩
      rw [List.getElem?_map, ez]; rfl
theorem enumP_get : ∀ {ps : List P} {n i : Nat}, (enumP n ps)[i]? = (ps[i]?).map fun p => .tup [.int ((n + i : Nat) : Int), p]
  | [], _, _ => by simp [enumP]
  | p :: ps, n, 0 => by simp [enumP]
  | p :: ps, n, i + 1 => by
    simp only [enumP, List.getElem?_cons_succ]
    rw [enumP_get, show n + 1 + i = n + (i + 1) by omega]
theorem enumP_length : ∀ {ps : List P} {n : Nat}, (enumP n ps).length = ps.length
  | [], _ => rfl
  | p :: ps, n => by simp [enumP, enumP_length]
theorem wk_enum {a : Addr} {ps : List P} (r : RP g (NM M) H1 (.ref a) (.lst ps)) : Wk g M H1 (Ite g.K a) (enumP 0 ps) where
  stop := fun N' H s => by
    cases r.step s with | lst n h b => exact ⟨_, SqL.of h, by rw [b.length, enumP_length]; exact Nat.le_refl _⟩
  go := fun N' H i s hi => by
    rw [enumP_length] at hi
    cases r.step s with | lst n h b => obtain ⟨v, p, e1, e2, e3⟩ := b.ixV hi; exact ⟨_, v, SqL.of h, e1⟩
  yld := fun N' H i x H' s live hi y => by
    rw [enumP_length] at hi
    obtain ⟨T, v, rfl, hT, rfl, y1⟩ := y
    cases r.step s with
    | lst n h b =>
      obtain ⟨v', p, e1, e2, e3⟩ := b.ixV hi
      have z1 := y1 _ (SqL.of h)
      rw [e1] at z1; cases z1
      refine ⟨.tup [.int (i : Nat), p], ?_, ext_new hT, newTup_RP hT live (.cons .int (.cons e3 .nil))⟩
      rw [enumP_get, e2]; simp
end

def tIt (g : Gx) (W : WX) (c : Fr → Hh → Rq (List P × Hh)) : TI := fun σ H Rr => ∃ M env h, REnv g M H σ env ∧ RH g.toGc M h H ∧ wq (c env h) (fun p => ∀ M' J H1, Sx M H M' H1 → RH g.toGc M' p.2 H1 → Wk g.toGc M' H1 J p.1 → Rr J H1) (XP g W σ M H)
section
variable {X : Cx} {g : Gx} {W : WX} {C : Cl} {G : Tb} {pos : Pos} {a b c tg : Expr} {ea eb : E}
theorem _root_.L2.PI.weak {tg e : Expr} {t t' : TI} (h : PI X tg e t) (w : ∀ σ H Q, t' σ H Q → t σ H Q) : PI X tg e t' := ⟨fun pins s σ H Q I q => h.run pins s σ H Q I (w _ _ _ q)⟩
/-- a list or a tuple -/
def iSeq (K : PySem.W.Frag) (tl : TE) : TI := fun σ H R => tl σ H fun x H1 => (∃ a, x = .ref a ∧ (∃ xs, SqL K H1 a xs) ∧ R (Itl K a) H1) ∨ ∃ a, x = .ref a ∧ (∃ xs, SqT K H1 a xs) ∧ R (Itt K a) H1
theorem pi_seq {tg l : Expr} {tl : TE} (hl : PE X l tl) : PI X tg l (iSeq X.K tl) := by
  refine ⟨fun pins s σ H R I h => ?_⟩
  refine thn (hl.run pins s σ H _ I h) fun v s1 ⟨x, H1, I1, r1, q1⟩ => ?_
  rcases q1 with ⟨a, e, ⟨xs, hq⟩, q⟩ | ⟨a, e, ⟨xs, hq⟩, q⟩
  · subst e
    cases r1
    obtain ⟨its, rv, p, hz⟩ := I1.list hq
    refine wpAny_pyIter_list p.isList ?_
    refine ⟨s1.heap.objs.size, [s1.heap.objs.size], _, _, H1, rfl, I1.kept (t' := s1.toks) fun b o e => Heap.get?_push_of_some _ e, turn_list a _, ⟨_, Heap.get?_push_size _ rfl, rfl, rfl⟩, fun b hb => ?_, q⟩
    have e : b = s1.heap.objs.size := by simpa using hb
    subst e
    exact I1.fpOk (Nat.le_refl _) (I1.hok.fresh (Nat.le_refl _))
  · subst e
    cases r1
    obtain ⟨its, rv, p, hz⟩ := I1.tuple hq
    refine wpAny_pyIter_tuple (show s1.heap.IsTuple a its.toArray from p) ?_
    refine ⟨s1.heap.objs.size, [s1.heap.objs.size], _, _, H1, rfl, I1.kept (t' := s1.toks) fun b o e => Heap.get?_push_of_some _ e, turn_tuple a _, ⟨_, Heap.get?_push_size _ rfl, rfl, rfl⟩, fun b hb => ?_, q⟩
    have e : b = s1.heap.objs.size := by simpa using hb
    subst e
    exact I1.fpOk (Nat.le_refl _) (I1.hok.fresh (Nat.le_refl _))
theorem i_e (hK : g.K = X.K) (ha : PE X a (tE g W (ev C G ea))) : PI X tg a (tIt g W (evI C G (.e ea))) :=
  (pi_seq ha).weak fun σ H Q ⟨M, env, h, re, rh, w⟩ => by
    rw [evI] at w
    refine tE.of re rh (wq_bind w) id fun x h1 M1 v H1 o1 w => ?_
    obtain ⟨y, e3, w⟩ := wq_of w
    obtain ⟨l, e4, w⟩ := wq_of w
    have k := wq_ok w
    clear w
    have d := o1.valP e3
    cases y with
    | lst l' =>
      cases e4
      have d' := d
      cases d with
      | lst n hh b => rw [← hK]; exact .inl ⟨_, rfl, ⟨_, SqL.of hh⟩, k M1 _ _ o1.sx o1.rh (wk_lst d')⟩
    | flst l' =>
      cases e4
      have d' := d
      cases d with
      | flst hh b => rw [← hK]; exact .inl ⟨_, rfl, ⟨_, hh.sq⟩, k M1 _ _ o1.sx o1.rh (wk_flst d')⟩
    | tup l' =>
      cases e4
      have d' := d
      cases d with
      | tup hh b => rw [← hK]; exact .inr ⟨_, rfl, ⟨_, hh.sq⟩, k M1 _ _ o1.sx o1.rh (wk_tup d')⟩
    | _ => cases e4
theorem i_rng1 {p : Pos} (hg : Gl X "range") (hm : X.mg "range" = none) (ha : PE X a (tE g W (ev C G ea))) (hs : starEach [a] X.env = [(false, eval a X.env)]) : PI X tg (.Call (.Name "range" p) [a] [] pos) (tIt g W (evI C G (.rng1 ea))) :=
  (pi_range1 hg hm (pa_cons ha pa_nil hs) hs).weak fun σ H Q ⟨M, env, h, re, rh, w⟩ => by
    rw [evI] at w
    refine tE.of re rh (wq_bind w) id fun x h1 M1 v H1 o1 w => ?_
    obtain ⟨y, e3, w⟩ := wq_of w
    obtain ⟨i, e4, w⟩ := wq_of w
    split at w
    · rename_i hb
      have d := o1.rd e3
      rw [intP_some e4] at d
      refine ⟨i, by rw [d.int], hb.1, hb.2, wq_ok w M1 _ _ o1.sx o1.rh ?_⟩
      have q := wk_rng (g := g.toGc) (M := M1) (H1 := H1) (lo := 0) (n := i.toNat)
      simp only [Int.zero_add] at q
      exact q
    · exact (wq_ne w rfl).elim
theorem _root_.L2H.PIH.weak {tg e : Expr} {t t' : TI} (h : L2H.PIH X tg e t) (w : ∀ σ H Q, t' σ H Q → t σ H Q) : L2H.PIH X tg e t' := ⟨fun pins s σ H Q I q => h.run pins s σ H Q I (w _ _ _ q)⟩
theorem i_rng1H {p : Pos} (hg : Gl X "range") (hm : X.mg "range" = none) (ha : PE X a (tE g W (ev C G ea))) (hs : starEach [a] X.env = [(false, eval a X.env)]) : L2H.PIH X tg (.Call (.Name "range" p) [a] [] pos) (tIt g W (evI C G (.rng1 ea))) :=
  (L2H.pi_range1H hg hm (pa_cons ha pa_nil hs) hs).weak fun σ H Q ⟨M, env, h, re, rh, w⟩ => by
    rw [evI] at w
    refine tE.of re rh (wq_bind w) id fun x h1 M1 v H1 o1 w => ?_
    obtain ⟨y, e3, w⟩ := wq_of w
    obtain ⟨i, e4, w⟩ := wq_of w
    split at w
    · rename_i hb
      have d := o1.rd e3
      rw [intP_some e4] at d
      refine ⟨i, by rw [d.int], hb.1, hb.2, wq_ok w M1 _ _ o1.sx o1.rh ?_⟩
      have q := wk_rng (g := g.toGc) (M := M1) (H1 := H1) (lo := 0) (n := i.toNat)
      simp only [Int.zero_add] at q
      exact q
    · exact (wq_ne w rfl).elim
theorem i_rng2 {p : Pos} (hg : Gl X "range") (hm : X.mg "range" = none) (ha : PE X a (tE g W (ev C G ea))) (hb : PE X b (tE g W (ev C G eb))) (hs : starEach [a, b] X.env = [(false, eval a X.env), (false, eval b X.env)]) (hs2 : starEach [b] X.env = [(false, eval b X.env)]) : PI X tg (.Call (.Name "range" p) [a, b] [] pos) (tIt g W (evI C G (.rng2 ea eb))) :=
  (pi_range2 hg hm (pa_cons ha (pa_cons hb pa_nil hs2) (by rw [hs, hs2])) hs hs2).weak fun σ H Q ⟨M, env, h, re, rh, w⟩ => by
    rw [evI] at w
    refine tE.of re rh (wq_bind w) id fun x h1 M1 v H1 o1 w => ?_
    refine tE.of (re.sx o1.sx) o1.rh (wq_bind w) (XP.sx o1.sx) fun y h2 M2 u H2 o2 w => ?_
    obtain ⟨p1, e3, w⟩ := wq_of w
    obtain ⟨p2, e4, w⟩ := wq_of w
    obtain ⟨i, e5, w⟩ := wq_of w
    obtain ⟨j, e6, w⟩ := wq_of w
    split at w
    · rename_i hbd
      have d1 := o1.rdL o2.sx o2.rh e3
      have d2 := o2.rd e4
      rw [intP_some e5] at d1
      rw [intP_some e6] at d2
      exact ⟨i, j, by rw [d1.int, d2.int], hbd, wq_ok w M2 _ _ (o1.sx.trans o2.sx) o2.rh wk_rng⟩
    · exact (wq_ne w rfl).elim
theorem i_zip {p tpos : Pos} {elts : List Expr} {kk : Nat} (hK : g.K = X.K) (hg : Gl X "zip") (hm : X.mg "zip" = none) (ha : PE X a (tE g W (ev C G ea))) (hb : PE X b (tE g W (ev C G eb))) (hs : starEach [a, b] X.env = (false, eval a X.env) :: starEach [b] X.env) (hs2 : starEach [b] X.env = (false, eval b X.env) :: starEach [] X.env)
    (hpl : (backTo pos (starEach [b] X.env)).any (·.1) = false) : PI X (.Tuple elts kk tpos) (.Call (.Name "zip" p) [a, b] [] pos) (tIt g W (evI C G (.zip ea eb))) :=
  (pi_zip hg hm (pa_cons ha (pa_cons hb pa_nil hs2) hs) hs hpl).weak fun σ H Q ⟨M, env, h, re, rh, w⟩ => by
    rw [evI] at w
    refine tE.of re rh (wq_bind w) id fun x h1 M1 v H1 o1 w => ?_
    refine tE.of (re.sx o1.sx) o1.rh (wq_bind w) (XP.sx o1.sx) fun y h2 M2 u H2 o2 w => ?_
    obtain ⟨p1, e3, w⟩ := wq_of w
    obtain ⟨p2, e4, w⟩ := wq_of w
    split at w
    · have k := wq_ok w
      have d1 := (o1.valP e3).step o2.sx.st
      have d2 := o2.valP e4
      have d1' := d1
      have d2' := d2
      cases d1 with | lst n1 q1 b1 => cases d2 with | lst n2 q2 b2 =>
        rw [← hK]
        exact ⟨_, _, _, _, rfl, SqL.of q1, SqL.of q2, k M2 _ _ (o1.sx.trans o2.sx) o2.rh (wk_zip d1' d2')⟩
    · exact (wq_ne w rfl).elim
theorem i_enum {p tpos : Pos} {elts : List Expr} {kk : Nat} (hK : g.K = X.K) (hg : Gl X "enumerate") (hm : X.mg "enumerate" = none) (ha : PE X a (tE g W (ev C G ea))) (hs : starEach [a] X.env = [(false, eval a X.env)]) : PI X (.Tuple elts kk tpos) (.Call (.Name "enumerate" p) [a] [] pos) (tIt g W (evI C G (.enum ea))) :=
  (pi_enum hg hm (pa_cons ha pa_nil hs) hs).weak fun σ H Q ⟨M, env, h, re, rh, w⟩ => by
    rw [evI] at w
    refine tE.of re rh (wq_bind w) id fun x h1 M1 v H1 o1 w => ?_
    obtain ⟨p1, e3, w⟩ := wq_of w
    split at w
    · have k := wq_ok w
      have d1 := o1.valP e3
      have d1' := d1
      cases d1 with | lst n1 q1 b1 =>
        rw [← hK]
        exact ⟨_, _, rfl, SqL.of q1, k M1 _ _ o1.sx o1.rh (wk_enum d1')⟩
    · exact (wq_ne w rfl).elim
end
end EV

set_option Elab.async false
set_option linter.all false
set_option maxRecDepth 100000
/-! EvL: targets, list comprehensions -/
namespace EV
open PySem PySem.Spec PyProof.Rows L2

section
variable {g : Gc} {M : Mp} {H : Hp} {D : Addr} {o : HO}
/-- D as a place -/
abbrev MD (M : Mp) (D : Addr) : Mp := ⟨some D :: M.pl, M.pm, M.av⟩
theorem wr_md {a : Addr} : Wr (MD M D) a ↔ a = D ∨ Wr M a := by
  constructor
  · rintro ⟨r, e⟩
    cases r with
    | s i =>
      have e := at_s.mp e
      cases i with
      | zero => simp at e; exact .inl e.symm
      | succ i => exact .inr ⟨.s i, at_s.mpr (by simpa using e)⟩
    | p k => exact .inr ⟨.p k, e⟩
  · rintro (rfl | ⟨r, e⟩)
    · exact ⟨.s 0, at_s.mpr rfl⟩
    · cases r with
      | s i => exact ⟨.s (i + 1), at_s.mpr (by simpa using at_s.mp e)⟩
      | p k => exact ⟨.p k, e⟩
theorem nm_md (hD : M.av D) : NM (MD M D) = NM M := by
  have z : (NM (MD M D)).no = (NM M).no := by
    funext a
    apply propext
    show (Wr (MD M D) a ∨ M.av a) ↔ (Wr M a ∨ M.av a)
    rw [wr_md]
    constructor
    · rintro ((rfl | z) | z)
      · exact .inr hD
      · exact .inl z
      · exact .inr z
    · rintro (z | z)
      · exact .inl (.inr z)
      · exact .inr z
  show Nx.mk (NM (MD M D)).no M.pm = Nx.mk (NM M).no M.pm
  rw [z]
theorem stp_md : Stp (MD M D) H (MD M D) (upd H D o) where
  keep := fun a u e n => by rw [upd_ne (fun z => n (wr_md.mpr (.inl z)))]; exact e
  new := fun a z => .inl z
  wr := fun a z => .inl z
  all := fun a z => by
    unfold upd at z
    split at z
    · cases z
    · exact z
  pm := fun _ _ z => z
theorem RP.upd_av {v : V} {p : P} (hD : M.av D) (r : RP g (NM M) H v p) : RP g (NM M) (upd H D o) v p := by
  rw [← nm_md hD] at r ⊢
  exact r.step stp_md
theorem RPs.upd_av {v : List V} {p : List P} (hD : M.av D) (r : RPs g (NM M) H v p) : RPs g (NM M) (upd H D o) v p := by
  rw [← nm_md hD] at r ⊢
  exact r.step stp_md
theorem RKs.upd_av {v : List (Key × V)} {p : List (Key × P)} (hD : M.av D) (r : RKs g (NM M) H v p) : RKs g (NM M) (upd H D o) v p := by
  rw [← nm_md hD] at r ⊢
  exact r.step stp_md
theorem RH.upd_av {h : Hh} (hD : M.av D) (x : RH g M h H) : RH g M h (upd H D o) where
  ls := x.ls
  lp := x.lp
  ob := fun r p a e1 e2 => by
    have ne : a ≠ D := fun z => x.sep D hD (by rw [← z]; exact ⟨r, e2⟩)
    refine (x.ob r p a e1 e2).imp id fun z => ?_
    rw [← nm_md hD] at z ⊢
    exact z.step stp_md fun u e => by rw [upd_ne ne]; exact e
  nd := x.nd
  live := fun a z => by
    by_cases e : a = D
    · subst e; exact ⟨_, upd_same⟩
    · obtain ⟨u, q⟩ := x.live a z; exact ⟨u, by rw [upd_ne e]; exact q⟩
  sep := x.sep
end

/-! ### slots forgotten -/
theorem wipe_get {σ : L2.St} {i : Nat} : ∀ {vs : List Nat}, (wipe σ vs)[i]? = if i ∈ vs then (if i < σ.length then some none else none) else σ[i]?
  | [] => by simp [wipe]
  | v :: vs => by
    unfold wipe
    by_cases e : v = i
    · subst e
      by_cases h : v < (wipe σ vs).length
      · rw [List.getElem?_set_self h]
        rw [wipe_length] at h
        simp [h]
      · rw [List.getElem?_eq_none (by simpa using h)]
        rw [wipe_length] at h
        simp [h]
    · rw [List.getElem?_set_ne e, wipe_get (vs := vs)]
      simp only [List.mem_cons, Ne.symm e, false_or]
theorem wipe_set {σ : L2.St} {i : Nat} {x : Option V} {vs : List Nat} (h : i ∈ vs) : wipe (σ.set i x) vs = wipe σ vs := by
  apply List.ext_getElem?
  intro j
  rw [wipe_get, wipe_get, List.length_set]
  by_cases hj : j ∈ vs
  · simp [hj]
  · simp only [hj, if_false]
    rw [List.getElem?_set_ne (by rintro rfl; exact hj h)]
theorem wipeE_length {env : Fr} : ∀ vs : List Nat, (wipeE env vs).length = env.length
  | [] => rfl
  | v :: vs => by unfold wipeE; rw [List.length_set, wipeE_length vs]
theorem wipeE_some {env : Fr} {i : Nat} {x : Sl} : ∀ {vs : List Nat}, (wipeE env vs)[i]? = some (some x) → env[i]? = some (some x) ∧ i ∉ vs
  | [], h => ⟨h, by simp⟩
  | v :: vs, h => by
    unfold wipeE at h
    by_cases hi : v = i
    · subst hi
      by_cases hv : v < (wipeE env vs).length
      · rw [List.getElem?_set_self hv] at h; cases h
      · rw [List.getElem?_eq_none (by simpa using hv)] at h; cases h
    · rw [List.getElem?_set_ne hi] at h
      obtain ⟨h1, h2⟩ := wipeE_some h
      exact ⟨h1, by simp only [List.mem_cons, not_or]; exact ⟨fun e => hi e.symm, h2⟩⟩
theorem REnv.wipe {g : Gx} {M : Mp} {H : Hp} {σ : L2.St} {env : Fr} (r : REnv g M H σ env) (vs : List Nat) : REnv g M H (L2.wipe σ vs) (wipeE env vs) :=
  ⟨by rw [wipeE_length, wipe_length]; exact r.len, fun i s e => by
    obtain ⟨e1, e2⟩ := wipeE_some e
    obtain ⟨v, e3, e4⟩ := r.sl i s e1
    exact ⟨v, by rw [wipe_get]; simp [e2, e3], e4⟩⟩
theorem REnv.set {g : Gx} {M : Mp} {H : Hp} {σ : L2.St} {env : Fr} (r : REnv g M H σ env) (i : Nat) {v : V} {s : Sl} (q : RSl g M H v s) : REnv g M H (σ.set i (some v)) (env.set i (some s)) :=
  ⟨by simp [r.len], fun j t e => by
    by_cases hj : i = j
    · subst hj
      by_cases hi : i < env.length
      · rw [List.getElem?_set_self hi] at e
        cases e
        exact ⟨v, by rw [List.getElem?_set_self (by rw [← r.len]; exact hi)], q⟩
      · rw [List.getElem?_eq_none (by simpa using hi)] at e; cases e
    · rw [List.getElem?_set_ne hj] at e
      obtain ⟨w, e1, e2⟩ := r.sl j t e
      exact ⟨w, by rw [List.getElem?_set_ne hj]; exact e1, e2⟩⟩

/-! ### targets -/
def tGt (g : Gx) (t : Tg) : TG := fun v σ H Q => ∃ M env p env', REnv g M H σ env ∧ RP g.toGc (NM M) H v p ∧ bindT t p env = some env' ∧ ∀ σ', REnv g M H σ' env' → L2.wipe σ' t.slots = L2.wipe σ t.slots → Q σ' H
def tGts (g : Gx) (is : List Nat) : TGs := fun vs σ H Q => ∃ M env ps env', REnv g M H σ env ∧ RPs g.toGc (NM M) H vs ps ∧ setAll env is ps = some env' ∧ ∀ σ', REnv g M H σ' env' → (∀ ws, (∀ i ∈ is, i ∈ ws) → L2.wipe σ' ws = L2.wipe σ ws) → Q σ' H
section
variable {X : Cx} {g : Gx} {pos : Pos}
theorem _root_.L2.PG.weak {e : Expr} {t t' : TG} (h : PG X e t) (w : ∀ v σ H Q, t' v σ H Q → t v σ H Q) : PG X e t' := ⟨fun pins s σ H v u Q I r q => h.run pins s σ H v u Q I r (w _ _ _ _ q)⟩
theorem _root_.L2.PGs.weak {e : List Expr} {t t' : TGs} (h : PGs X e t) (w : ∀ v σ H Q, t' v σ H Q → t v σ H Q) : PGs X e t' := ⟨fun pins s σ H v u Q I r q => h.run pins s σ H v u Q I r (w _ _ _ _ q)⟩
theorem g_name {i : Nat} {x : Str} (hN : X.N.Nodup) (hi : X.N[i]? = some x) (hx : Loc X.env.scope x) (hf : X.fn x = true ∨ X.env.scope.names.lookup x = some .local) : PG X (.Name x pos) (tGt g (.n i)) :=
  (pg_name hN hi hx hf).weak fun v σ H Q ⟨M, env, p, env', re, rp, e, k⟩ => by
    have e' : (if i < env.length then some (env.set i (some (Sl.p p))) else none) = some env' := e
    split at e'
    · cases e'
      exact k _ (re.set i (s := .p p) rp) (wipe_set (by simp [Tg.slots]))
    · cases e'
theorem gs_nil : PGs X [] (tGts g []) := pgs_nil.weak fun v σ H Q ⟨M, env, p, env', re, rp, e, k⟩ => by
  cases rp with
  | nil => cases e; exact ⟨rfl, k _ re fun _ _ => rfl⟩
  | cons => cases e
theorem gs_cons {i : Nat} {is : List Nat} {x : Str} {es : List Expr} (hN : X.N.Nodup) (hi : X.N[i]? = some x) (hx : Loc X.env.scope x) (hf : X.fn x = true ∨ X.env.scope.names.lookup x = some .local) (h2 : PGs X es (tGts g is))
    (hs : (assignEach (.Name x pos :: es) X.env).map (·.2) = assign (.Name x pos) X.env :: (assignEach es X.env).map (·.2)) : PGs X (.Name x pos :: es) (tGts g (i :: is)) :=
  (pgs_cons (pg_name hN hi hx hf) h2 hs).weak fun vs σ H Q ⟨M, env, ps, env', re, rp, e, k⟩ => by
    cases rp with
    | nil => cases e
    | @cons v vs p ps r1 r2 =>
      have e' : (if i < env.length then setAll (env.set i (some (Sl.p p))) is ps else none) = some env' := e
      split at e'
      · refine ⟨v, vs, rfl, M, env.set i (some (.p p)), ps, env', re.set i (s := .p p) r1, r2, e', fun σ' re' w => k σ' re' fun ws hw => ?_⟩
        rw [w ws fun j hj => hw j (List.mem_cons_of_mem _ hj)]
        exact wipe_set (hw i List.mem_cons_self)
      · cases e'
theorem setAll_length : ∀ {is : List Nat} {env : Fr} {ps : List P} {env' : Fr}, setAll env is ps = some env' → ps.length = is.length
  | [], _, [], _, _ => rfl
  | [], _, _ :: _, _, e => by cases e
  | _ :: _, _, [], _, e => by cases e
  | i :: is, env, p :: ps, env', e => by
    have e' : (if i < env.length then setAll (env.set i (some (Sl.p p))) is ps else none) = some env' := e
    split at e'
    · simp [setAll_length e']
    · cases e'
theorem g_tup {is : List Nat} {es : List Expr} {n : Nat} (hK : g.K = X.K) (hc : X.calm = true) (hl : es.length = is.length) (h : PGs X es (tGts g is)) (hs : (assignEach [.Tuple es n pos] X.env).map (·.2) = (assignEach [.Tuple es n pos] X.env).map (·.2) := by rfl)
    (rule : ∀ {t : TGs}, PGs X es t → PG X (.Tuple es n pos) (gTup X.K is.length t)) : PG X (.Tuple es n pos) (tGt g (.t is)) :=
  (rule h).weak fun v σ H Q ⟨M, env, p, env', re, rp, e, k⟩ => by
    cases p with
    | tup ps =>
      have e' : setAll env is ps = some env' := e
      cases rp with
      | tup hT r =>
        rw [← hK]
        exact ⟨_, _, rfl, hT.sq, by rw [r.length, setAll_length e'], M, env, ps, env', re, r, e', fun σ' re' w => k σ' re' (w is fun _ h => h)⟩
    | _ => cases e
/-! ### list comprehensions -/
theorem rq_bind {α β : Type} {q : Rq α} {f : α → Rq β} {b : β} (h : (q >>= f) = .ok b) : ∃ a, q = .ok a ∧ f a = .ok b := by
  cases q with
  | no => cases h
  | ok a => exact ⟨a, rfl, h⟩
  | ex e h' => cases h
theorem rq_of {α β : Type} {o : Option α} {f : α → Rq β} {b : β} (h : (Rq.of o >>= f) = .ok b) : ∃ a, o = some a ∧ f a = .ok b := by
  cases o with
  | none => cases h
  | some a => exact ⟨a, rfl, h⟩
theorem rq_ok {α : Type} {a b : α} (h : (pure a : Rq α) = .ok b) : a = b := Rq.ok.inj h
theorem wq_calm_ok {α : Type} {q : Rq α} {k : α → Prop} {x : Ex → Hh → Prop} (h : wq q.calm k x) : ∃ a, q = .ok a ∧ k a := by
  cases q with
  | no => exact h.elim
  | ok a => exact ⟨a, rfl, h⟩
  | ex e h' => exact h.elim
theorem lcGo_cons {α : Type} {f : P → Hh → Rq (Option α × Hh)} {x : P} {xs : List P} {h : Hh} {r : List α × Hh} (e : lcGo f (x :: xs) h = .ok r) : ∃ y h1 ys h2, f x h = .ok (y, h1) ∧ lcGo f xs h1 = .ok (ys, h2) ∧ r = ((match y with | some z => z :: ys | none => ys), h2) := by
  rw [lcGo] at e
  obtain ⟨⟨y, h1⟩, e1, e⟩ := rq_bind e
  obtain ⟨⟨ys, h2⟩, e2, e⟩ := rq_bind e
  cases y with
  | none => cases e; exact ⟨none, h1, ys, h2, e1, e2, rfl⟩
  | some z => cases e; exact ⟨some z, h1, ys, h2, e1, e2, rfl⟩
/-- no exception is wished for -/
abbrev WF : WX := fun _ _ _ _ => False
theorem takes_f {X : Cx} : L2N.Takes X WF := fun _ _ ⟨_, _, _, _, _, _, _, _, _, _, _, _, _, _, _, _, z⟩ => z.elim
/-- a comprehension's list at D, so many lasting places -/
abbrev Mq (M : Mp) (D : Addr) (pm : List Addr) : Mp := ⟨M.pl, pm, fun b => b = D ∨ M.av b⟩
variable {W : WX} {C : Cl} {G : Tb}
theorem e_lc {elt tg iter : Expr} {ifs : List Expr} {scope : Scope} {own : List (Str × Nat)} {t : Tg} {src : I} {ct : List T} {ce : E} (hN : X.N.Nodup)
    (hi : PI X tg iter (tIt g W (evI C G src))) (ok : BlkOk X.N X.env.scope scope own) (hs' : own.map (·.2) = t.slots)
    (hg : ∀ (s : Shared) (H : Hp) (C : Addr) (cl : List (Str × Addr)) (fp : List Addr), PG (X.blk s H scope (compEnvC scope cl C X.env) fp) tg (tGt g t))
    (ht : ∀ (s : Shared) (H : Hp) (Ca : Addr) (cl : List (Str × Addr)) (fp : List Addr), PTs (X.blk s H scope (compEnvC scope cl Ca X.env) fp) ifs (tTp g WF (evTs C G ct)))
    (he : ∀ (s : Shared) (H : Hp) (Ca : Addr) (cl : List (Str × Addr)) (fp : List Addr), PE (X.blk s H scope (compEnvC scope cl Ca X.env) fp) elt (tE g WF (ev C G ce))) {T : TE → Prop} (rule : T (tLc (tIt g W (evI C G src)) (tGt g t) (tTp g WF (evTs C G ct)) (tE g WF (ev C G ce)) (own.map (·.2))))
    (weak : ∀ {t t' : TE}, T t → (∀ σ H Q, t' σ H Q → t σ H Q) → T t') :
    T (tE g W (ev C G (.lc src t ct ce))) :=
  weak rule fun σ H Q ⟨M, env, h, re, rh, w⟩ => by
    rw [ev] at w
    refine ⟨M, env, h, re, rh, wq_mono (wq_bind w) (fun p w => ?_) fun _ _ z => z⟩
    obtain ⟨items, h1⟩ := p
    intro M1 J H1 s1 rh1 wk D hD
    obtain ⟨⟨all, hf⟩, e3, w⟩ := wq_calm_ok (wq_bind w)
    obtain ⟨_, e4, w⟩ := wq_of w
    have hsz := okLen_some e4
    have k := wq_ok w
    clear w
    generalize hce : (fun (env : Fr) (h : Hh) => (do
      let (y, h) ← ev C G ce env h
      let y ← Rq.of y.val
      pure (y, h) : Rq (P × Hh))) = ce' at e3
    rw [hs']
    have nD : ¬ NM M1 D := rh1.notM hD
    -- what the loop keeps
    refine ⟨fun i m H' => m = items.length - i ∧ i ≤ items.length ∧ ∃ pmi hx ys vs' rest, Stp M1 H1 (Mq M1 D pmi) H' ∧ RH g.toGc (Mq M1 D pmi) hx H' ∧ H' D = some (.lst vs') ∧ RPs g.toGc (NM (Mq M1 D pmi)) H' vs' ys ∧ lcGo (lcTurn t (fun env h => evTs C G ct env h) ce' env) (items.drop i) hx = .ok (rest, hf) ∧ ys ++ rest = all, ⟨items.length, by simp, Nat.zero_le _, M1.pm, h1, [], [], all, new_stp hD, rh1.upd_new hD, upd_same, .nil, by simpa using e3, by simp⟩, ?_⟩
    rintro i m H' ⟨rfl, hi, pmi, hh, ys, vs', rest, st, rhh, hDD, rr, el, ea⟩
    by_cases hlt : i < items.length
    · right
      refine ⟨wk.go _ _ i st hlt, fun H2 => ∃ pmi hx ys vs' rest, Stp M1 H1 (Mq M1 D pmi) H2 ∧ RH g.toGc (Mq M1 D pmi) hx H2 ∧ H2 D = some (.lst vs') ∧ RPs g.toGc (NM (Mq M1 D pmi)) H2 vs' ys ∧ lcGo (lcTurn t (fun env h => evTs C G ct env h) ce' env) (items.drop (i + 1)) hx = .ok (rest, hf) ∧ ys ++ rest = all, fun H2 q => ⟨items.length - (i + 1), by omega, rfl, hlt, q⟩, fun x H2 y => ?_⟩
      obtain ⟨p, ep, ext, rp⟩ := wk.yld _ _ i x H2 st rhh.live hlt y
      have ed : items.drop i = p :: items.drop (i + 1) := by
        rw [List.drop_eq_getElem_cons hlt]
        rw [List.getElem?_eq_getElem hlt] at ep
        cases ep; rfl
      rw [ed] at el
      obtain ⟨yo, h3, ys2, h4, ef, el2, er⟩ := lcGo_cons el
      cases er
      unfold lcTurn at ef
      obtain ⟨env', eb, ef⟩ := rq_of ef
      obtain ⟨⟨b, h5⟩, et, ef⟩ := rq_bind ef
      have et : evTs C G ct env' hh = .ok (b, h5) := et
      have st2 : Stp M1 H1 (Mq M1 D pmi) H2 := st.trans ext.stp
      have re2 : REnv g (Mq M1 D pmi) H2 (L2.wipe σ t.slots) (wipeE env t.slots) := ((re.sx s1).step st2 fun _ _ z => z).wipe _
      refine ⟨Mq M1 D pmi, _, p, env', re2, rp, eb, fun σ' re3 w => ⟨w.trans ?_, ?_⟩⟩
      · apply List.ext_getElem?
        intro j
        rw [wipe_get, wipe_get, wipe_length]
        by_cases hj : j ∈ t.slots <;> simp [hj]
      refine ⟨Mq M1 D pmi, env', hh, re3, rhh.ext ext, ?_⟩
      rw [et]
      refine fun M3 H3 s3 rh3 => ?_
      have e3a : M3 = Mq M1 D M3.pm := by
        obtain ⟨p3, q3, a3⟩ := M3
        obtain ⟨_, z1, z2⟩ := s3
        dsimp only at z1 z2
        rw [z1, z2]
      generalize M3.pm = pm3 at e3a
      subst e3a
      have hD2 : H2 D = some (.lst vs') := ext _ _ hDD
      have wDq : ∀ {pm : List Addr}, (Mq M1 D pm).av D := fun {_} => .inl rfl
      have hD3 : H3 D = some (.lst vs') := s3.st.keep _ _ hD2 fun z => rhh.sep D wDq z
      have rr3 := (rr.step ext.stp).step s3.st
      cases b with
      | false =>
        simp only [Bool.false_eq_true, if_false] at ef ⊢
        cases rq_ok ef
        exact ⟨pm3, _, ys, vs', _, st2.trans s3.st, rh3, hD3, rr3, el2, ea⟩
      | true =>
        simp only [if_true] at ef ⊢
        obtain ⟨⟨yv, h6⟩, ey, ef⟩ := rq_bind ef
        cases rq_ok ef
        subst hce
        obtain ⟨⟨yr, h7⟩, ey, ef2⟩ := rq_bind ey
        have ey : ev C G ce env' h5 = .ok (yr, h7) := ey
        obtain ⟨yv', ev', ef2⟩ := rq_of ef2
        cases rq_ok ef2
        refine ⟨Mq M1 D pm3, env', h5, re3.sx s3, rh3, ?_⟩
        rw [ey]
        refine fun M4 v H4 o4 => ?_
        have e4a : M4 = Mq M1 D M4.pm := by
          have z1 := o4.sx.pl
          have z2 := o4.sx.av
          obtain ⟨p3, q3, a3⟩ := M4
          dsimp only at z1 z2
          rw [z1, z2]
        generalize M4.pm = pm4 at e4a
        subst e4a
        have hD4 : H4 D = some (.lst vs') := o4.sx.st.keep _ _ hD3 fun z => rh3.sep D wDq z
        have rv := o4.valP ev'
        have lenl : vs'.length < sizeLine := by
          rw [rr.length]
          have := congrArg List.length ea
          simp only [List.length_append, List.length_cons] at this
          omega
        refine ⟨vs', hD4, lenl, pm4, _, ys ++ [yv], vs' ++ [v], _, ?_, o4.rh.upd_av wDq, upd_same, RPs.upd_av wDq ((rr3.step o4.sx.st).append (.cons rv .nil)), el2, by rw [← ea]; simp⟩
        have s4 := (st2.trans s3.st).trans o4.sx.st
        refine ⟨fun a o ea na => ?_, s4.new, s4.wr, fun a z => ?_, s4.pm⟩
        · rw [upd_ne (ne_of_none ea hD)]; exact s4.keep a o ea na
        · by_cases hz : a = D
          · subst hz; rw [upd_same] at z; cases z
          · rw [upd_ne hz] at z; exact s4.all a z
    · left
      have ei : i = items.length := by omega
      subst ei
      simp only [List.drop_length] at el
      cases el
      simp only [List.append_nil] at ea
      subst ea
      refine ⟨wk.stop _ _ st, k ⟨M1.pl, pmi, M1.av⟩ _ _ (Out.before s1 ?_)⟩
      refine ⟨D, rfl, fun z => ?_, hD, st, rfl, rfl, rhh, vs', hDD, rr⟩
      rcases z with z | z
      · exact rhh.sep D (.inl rfl) z
      · exact nD (.inr z)
end
end EV

set_option Elab.async false
set_option linter.all false
set_option maxRecDepth 100000
/-! EvM: statements -/
namespace EV
open PySem PySem.Spec PyProof.Rows L2

/-- the places of the callers stand -/
structure Mx (n0 : Nat) (M M' : Mp) : Prop where
  tk : M'.pl.take n0 = M.pl.take n0
  av : M'.av = M.av
  le : n0 ≤ M'.pl.length
theorem Mx.refl {n0 : Nat} {M : Mp} (h : n0 ≤ M.pl.length) : Mx n0 M M := ⟨rfl, rfl, h⟩
theorem Mx.trans {n0 : Nat} {M M1 M2 : Mp} (a : Mx n0 M M1) (b : Mx n0 M1 M2) : Mx n0 M M2 := ⟨b.tk.trans a.tk, b.av.trans a.av, b.le⟩
theorem Mx.sx {n0 : Nat} {M M1 : Mp} {H H1 : Hp} (h : n0 ≤ M.pl.length) (s : Sx M H M1 H1) : Mx n0 M M1 := ⟨by rw [s.pl], s.av, by rw [s.pl]; exact h⟩
/-- what a statement hands back, from M, H on -/
def OutS (g : Gc) (M : Mp) (H : Hp) (M' : Mp) (h' : Hh) (v : V) (H' : Hp) : R → Prop
  | .p q => Stp M H M' H' ∧ RH g M' h' H' ∧ RP g (NM M') H' v q
  | .rf r => Stp M H M' H' ∧ RH g M' h' H' ∧ ∃ a, v = .ref a ∧ M'.at (.s r) = some a
  | .fr q => ∃ a, v = .ref a ∧ ¬ NM M' a ∧ H a = none ∧ Stp M H (MA M' a) H' ∧ RH g (MA M' a) h' H' ∧ RT g (NM (MA M' a)) H' a q
theorem Out.outS {g : Gc} {M : Mp} {H : Hp} {M' : Mp} {h' : Hh} {v : V} {H' : Hp} {r : R} (o : Out g M H M' h' v H' r) : OutS g M H M' h' v H' r := by
  cases r with
  | p q => exact ⟨o.1.st, o.2⟩
  | rf r => exact ⟨o.1.st, o.2⟩
  | fr q => obtain ⟨a, e, n, hn, st, _, _, rh, rt⟩ := o; exact ⟨a, e, n, hn, st, rh, rt⟩
theorem OutS.before {g : Gc} {M M1 M' : Mp} {H H1 H' : Hp} {h' : Hh} {v : V} {r : R} (s : Stp M H M1 H1) (o : OutS g M1 H1 M' h' v H' r) : OutS g M H M' h' v H' r := by
  cases r with
  | p q => exact ⟨s.trans o.1, o.2⟩
  | rf r => exact ⟨s.trans o.1, o.2⟩
  | fr q =>
    obtain ⟨a, e, na, n, st, rh, rt⟩ := o
    exact ⟨a, e, na, s.all a n, s.trans st, rh, rt⟩
/-- what is wished of a statement's end -/
def EndOk (g : Gx) (W : WX) (n0 : Nat) (M : Mp) (H : Hp) (D : Ends) (env' : Fr) (h' : Hh) : Oc → Prop
  | .nx => ∀ M' σ' H', Mx n0 M M' → Stp M H M' H' → REnv g M' H' σ' env' → RH g.toGc M' h' H' → D.nx σ' H'
  | .bk => ∀ M' σ' H', Mx n0 M M' → Stp M H M' H' → REnv g M' H' σ' env' → RH g.toGc M' h' H' → D.bk σ' H'
  | .ct => ∀ M' σ' H', Mx n0 M M' → Stp M H M' H' → REnv g M' H' σ' env' → RH g.toGc M' h' H' → D.ct σ' H'
  | .rt r => ∀ M' v H', Mx n0 M M' → OutS g.toGc M H M' h' v H' r → D.rt v H'
  | .ex e => ∀ M' σ' H' d, Mx n0 M M' → Stp M H M' H' → REnv g M' H' σ' env' → RH g.toGc M' h' H' → RX g.toGc M' H' d e.l → W (.ref (g.ca e.c)) d σ' H'
theorem EndOk.before {g : Gx} {W : WX} {n0 : Nat} {M M1 : Mp} {H H1 : Hp} {D : Ends} {env' : Fr} {h' : Hh} {o : Oc} (m : Mx n0 M M1) (s : Stp M H M1 H1) (k : EndOk g W n0 M H D env' h' o) : EndOk g W n0 M1 H1 D env' h' o := by
  cases o with
  | nx => exact fun M' σ' H' m' s' => k M' σ' H' (m.trans m') (s.trans s')
  | bk => exact fun M' σ' H' m' s' => k M' σ' H' (m.trans m') (s.trans s')
  | ct => exact fun M' σ' H' m' s' => k M' σ' H' (m.trans m') (s.trans s')
  | rt r => exact fun M' v H' m' o => k M' v H' (m.trans m') (o.before s)
  | ex e => exact fun M' σ' H' d m' s' => k M' σ' H' d (m.trans m') (s.trans s')
abbrev EndP (g : Gx) (W : WX) (n0 : Nat) (M : Mp) (H : Hp) (D : Ends) : Oc × Fr × Hh → Prop := fun p => EndOk g W n0 M H D p.2.1 p.2.2 p.1
def tSp (g : Gx) (W : WX) (n0 : Nat) (c : Run) : TS := fun D σ H => ∃ M env h, REnv g M H σ env ∧ RH g.toGc M h H ∧ n0 ≤ M.pl.length ∧ wq (c env h) (EndP g W n0 M H D) (fun _ _ => False)
theorem wq_inS {α : Type} {q : Rq α} {env : Fr} {f : α → Rq (Oc × Fr × Hh)} {k : Oc × Fr × Hh → Prop} {x : Ex → Hh → Prop} (w : wq (inS q env f) k x) : wq q (fun a => wq (f a) k x) (fun e h => k (.ex e, env, h)) := by
  cases q <;> exact w
theorem EndOk.xp {g : Gx} {W : WX} {n0 : Nat} {M M1 : Mp} {H H1 : Hp} {D : Ends} {σ : L2.St} {env : Fr} (re : REnv g M1 H1 σ env) (hn : n0 ≤ M1.pl.length) (m : Mx n0 M M1) (s : Stp M H M1 H1) {e : Ex} {h' : Hh} (k : EndP g W n0 M H D (.ex e, env, h')) : XP g W σ M1 H1 e h' :=
  fun M' H' d sx rh rx => k M' σ H' d (m.trans (Mx.sx hn sx)) (s.trans sx.st) (re.sx sx) rh rx
section
variable {X : Cx} {g : Gx} {W : WX} {n0 : Nat} {pos : Pos} {C : Cl} {G : Tb} {ea eb ec : E}
theorem _root_.L2.PS.weak {e : Stmt} {t t' : TS} (h : PS X e t) (w : ∀ D σ H, t' D σ H → t D σ H) : PS X e t' := ⟨fun pins s σ H D I q => h.run pins s σ H D I (w _ _ _ q)⟩
theorem _root_.L2.PSs.weak {e : List Stmt} {t t' : TS} (h : PSs X e t) (w : ∀ D σ H, t' D σ H → t D σ H) : PSs X e t' := ⟨fun pins s σ H D I q => h.run pins s σ H D I (w _ _ _ q)⟩
theorem s_nil : PSs X [] (tSp g W n0 (evSs C G n0 [])) := pss_nil.weak fun D σ H ⟨M, env, h, re, rh, hn, w⟩ => by
  rw [evSs] at w
  exact w M σ H (.refl hn) .refl re rh
theorem s_cons {st : Stmt} {rest : List Stmt} {c1 : S} {c2 : List S} (h1 : PS X st (tSp g W n0 (evS C G n0 c1))) (h2 : PSs X rest (tSp g W n0 (evSs C G n0 c2))) : PSs X (st :: rest) (tSp g W n0 (evSs C G n0 (c1 :: c2))) := (pss_cons h1 h2).weak fun D σ H ⟨M, env, h, re, rh, hn, w⟩ => by
  rw [evSs] at w
  refine ⟨M, env, h, re, rh, hn, wq_mono (wq_bind w) (fun p w => ?_) fun _ _ z => z⟩
  obtain ⟨o, env1, h1⟩ := p
  cases o with
  | nx => exact fun M1 σ1 H1 m1 s1 re1 rh1 => ⟨M1, env1, h1, re1, rh1, m1.le, wq_mono w (fun p k => EndOk.before m1 s1 k) fun _ _ z => z⟩
  | bk => exact w
  | ct => exact w
  | rt r => exact w
  | ex e => exact w
theorem s_pass : PS X (.Pass pos) (tSp g W n0 (evS C G n0 .pass)) := ps_pass.weak fun D σ H ⟨M, env, h, re, rh, hn, w⟩ => by
  rw [evS] at w
  exact w M σ H (.refl hn) .refl re rh
theorem s_brk : PS X (.Break pos) (tSp g W n0 (evS C G n0 .brk)) := ps_break.weak fun D σ H ⟨M, env, h, re, rh, hn, w⟩ => by
  rw [evS] at w
  exact w M σ H (.refl hn) .refl re rh
theorem s_cont : PS X (.Continue pos) (tSp g W n0 (evS C G n0 .cont)) := ps_continue.weak fun D σ H ⟨M, env, h, re, rh, hn, w⟩ => by
  rw [evS] at w
  exact w M σ H (.refl hn) .refl re rh
theorem s_bad {st : Stmt} : PS X st (tSp g W n0 (evS C G n0 .bad)) := ps_never.weak fun D σ H ⟨M, env, h, re, rh, hn, w⟩ => by
  rw [evS] at w
  exact w
theorem s_doc {x : Str} {j : Nat} {p p' : Pos} {rest : List Stmt} {c2 : List S} (h2 : PSs X rest (tSp g W n0 (evSs C G n0 c2))) : PSs X (.Expr (.Constant (.str x) j p) p' :: rest) (tSp g W n0 (evSs C G n0 c2)) := (pss_cons ps_doc h2).weak fun D σ H q => q
theorem s_ex {a : Expr} (ha : PE X a (tE g W (ev C G ea))) (hs : swapsWith a none pos.line X.env = pure false) : PS X (.Expr a pos) (tSp g W n0 (evS C G n0 (.ex ea))) := (ps_expr ha hs).weak fun D σ H ⟨M, env, h, re, rh, hn, w⟩ => by
  rw [evS] at w
  exact tE.of re rh (wq_inS w) (EndOk.xp re hn (.refl hn) .refl) fun r h1 M1 v H1 o1 w => wq_ok w M1 σ H1 (.sx hn o1.sx) o1.sx.st (re.sx o1.sx) o1.rh
theorem s_ret {a : Expr} (ha : PE X a (tE g W (ev C G ea))) : PS X (.Return (some a) pos) (tSp g W n0 (evS C G n0 (.ret ea))) := (ps_ret ha).weak fun D σ H ⟨M, env, h, re, rh, hn, w⟩ => by
  rw [evS] at w
  exact tE.of re rh (wq_inS w) (EndOk.xp re hn (.refl hn) .refl) fun r h1 M1 v H1 o1 w => wq_ok w M1 v H1 (.sx hn o1.sx) o1.outS
theorem s_ret0 : PS X (.Return none pos) (tSp g W n0 (evS C G n0 .ret0)) := ps_retN.weak fun D σ H ⟨M, env, h, re, rh, hn, w⟩ => by
  rw [evS] at w
  exact w M _ H (.refl hn) (Out.val rh .non).outS
theorem s_iff {c : Expr} {tc : T} {a b : List Stmt} {ca cb : List S} (hc : PT X c (tTp g W (evT C G tc))) (ha : PSs X a (tSp g W n0 (evSs C G n0 ca))) (hb : PSs X b (tSp g W n0 (evSs C G n0 cb))) : PS X (.If c a b pos) (tSp g W n0 (evS C G n0 (.iff tc ca cb))) := (ps_if hc ha hb).weak fun D σ H ⟨M, env, h, re, rh, hn, w⟩ => by
  rw [evS] at w
  refine tTp.of re rh (wq_inS w) (EndOk.xp re hn (.refl hn) .refl) fun x h1 M1 H1 s1 rh1 w => ?_
  have m1 := Mx.sx hn s1
  cases x with
  | true => simp only [if_true] at w ⊢; exact ⟨M1, env, h1, re.sx s1, rh1, m1.le, wq_mono w (fun p k => EndOk.before m1 s1.st k) fun _ _ z => z⟩
  | false => simp only [Bool.false_eq_true, if_false] at w ⊢; exact ⟨M1, env, h1, re.sx s1, rh1, m1.le, wq_mono w (fun p k => EndOk.before m1 s1.st k) fun _ _ z => z⟩
/-! ### stores -/
theorem RSa.sl {M : Mp} {H : Hp} {v : V} {s : Sl} (q : RSa g.toGc M H v s) : RSl g M H v s := by
  cases s with
  | p q' => exact q
  | rf r => exact q
  | xc c l => exact q.elim
theorem s_set {i : Nat} {x : Str} {a : Expr} {p : Pos} (rule : PS X (.Assign [.Name x p] a pos) (tAsg (tE g W (ev C G ea)) (gName i))) :
    PS X (.Assign [.Name x p] a pos) (tSp g W n0 (evS C G n0 (.set i ea))) := rule.weak fun D σ H ⟨M, env, h, re, rh, hn, w⟩ => by
  rw [evS] at w
  refine tE.of re rh (wq_inS w) (EndOk.xp re hn (.refl hn) .refl) fun r h1 M1 v H1 o1 w => ?_
  obtain ⟨s, e2, w⟩ := wq_of w
  split at w
  · exact wq_ok w M1 _ H1 (.sx hn o1.sx) o1.sx.st ((re.sx o1.sx).set i (o1.slot e2).sl) o1.rh
  · exact w.elim
theorem nm_eq {M : Mp} {x : Addr} : NM (ML M x) = NM (MA M x) := by
  have z : (NM (ML M x)).no = (NM (MA M x)).no := by
    funext a
    apply propext
    show (Wr (ML M x) a ∨ M.av a) ↔ (Wr M a ∨ a = x ∨ M.av a)
    constructor
    · rintro (z | z)
      · rcases wr_ml z with z | z
        · exact .inl z
        · exact .inr (.inl z)
      · exact .inr (.inr z)
    · rintro (⟨r, e⟩ | rfl | z)
      · exact .inl ⟨r, at_ml e⟩
      · exact .inl ⟨_, at_ml_new⟩
      · exact .inr z
  show Nx.mk (NM (ML M x)).no M.pm = Nx.mk (NM (MA M x)).no M.pm
  rw [z]
theorem rt_len {g : Gc} {N : Nx} {H : Hp} {a : Addr} {p : P} (h : RT g N H a p) : isNonP p = false := by
  cases p <;> first | rfl | exact h.elim
/-- what is new gets a place of its own -/
theorem place_new {g : Gc} {M M' : Mp} {H H' : Hp} {h' : Hh} {v : V} {q : P} (o : Out g M H M' h' v H' (.fr q)) : ∃ x, v = .ref x ∧ Stp M H (ML M' x) H' ∧ RH g (ML M' x) ⟨h'.s ++ [q], h'.p⟩ H' ∧ (ML M' x).at (.s h'.s.length) = some x ∧ M'.pl = M.pl ∧ M'.av = M.av := by
  obtain ⟨x, rfl, nx, hx, st, e1, e2, rh, rt⟩ := o
  have st' : Stp M H (ML M' x) H' := ⟨st.keep, fun a z => st.new a (by rw [← nm_eq]; exact z), fun a z => by
    rcases wr_ml z with z | rfl
    · exact st.wr a z
    · exact .inr hx, st.all, st.pm⟩
  refine ⟨x, rfl, st', ⟨by simp [rh.ls], rh.lp, fun r p a e1 e2 => ?_, fun i j a e1 e2 => ?_, fun a z => rh.live a (by rw [← nm_eq]; exact z), fun a z q => ?_⟩, by rw [rh.ls]; exact at_ml_new, e1, e2⟩
  · rw [nm_eq]
    rcases get_app rh.ls e1 with ⟨e1, nr⟩ | ⟨hr, rfl⟩
    · rcases ml_at e2 with e3 | ⟨hr', _⟩
      · exact rh.ob r p a e1 e3
      · exact absurd hr' nr
    · rcases ml_at e2 with e3 | ⟨_, rfl⟩
      · subst hr
        have e3 : (MA M' x).at (.s M'.pl.length) = some a := e3
        rw [show M'.pl.length = h'.s.length from rh.ls.symm] at e3
        exact (rh.at_lt e3).elim
      · exact .inr rt
  · rcases ml_at e1 with z1 | ⟨z1, z2⟩ <;> rcases ml_at e2 with z3 | ⟨z3, z4⟩
    · exact rh.nd i j a z1 z3
    · subst z4; exact absurd (.inl ⟨i, z1⟩) nx
    · subst z2; exact absurd (.inl ⟨j, z3⟩) nx
    · rw [z1, z3]
  · rcases wr_ml q with q | rfl
    · exact rh.sep a (.inr z) q
    · exact nx (.inr z)
theorem ml_mx {n0 : Nat} {M M' : Mp} {x : Addr} (hn : n0 ≤ M.pl.length) (e1 : M'.pl = M.pl) (e2 : M'.av = M.av) : Mx n0 M (ML M' x) :=
  ⟨by show (M'.pl ++ [some x]).take n0 = _; rw [e1, List.take_append_of_le_length hn], e2, by show n0 ≤ (M'.pl ++ [some x]).length; rw [e1]; simp; omega⟩
theorem at_pl_eq {M M' : Mp} {r : Nat} (e : M'.pl = M.pl) : M'.at (.s r) = M.at (.s r) := by show (M'.pl[r]?).bind id = (M.pl[r]?).bind id; rw [e]
theorem s_new {i : Nat} {x : Str} {a : Expr} {p : Pos} (rule : PS X (.Assign [.Name x p] a pos) (tAsg (tE g W (ev C G ea)) (gName i))) :
    PS X (.Assign [.Name x p] a pos) (tSp g W n0 (evS C G n0 (.new i ea))) := rule.weak fun D σ H ⟨M, env, h, re, rh, hn, w⟩ => by
  rw [evS] at w
  refine tE.of re rh (wq_inS w) (EndOk.xp re hn (.refl hn) .refl) fun r h1 M1 v H1 o1 w => ?_
  cases r with
  | fr q =>
    dsimp only at w
    split at w
    · obtain ⟨y, rfl, st, rh2, hp, e1, e2⟩ := place_new o1
      refine wq_ok w (ML M1 y) _ H1 (ml_mx hn e1 e2) st ((re.step st fun r a z => at_ml (by rw [at_pl_eq e1]; exact z)).set i (s := .rf h1.s.length) ⟨y, rfl, hp⟩) rh2
    · exact w.elim
  | p q => exact w.elim
  | rf q => exact w.elim
theorem sole_ne {env : Fr} {i k j : Nat} (h : soleRef env i k = true) (e : env[j]? = some (some (.rf k))) : j = i := by
  by_cases hj : i = j
  · exact hj.symm
  · exfalso
    unfold soleRef at h
    rw [List.all_eq_true] at h
    have q := h (some (.rf k)) (List.mem_of_getElem? (i := j) (by rw [List.getElem?_set_ne hj]; exact e))
    simp at q
abbrev MS (M : Mp) (k : Nat) (o : Option Addr) : Mp := ⟨M.pl.set k o, M.pm, M.av⟩
theorem ms_at {M : Mp} {k : Nat} {o : Option Addr} {r : Pl} {a : Addr} (e : (MS M k o).at r = some a) : (r = .s k ∧ o = some a ∧ k < M.pl.length) ∨ (r ≠ .s k ∧ M.at r = some a) := by
  cases r with
  | s j =>
    have e := at_s.mp e
    change (M.pl.set k o)[j]? = some (some a) at e
    by_cases h : k = j
    · subst h
      by_cases hk : k < M.pl.length
      · rw [List.getElem?_set_self hk] at e; exact .inl ⟨rfl, Option.some.inj e, hk⟩
      · rw [List.getElem?_eq_none (by simpa using hk)] at e; cases e
    · rw [List.getElem?_set_ne h] at e; exact .inr ⟨fun z => by cases z; exact h rfl, at_s.mpr e⟩
  | p j => exact .inr ⟨(fun z => nomatch z), e⟩
theorem at_ms_ne {M : Mp} {k : Nat} {o : Option Addr} {r : Pl} (h : r ≠ .s k) : (MS M k o).at r = M.at r := by
  cases r with
  | s j =>
    show ((M.pl.set k o)[j]?).bind id = _
    rw [List.getElem?_set_ne (fun z => h (by rw [z]))]; rfl
  | p j => rfl
theorem at_ms_self {M : Mp} {k : Nat} {a : Addr} (h : k < M.pl.length) : (MS M k (some a)).at (.s k) = some a := at_s.mpr (by show (M.pl.set k (some a))[k]? = _; rw [List.getElem?_set_self h])
theorem put_ne {h : Hh} {k r : Pl} {q : P} (n : r ≠ k) : (h.put k q).get r = h.get r := by
  cases k with
  | s i =>
    cases r with
    | s j => show (h.s.set i q)[j]? = h.s[j]?; rw [List.getElem?_set_ne (fun z => n (by rw [z]))]
    | p j => rfl
  | p i =>
    cases r with
    | s j => rfl
    | p j => show (h.p.set i q)[j]? = h.p[j]?; rw [List.getElem?_set_ne (fun z => n (by rw [z]))]
theorem put_self {h : Hh} {k : Pl} {q p : P} (e : (h.put k q).get k = some p) : p = q := by
  cases k with
  | s i =>
    change (h.s.set i q)[i]? = some p at e
    by_cases hi : i < h.s.length
    · rw [List.getElem?_set_self hi] at e; exact (Option.some.inj e).symm
    · rw [List.getElem?_eq_none (by simpa using hi)] at e; cases e
  | p i =>
    change (h.p.set i q)[i]? = some p at e
    by_cases hi : i < h.p.length
    · rw [List.getElem?_set_self hi] at e; exact (Option.some.inj e).symm
    · rw [List.getElem?_eq_none (by simpa using hi)] at e; cases e
theorem put_ls {h : Hh} {k : Pl} {q : P} : (h.put k q).s.length = h.s.length := by cases k <;> simp [Hh.put]
theorem put_lp {h : Hh} {k : Pl} {q : P} : (h.put k q).p.length = h.p.length := by cases k <;> simp [Hh.put]
theorem at_lt {M : Mp} {k : Nat} {a : Addr} (e : M.at (.s k) = some a) : k < M.pl.length := (List.getElem?_eq_some_iff.mp (at_s.mp e)).1
/-- a place's thing is frozen; the place is given up -/
theorem place_frz {g : Gc} {M : Mp} {H : Hp} {h : Hh} {k : Nat} {a : Addr} {q : P} (rh : RH g M h H) (ea : M.at (.s k) = some a) (eq : h.s[k]? = some q) (nq : isNonP q = false) :
    Stp M H (MS M k none) H ∧ RH g (MS M k none) (h.put (.s k) .non) H ∧ RP g (NM (MS M k none)) H (.ref a) q := by
  have sub : ∀ b, Wr (MS M k none) b → Wr M b := fun b ⟨r, e⟩ => by
    rcases ms_at e with ⟨_, z, _⟩ | ⟨_, z⟩
    · cases z
    · exact ⟨r, z⟩
  have subN : ∀ b, NM (MS M k none) b → NM M b := fun b z => z.imp (sub b) id
  have st : Stp M H (MS M k none) H := Stp.same subN sub rfl
  have na : ¬ NM (MS M k none) a := fun z => by
    rcases z with ⟨r, e⟩ | z
    · rcases ms_at e with ⟨_, z, _⟩ | ⟨z1, z⟩
      · cases z
      · exact z1 (rh.nd r (.s k) a z ea)
    · exact rh.sep a z ⟨_, ea⟩
  refine ⟨st, ⟨by rw [put_ls]; simp [rh.ls], by rw [put_lp]; exact rh.lp, fun r p b e1 e2 => ?_, fun i j b e1 e2 => ?_, fun b z => rh.live b (subN b z), fun b z z2 => rh.sep b z (sub b z2)⟩, ?_⟩
  · rcases ms_at e2 with ⟨_, z, _⟩ | ⟨z1, z⟩
    · cases z
    · rw [put_ne z1] at e1
      exact (rh.ob r p b e1 z).imp id fun w => w.step st fun _ w => w
  · rcases ms_at e1 with ⟨_, z, _⟩ | ⟨z1, z⟩
    · cases z
    · rcases ms_at e2 with ⟨_, w, _⟩ | ⟨w1, w⟩
      · cases w
      · exact rh.nd i j b z w
  · rcases rh.ob (.s k) q a eq ea with z | z
    · subst z; cases nq
    · exact (z.step st fun _ w => w).freeze na
theorem set_take {α : Type} {l : List α} {n k : Nat} {x : α} (h : n ≤ k) : (l.set k x).take n = l.take n := by
  apply List.ext_getElem?
  intro j
  rw [List.getElem?_take, List.getElem?_take]
  split
  · rw [List.getElem?_set_ne (by omega)]
  · rfl
theorem s_frz {i : Nat} {sts : List Stmt} {c2 : List S} (h2 : PSs X sts (tSp g W n0 (evSs C G n0 c2))) : PSs X sts (tSp g W n0 (evSs C G n0 (.frz i :: c2))) := h2.weak fun D σ H ⟨M, env, h, re, rh, hn, w⟩ => by
  rw [evSs, evS] at w
  have w := wq_bind w
  split at w
  · rename_i kk es
    split at w
    · rename_i q eq
      split at w
      · rename_i hc
        have es' := sget_some es
        obtain ⟨v, ev1, a, rfl, ea⟩ := re.sl i _ es'
        obtain ⟨st, rh2, rp⟩ := place_frz rh ea eq hc.2.2
        have m1 : Mx n0 M (MS M kk none) := ⟨set_take hc.1, rfl, by simp; exact hn⟩
        refine ⟨MS M kk none, env.set i (some (.p q)), h.put (.s kk) .non, ⟨by simp [re.len], fun j s ej => ?_⟩, rh2, m1.le, wq_mono (show wq (evSs C G n0 c2 (env.set i (some (.p q))) (h.put (.s kk) .non)) (EndP g W n0 M H D) (fun _ _ => False) from w) (fun p k => EndOk.before m1 st k) fun _ _ z => z⟩
        by_cases hj : i = j
        · subst hj
          have hl : i < env.length := (List.getElem?_eq_some_iff.mp es').1
          rw [List.getElem?_set_self hl] at ej
          cases ej
          exact ⟨_, ev1, rp⟩
        · rw [List.getElem?_set_ne hj] at ej
          obtain ⟨w', ew, rw'⟩ := re.sl j s ej
          refine ⟨w', ew, ?_⟩
          cases s with
          | p q' => exact RP.step st rw'
          | rf k' =>
            obtain ⟨b, eb, ec⟩ := rw'
            refine ⟨b, eb, ?_⟩
            rw [at_ms_ne (fun z => hj (by cases z; exact (sole_ne hc.2.1 ej).symm))]
            exact ec
          | xc c l =>
            obtain ⟨b, d, eb, ec, rx⟩ := rw'
            exact ⟨b, d, eb, ec, rx.step st⟩
      · exact w.elim
    · exact w.elim
  · exact w.elim
/-- what is new takes the place of an elder thing -/
theorem place_ren {g : Gc} {M M' : Mp} {H H' : Hp} {h' : Hh} {v : V} {q : P} {k : Nat} (o : Out g M H M' h' v H' (.fr q)) (hk : k < M'.pl.length) : ∃ x, v = .ref x ∧ Stp M H (MS M' k (some x)) H' ∧ RH g (MS M' k (some x)) (h'.put (.s k) q) H' ∧ M'.pl = M.pl ∧ M'.av = M.av := by
  obtain ⟨x, rfl, nx, hx, st, e1, e2, rh, rt⟩ := o
  have wr : ∀ b, Wr (MS M' k (some x)) b → b = x ∨ Wr M' b := fun b ⟨r, e⟩ => by
    rcases ms_at e with ⟨_, z, _⟩ | ⟨_, z⟩
    · exact .inl (Option.some.inj z).symm
    · exact .inr ⟨r, z⟩
  have subN : ∀ b, NM (MS M' k (some x)) b → NM (MA M' x) b := fun b z => by
    rcases z with z | z
    · rcases wr b z with rfl | z
      · exact .inr (.inl rfl)
      · exact .inl z
    · exact .inr (.inr z)
  have st' : Stp M H (MS M' k (some x)) H' := ⟨st.keep, fun a z => st.new a (subN a z), fun a z => by
    rcases wr a z with rfl | z
    · exact .inr hx
    · exact st.wr a z, st.all, st.pm⟩
  have conv : ∀ {b : Addr} {p : P}, RT g (NM (MA M' x)) H' b p → RT g (NM (MS M' k (some x))) H' b p := fun {b p} r => by
    have r' : RT g (NM (MD (MA M' x) x)) H' b p := by rw [nm_md (M := MA M' x) (D := x) (.inl rfl)]; exact r
    exact r'.step (M' := MS M' k (some x)) (Stp.same (fun c z => by
      rcases z with z | z
      · rcases wr c z with rfl | z
        · exact .inl (wr_md.mpr (.inl rfl))
        · exact .inl (wr_md.mpr (.inr z))
      · exact .inr (.inr z)) (fun c z => by
        rcases wr c z with rfl | z
        · exact wr_md.mpr (.inl rfl)
        · exact wr_md.mpr (.inr z)) rfl) fun _ z => z
  refine ⟨x, rfl, st', ⟨by rw [put_ls]; simp [rh.ls], by rw [put_lp]; exact rh.lp, fun r p b e1 e2 => ?_, fun i j b e1 e2 => ?_, fun b z => rh.live b (subN b z), fun b z z2 => ?_⟩, e1, e2⟩
  · rcases ms_at e2 with ⟨rfl, z, _⟩ | ⟨z1, z⟩
    · cases z
      cases put_self e1
      exact .inr (conv rt)
    · rw [put_ne z1] at e1
      exact (rh.ob r p b e1 z).imp id conv
  · rcases ms_at e1 with ⟨z0, z, _⟩ | ⟨z1, z⟩ <;> rcases ms_at e2 with ⟨w0, w, _⟩ | ⟨w1, w⟩
    · rw [z0, w0]
    · cases z; exact absurd (.inl ⟨_, w⟩) nx
    · cases w; exact absurd (.inl ⟨_, z⟩) nx
    · exact rh.nd i j b z w
  · rcases wr b z2 with rfl | z2
    · exact nx (.inr z)
    · exact rh.sep b (.inr z) z2
theorem s_ren {i : Nat} {x : Str} {a : Expr} {p : Pos} (rule : PS X (.Assign [.Name x p] a pos) (tAsg (tE g W (ev C G ea)) (gName i))) :
    PS X (.Assign [.Name x p] a pos) (tSp g W n0 (evS C G n0 (.ren i ea))) := rule.weak fun D σ H ⟨M, env, h, re, rh, hn, w⟩ => by
  rw [evS] at w
  refine tE.of re rh (wq_inS w) (EndOk.xp re hn (.refl hn) .refl) fun r h1 M1 v H1 o1 w => ?_
  dsimp only at w
  split at w
  · rename_i q kk es
    split at w
    · rename_i hc
      have k := wq_ok w
      clear w
      have es' := sget_some es
      have hk : kk < M1.pl.length := by rw [← o1.rh.ls]; exact hc.2.1
      obtain ⟨y, rfl, st, rh2, e1, e2⟩ := place_ren o1 hk
      refine k (MS M1 kk (some y)) _ H1 ⟨by show (M1.pl.set kk _).take n0 = _; rw [set_take hc.1, e1], e2, by show n0 ≤ (M1.pl.set kk _).length; rw [List.length_set, e1]; exact hn⟩ st ⟨by simp [re.len], fun j s ej => ?_⟩ rh2
      by_cases hj : i = j
      · subst hj
        rw [es'] at ej
        cases ej
        have hl : i < σ.length := by rw [← re.len]; exact (List.getElem?_eq_some_iff.mp es').1
        exact ⟨.ref y, by rw [List.getElem?_set_self hl], y, rfl, at_ms_self hk⟩
      · obtain ⟨w', ew, rw'⟩ := re.sl j s ej
        refine ⟨w', by rw [List.getElem?_set_ne hj]; exact ew, ?_⟩
        cases s with
        | p q' => exact RP.step st rw'
        | rf k' =>
          obtain ⟨b, eb, ec⟩ := rw'
          refine ⟨b, eb, ?_⟩
          rw [at_ms_ne (fun z => hj (by cases z; exact (sole_ne hc.2.2 ej).symm)), at_pl_eq e1]
          exact ec
        | xc c l =>
          obtain ⟨b, d, eb, ec, rx⟩ := rw'
          exact ⟨b, d, eb, ec, rx.step st⟩
    · exact w.elim
  · exact w.elim
/-! ### changes at a place -/
theorem upd_stp {M : Mp} {H : Hp} {a : Addr} {o : HO} (h : Wr M a) : Stp M H M (upd H a o) := by
  refine ⟨fun b u e n => by rw [upd_ne (fun z => n (by rw [z]; exact h))]; exact e, fun b z => .inl z, fun b z => .inl z, fun b z => ?_, fun _ _ z => z⟩
  unfold upd at z
  split at z
  · cases z
  · exact z
theorem place_upd {g : Gc} {M : Mp} {H : Hp} {h : Hh} {k : Pl} {a : Addr} {q : P} {o : HO} (rh : RH g M h H) (ea : M.at k = some a) (rt : RT g (NM M) (upd H a o) a q) : Sx M H M (upd H a o) ∧ RH g M (h.put k q) (upd H a o) := by
  have st : Stp M H M (upd H a o) := upd_stp ⟨k, ea⟩
  refine ⟨⟨st, rfl, rfl⟩, ⟨by rw [put_ls]; exact rh.ls, by rw [put_lp]; exact rh.lp, fun r p b e1 e2 => ?_, rh.nd, fun b z => ?_, rh.sep⟩⟩
  · by_cases hr : r = k
    · subst hr
      rw [ea] at e2
      cases e2
      cases put_self e1
      exact .inr rt
    · rw [put_ne hr] at e1
      have nb : b ≠ a := fun z => hr (rh.nd r k a (by rw [← z]; exact e2) ea)
      exact (rh.ob r p b e1 e2).imp id fun z => z.step st fun u e => by rw [upd_ne nb]; exact e
  · by_cases e : b = a
    · subst e; exact ⟨_, upd_same⟩
    · obtain ⟨u, q⟩ := rh.live b z; exact ⟨u, by rw [upd_ne e]; exact q⟩
theorem atPl_some {r : R} {h h' : Hh} {φ : P → Option P} (e : atPl r h φ = some h') : ∃ k q q', r.pl = some k ∧ h.get k = some q ∧ φ q = some q' ∧ h' = h.put k q' := by
  unfold atPl at e
  obtain ⟨k, e1, e⟩ := bind_some e
  obtain ⟨q, e2, e⟩ := bind_some e
  obtain ⟨q', e3, e⟩ := bind_some e
  exact ⟨k, q, q', e1, e2, e3, (pure_some e).symm⟩
theorem Out.plc {g : Gc} {M M' : Mp} {H H' : Hp} {h' : Hh} {v : V} {r : R} {k : Pl} (o : Out g M H M' h' v H' r) (e : r.pl = some k) : ∃ a, v = .ref a ∧ M'.at k = some a := by
  cases r with
  | rf i => cases e; exact o.2.2
  | fr q => cases e
  | p q =>
    cases q with
    | hf j =>
      cases e
      obtain ⟨_, _, rp⟩ := o
      cases rp with
      | hf ea => exact ⟨_, rfl, ea⟩
    | _ => cases e
theorem Sx.at {M M' : Mp} {H H' : Hp} (s : Sx M H M' H') {k : Pl} {a : Addr} (e : M.at k = some a) : M'.at k = some a := by
  cases k with
  | s i => exact s.at_s e
  | p j => exact s.st.pm j a e
/-- o[i] = v by values, a list's or a dict's -/
def rPut (g : Gc) (fl : Nat → List Str) : TSet := fun ov iv vv H Q => ∃ M h k a q q' x v, RH g M h H ∧ ov = .ref a ∧ M.at k = some a ∧ h.get k = some q ∧ RdV g M H iv x ∧ RP g (NM M) H vv v ∧ putAt fl v x q = some q' ∧ ∀ H', Sx M H M H' → RH g M (h.put k q') H' → Q H'
theorem set_all {g : Gc} {fl : Nat → List Str} (hu : X.A.units + 1 < cLine) : PSet X (rPut g fl) := by
  intro pins s σ H o i v ov iv u Q I ro ri rv hq
  obtain ⟨M, h, k, a, q, q', x, p, rh, rfl, ea, eq, dx, rp, ep, kk⟩ := hq
  have wr : Wr M a := ⟨k, ea⟩
  have rt0 := rh.ob k q a eq ea
  unfold putAt at ep
  split at ep
  · split at ep
    · simp only [Option.map_eq_some_iff] at ep
      obtain ⟨j, ej, rfl⟩ := ep
      rcases rt0 with z | ⟨vs, hv, rr⟩
      · cases z
      · have rt : RT g (NM M) (upd H a (.lst (vs.set j v))) a (.lst (List.set _ j p)) := ⟨_, upd_same, ((rr.set j rp).step (upd_stp wr))⟩
        obtain ⟨st, rh2⟩ := place_upd rh ea rt
        exact set_list pins s σ H _ i v ov iv u Q I ro ri rv ⟨a, vs, _, j, rfl, dx.int, hv, by rw [rr.length]; exact ej, kk _ st rh2⟩
    · cases ep
  · simp only [Option.bind_eq_some_iff] at ep
    obtain ⟨key, ek, ep⟩ := ep
    split at ep
    · rename_i hl
      cases ep
      rcases rt0 with z | ⟨vs, hv, rr⟩
      · cases z
      · have rt : RT g (NM M) (upd H a (.dK (putK vs key v))) a (.dic (kput _ key p)) := ⟨_, upd_same, ((rr.put key rp).step (upd_stp wr))⟩
        obtain ⟨st, rh2⟩ := place_upd rh ea rt
        have e2 := keyP_V ek dx
        subst e2
        obtain rfl : ov = Value.ref a := ro
        exact d_setItem hu I (DPut.k hv (by rw [rr.length]; exact hl)) ri rv fun s' I' => ⟨_, I', kk _ st rh2⟩
    · cases ep
  · cases ep
theorem s_put {a b c : Expr} {p : Pos} (hu : X.A.units + 1 < cLine) (hc : PE X c (tE g W (ev C G ec))) (ha : PE X a (tE g W (ev C G ea))) (hb : PE X b (tE g W (ev C G eb)))
    (rule : ∀ {to ti te : TE} {t : TSet}, PE X c te → PE X a to → PE X b ti → PSet X t → PS X (.Assign [.Subscript a b p] c pos) (tAsg te (gSub to ti t))) :
    PS X (.Assign [.Subscript a b p] c pos) (tSp g W n0 (evS C G n0 (.put ea eb ec))) := (rule hc ha hb (set_all (g := g.toGc) (fl := G.fl) hu)).weak fun D σ H ⟨M, env, h, re, rh, hn, w⟩ => by
  rw [evS] at w
  refine tE.of re rh (wq_inS w) (EndOk.xp re hn (.refl hn) .refl) fun r h1 M1 v1 H1 o1 w => ?_
  have re1 := re.sx o1.sx
  have m1 := Mx.sx hn o1.sx
  refine tE.of re1 o1.rh (wq_inS w) (EndOk.xp re1 m1.le m1 o1.sx.st) fun r2 h2 M2 v2 H2 o2 w => ?_
  have s2 := o1.sx.trans o2.sx
  have re2 := re.sx s2
  have m2 := Mx.sx hn s2
  refine tE.of re2 o2.rh (wq_inS w) (EndOk.xp re2 m2.le m2 s2.st) fun r3 h3 M3 v3 H3 o3 w => ?_
  obtain ⟨v, e2, w⟩ := wq_of w
  obtain ⟨x, e5, w⟩ := wq_of w
  obtain ⟨h4, e6, w⟩ := wq_of w
  have k := wq_ok w
  obtain ⟨kk, q, q', epl, eq, ep, rfl⟩ := atPl_some e6
  obtain ⟨a, rfl, ea⟩ := o2.plc epl
  refine ⟨M3, _, kk, a, q, q', x, v, o3.rh, rfl, o3.sx.at ea, eq, o3.rd e5, ((o1.valP e2).step o2.sx.st).step o3.sx.st, ep, fun H' s4 rh4 => ?_⟩
  have s5 := (s2.trans o3.sx).trans s4
  exact k M3 σ H' (.sx hn s5) s5.st (re.sx s5) rh4
theorem RFs.put {g : Gc} {N : Nx} {H : Hp} {f : Str} {v : V} {p : P} (r : RP g N H v p) : ∀ {vs : List (Str × V)} {l : List (Str × P)}, RFs g N H vs l → RFs g N H (putF f v vs) (putF' f p l)
  | _, _, .nil => .cons r .nil
  | _, _, .cons (k := k') a b => by
    unfold putF putF'
    by_cases e : k' = f
    · rw [if_pos e, if_pos e]; exact .cons r b
    · rw [if_neg e, if_neg e]; exact .cons a (RFs.put r b)
theorem RFs.length {g : Gc} {N : Nx} {H : Hp} : ∀ {vs : List (Str × V)} {l : List (Str × P)}, RFs g N H vs l → vs.length = l.length
  | _, _, .nil => rfl
  | _, _, .cons _ b => by simp [RFs.length b]
theorem s_fset {f : Str} {a c : Expr} {p : Pos} (hf : ∀ c, f ∈ G.fl c → Cls X.K (g.ca c) ∧ NoAttr X.K (g.ca c) f) (hc : PE X c (tE g W (ev C G ec))) (ha : PE X a (tE g W (ev C G ea))) (hs : swapsWith c (some (.Attribute a f p)) pos.line X.env = pure false) :
    PS X (.Assign [.Attribute a f p] c pos) (tSp g W n0 (evS C G n0 (.fset ea f ec))) := (ps_fld ha hc hs).weak fun D σ H ⟨M, env, h, re, rh, hn, w⟩ => by
  rw [evS] at w
  refine tE.of re rh (wq_inS w) (EndOk.xp re hn (.refl hn) .refl) fun r h1 M1 v1 H1 o1 w => ?_
  have re1 := re.sx o1.sx
  have m1 := Mx.sx hn o1.sx
  refine tE.of re1 o1.rh (wq_inS w) (EndOk.xp re1 m1.le m1 o1.sx.st) fun r2 h2 M2 v2 H2 o2 w => ?_
  have s2 := o1.sx.trans o2.sx
  obtain ⟨v, e2, w⟩ := wq_of w
  obtain ⟨h4, e6, w⟩ := wq_of w
  have k := wq_ok w
  obtain ⟨kk, q, q', epl, eq, ep, rfl⟩ := atPl_some e6
  obtain ⟨a, rfl, ea⟩ := o2.plc epl
  unfold fputAt at ep
  split at ep
  · split at ep
    · rename_i c l hcl
      cases ep
      rcases o2.rh.ob kk _ a eq ea with z | ⟨dx, vs, hv, rr⟩
      · cases z
      · obtain ⟨c1, c2⟩ := hf c hcl.1
        have rv := (o1.valP e2).step o2.sx.st
        have wr : Wr M2 a := ⟨kk, ea⟩
        refine ⟨a, g.ca c, dx, vs, rfl, hv, c1, c2, by rw [rr.length]; exact hcl.2, ?_⟩
        have rt : RT g.toGc (NM M2) (upd H2 a (.ins (g.ca c) dx (putF f v1 vs))) a (.obj c (putF' f v l)) := ⟨dx, _, upd_same, (RFs.put rv rr).step (upd_stp wr)⟩
        obtain ⟨st, rh3⟩ := place_upd o2.rh ea rt
        have s3 := s2.trans st
        exact k M2 σ _ (.sx hn s3) s3.st (re.sx s3) rh3
    · cases ep
  · cases ep
/-! ### for -/
theorem s_for {tg iter : Expr} {body : List Stmt} {t : Tg} {src : I} {cb : List S} (rule : PS X (.For tg iter body [] pos) (tFor (tIt g W (evI C G src)) (tGt g t) (tSp g W n0 (evSs C G n0 cb)))) : PS X (.For tg iter body [] pos) (tSp g W n0 (evS C G n0 (.for_ src t cb))) := rule.weak fun D σ H ⟨M, env, h, re, rh, hn, w⟩ => by
  rw [evS] at w
  refine ⟨M, env, h, re, rh, wq_mono (wq_inS w) (fun p w => ?_) fun e h' z => EndOk.xp re hn (.refl hn) .refl z⟩
  obtain ⟨items, h1⟩ := p
  intro M0 J H1 s1 rh1 wk
  have m0 := Mx.sx hn s1
  refine ⟨fun i m σ' H' => m = items.length - i ∧ i ≤ items.length ∧ ∃ M1 env1 hx, Mx n0 M0 M1 ∧ Stp M0 H1 M1 H' ∧ REnv g M1 H' σ' env1 ∧ RH g.toGc M1 hx H' ∧ wq (forGo (fun x env => bindT t x env) (evSs C G n0 cb) (items.drop i) env1 hx) (EndP g W n0 M H D) (fun _ _ => False), ⟨items.length, by simp, Nat.zero_le _, M0, env, h1, .refl m0.le, .refl, re.sx s1, rh1, by simpa using w⟩, ?_⟩
  rintro i m σ' H' ⟨rfl, hil, M1, env1, hx, m1, st, re1, rhx, el⟩
  by_cases hlt : i < items.length
  · right
    refine ⟨wk.go _ _ i st hlt, fun σ2 H2 => ∃ M1 env1 hx, Mx n0 M0 M1 ∧ Stp M0 H1 M1 H2 ∧ REnv g M1 H2 σ2 env1 ∧ RH g.toGc M1 hx H2 ∧ wq (forGo (fun x env => bindT t x env) (evSs C G n0 cb) (items.drop (i + 1)) env1 hx) (EndP g W n0 M H D) (fun _ _ => False), fun σ2 H2 q => ⟨items.length - (i + 1), by omega, rfl, hlt, q⟩, fun x H2 y => ?_⟩
    obtain ⟨p, ep, ext, rp⟩ := wk.yld _ _ i x H2 st rhx.live hlt y
    have ed : items.drop i = p :: items.drop (i + 1) := by
      rw [List.drop_eq_getElem_cons hlt]
      rw [List.getElem?_eq_getElem hlt] at ep
      cases ep; rfl
    rw [ed, forGo] at el
    obtain ⟨env2, eb, el⟩ := wq_of el
    have st2 : Stp M0 H1 M1 H2 := st.trans ext.stp
    refine ⟨M1, env1, p, env2, re1.step ext.stp fun _ _ z => z, rp, eb, fun σ3 re3 w => ?_⟩
    refine ⟨M1, env2, hx, re3, rhx.ext ext, m1.le, wq_mono (wq_bind el) (fun q el => ?_) fun _ _ z => z⟩
    obtain ⟨o3, env3, h3⟩ := q
    have mm := m0.trans m1
    have ss := s1.st.trans st2
    cases o3 with
    | nx => exact fun M4 σ4 H4 m4 s4 re4 rh4 => ⟨M4, env3, h3, m1.trans m4, st2.trans s4, re4, rh4, el⟩
    | ct => exact fun M4 σ4 H4 m4 s4 re4 rh4 => ⟨M4, env3, h3, m1.trans m4, st2.trans s4, re4, rh4, el⟩
    | bk => exact fun M4 σ4 H4 m4 s4 re4 rh4 => wq_ok el M4 σ4 H4 (mm.trans m4) (ss.trans s4) re4 rh4
    | rt r => exact fun M4 v H4 m4 o4 => wq_ok el M4 v H4 (mm.trans m4) (o4.before ss)
    | ex e => exact fun M4 σ4 H4 d m4 s4 re4 rh4 rx => wq_ok el M4 σ4 H4 d (mm.trans m4) (ss.trans s4) re4 rh4 rx
  · left
    have ei : i = items.length := by omega
    subst ei
    simp only [List.drop_length] at el
    rw [forGo] at el
    exact ⟨wk.stop _ _ st, wq_ok el M1 σ' H' (m0.trans m1) (s1.st.trans st) re1 rhx⟩
end
end EV

set_option Elab.async false
set_option linter.all false
set_option maxRecDepth 100000
/-! EvN: methods of built-in types -/
namespace EV
open PySem PySem.Spec PyProof.Rows L2

def mtT : Mt → String
  | .dGet => "dict" | .dGet2 => "dict" | _ => "str"
def mtName : Mt → Str
  | .sSplit => "split" | .sJoin => "join" | .sStartswith => "startswith" | .sIsascii => "isascii" | .sIsalnum => "isalnum" | .sIsalpha => "isalpha" | .sIslower => "islower"
  | .sIsprintable => "isprintable" | .sIsdigit => "isdigit" | .sUpper => "upper" | .dGet => "get" | .dGet2 => "get"
def mtId : Mt → String
  | .sSplit => "str.split" | .sJoin => "str.join" | .sStartswith => "str.startswith" | .sIsascii => "str.isascii" | .sIsalnum => "str.isalnum" | .sIsalpha => "str.isalpha" | .sIslower => "str.islower"
  | .sIsprintable => "str.isprintable" | .sIsdigit => "str.isdigit" | .sUpper => "str.upper" | .dGet => "dict.get" | .dGet2 => "dict.get"
def muT : Mu → String
  | .lAppend => "list" | .lExtend => "list" | .lPop => "list" | _ => "dict"
def muName : Mu → Str
  | .lAppend => "append" | .lExtend => "extend" | .lPop => "pop" | .dPop2 => "pop" | .dPop1 => "pop" | .dSetd => "setdefault"
def muId : Mu → String
  | .lAppend => "list.append" | .lExtend => "list.extend" | .lPop => "list.pop" | .dPop2 => "dict.pop" | .dPop1 => "dict.pop" | .dSetd => "dict.setdefault"
theorem mt_slot (m : Mt) : PlainAttrs (mtT m) ∧ Slot (mtT m) (mtName m) (mtId m) ∧ typeOf (.builtin (mtId m)) = pure (.type "method_descriptor") := by
  cases m with
  | sSplit => exact ⟨PySem.F.plainAttrs_str, PySem.F.slot_str_split, PySem.F.type_str_split⟩
  | sJoin => exact ⟨PySem.F.plainAttrs_str, PySem.F.slot_str_join, PySem.F.type_str_join⟩
  | sStartswith => exact ⟨PySem.F.plainAttrs_str, PySem.F.slot_str_startswith, PySem.F.type_str_startswith⟩
  | sIsascii => exact ⟨PySem.F.plainAttrs_str, PySem.F.slot_str_isascii, PySem.F.type_str_isascii⟩
  | sIsalnum => exact ⟨PySem.F.plainAttrs_str, PySem.F.slot_str_isalnum, PySem.F.type_str_isalnum⟩
  | sIsalpha => exact ⟨PySem.F.plainAttrs_str, PySem.F.slot_str_isalpha, PySem.F.type_str_isalpha⟩
  | sIslower => exact ⟨PySem.F.plainAttrs_str, PySem.F.slot_str_islower, PySem.F.type_str_islower⟩
  | sIsprintable => exact ⟨PySem.F.plainAttrs_str, PySem.F.slot_str_isprintable, PySem.F.type_str_isprintable⟩
  | sIsdigit => exact ⟨PySem.F.plainAttrs_str, PySem.F.slot_str_isdigit, PySem.F.type_str_isdigit⟩
  | sUpper => exact ⟨PySem.F.plainAttrs_str, PySem.F.slot_str_upper, PySem.F.type_str_upper⟩
  | dGet => exact ⟨PySem.F.plainAttrs_dict, PySem.F.slot_dict_get, PySem.F.type_dict_get⟩
  | dGet2 => exact ⟨PySem.F.plainAttrs_dict, PySem.F.slot_dict_get, PySem.F.type_dict_get⟩
theorem mu_slot (m : Mu) : PlainAttrs (muT m) ∧ Slot (muT m) (muName m) (muId m) ∧ typeOf (.builtin (muId m)) = pure (.type "method_descriptor") := by
  cases m with
  | lAppend => exact ⟨PySem.F.plainAttrs_list, PySem.F.slot_list_append, PySem.F.type_list_append⟩
  | lExtend => exact ⟨PySem.F.plainAttrs_list, PySem.F.slot_list_extend, PySem.F.type_list_extend⟩
  | lPop => exact ⟨PySem.F.plainAttrs_list, PySem.F.slot_list_pop, PySem.F.type_list_pop⟩
  | dPop2 => exact ⟨PySem.F.plainAttrs_dict, PySem.F.slot_dict_pop, PySem.F.type_dict_pop⟩
  | dPop1 => exact ⟨PySem.F.plainAttrs_dict, PySem.F.slot_dict_pop, PySem.F.type_dict_pop⟩
  | dSetd => exact ⟨PySem.F.plainAttrs_dict, PySem.F.slot_dict_setdefault, PySem.F.type_dict_setdefault⟩
section
variable {X : Cx} {g : Gc} {M : Mp} {H : Hp}
theorem mtTy_ok {m : Mt} {y : P} {u : Unit} {v : V} (e : mtTy m y = some u) (r : RdV g M H v y) : tyV X.K (mtT m) v H := by
  unfold mtTy at e
  split at e <;> first
    | (cases e; done)
    | skip
  · obtain ⟨a, vs, rfl, hv, _⟩ := r.dic
    exact .inr (.inr (.inl ⟨rfl, .inl ⟨_, hv⟩⟩))
  · obtain ⟨a, vs, rfl, hv, _⟩ := r.dic
    exact .inr (.inr (.inl ⟨rfl, .inl ⟨_, hv⟩⟩))
  · rename_i h1 h2
    rw [r.str]
    show mtT m = "str"
    cases m <;> first | rfl | exact absurd rfl h1 | exact absurd rfl h2
theorem muTy_ok {m : Mu} {y : P} {u : Unit} {v : V} (e : muTy m y = some u) (r : RdV g M H v y) : tyV X.K (muT m) v H := by
  unfold muTy at e
  split at e <;> first
    | (cases e; done)
    | (obtain ⟨a, vs, rfl, hv, _⟩ := r.dic; exact .inr (.inr (.inl ⟨rfl, .inl ⟨_, hv⟩⟩)))
    | (obtain ⟨a, vs, rfl, hv, _⟩ := r.lst; exact .inl ⟨rfl, _, SqL.of hv⟩)
/-- a method by values -/
def rMt (g : Gc) (f : P → List P → Option R) : V → List V → Hp → VK → Prop := fun v vs H Q => ∃ M h y xs r, RH g M h H ∧ RdV g M H v y ∧ RPs g (NM M) H vs xs ∧ f y xs = some r ∧ ∀ u H', Out g M H M h u H' r → Q u H'
theorem RPs.nil_inv {N : Nx} {vs : List V} (r : RPs g N H vs []) : vs = [] := by cases r; rfl
theorem RPs.one {N : Nx} {vs : List V} {p : P} (r : RPs g N H vs [p]) : ∃ v, vs = [v] ∧ RP g N H v p := by
  cases r with | cons a b => cases b; exact ⟨_, rfl, a⟩
theorem RPs.two {N : Nx} {vs : List V} {p q : P} (r : RPs g N H vs [p, q]) : ∃ v w, vs = [v, w] ∧ RP g N H v p ∧ RP g N H w q := by
  cases r with | cons a b => cases b with | cons b c => cases c; exact ⟨_, _, rfl, a, b⟩
theorem RP.str_inv {N : Nx} {v : V} {s : Str} (r : RP g N H v (.str s)) : v = .str s := by cases r; rfl
theorem asStrs_map : ∀ {l : List P} {ys : List Str}, asStrs l = some ys → l = ys.map .str
  | [], ys, e => by cases e; rfl
  | p :: l, ys, e => by
    cases p with
    | str s =>
      unfold asStrs at e
      simp only [Option.map_eq_some_iff] at e
      obtain ⟨zs, e1, rfl⟩ := e
      rw [asStrs_map e1]; rfl
    | _ => cases e
theorem asInts_map : ∀ {l : List P} {ys : List Int}, asInts l = some ys → l = ys.map .int
  | [], ys, e => by cases e; rfl
  | p :: l, ys, e => by
    cases p with
    | int s =>
      unfold asInts at e
      simp only [Option.map_eq_some_iff] at e
      obtain ⟨zs, e1, rfl⟩ := e
      rw [asInts_map e1]; rfl
    | _ => cases e
theorem asBls_map : ∀ {l : List P} {ys : List Bool}, asBls l = some ys → l = ys.map .bl
  | [], ys, e => by cases e; rfl
  | p :: l, ys, e => by
    cases p with
    | bl s =>
      unfold asBls at e
      simp only [Option.map_eq_some_iff] at e
      obtain ⟨zs, e1, rfl⟩ := e
      rw [asBls_map e1]; rfl
    | _ => cases e
theorem strs_V {N : Nx} : ∀ {ys : List Str} {vs : List V}, RPs g N H vs (ys.map .str) → vs = ys.map .str
  | [], _, r => by cases r; rfl
  | y :: ys, _, r => by
    rw [List.map_cons] at r
    cases r with
    | cons a b => cases a; rw [strs_V b]; rfl
theorem ints_V {N : Nx} : ∀ {ys : List Int} {vs : List V}, RPs g N H vs (ys.map .int) → vs = ys.map .int
  | [], _, r => by cases r; rfl
  | y :: ys, _, r => by
    rw [List.map_cons] at r
    cases r with
    | cons a b => cases a; rw [ints_V b]; rfl
theorem bls_V {N : Nx} : ∀ {ys : List Bool} {vs : List V}, RPs g N H vs (ys.map .bl) → vs = ys.map .bl
  | [], _, r => by cases r; rfl
  | y :: ys, _, r => by
    rw [List.map_cons] at r
    cases r with
    | cons a b => cases a; rw [bls_V b]; rfl
theorem strs_RPs {N : Nx} : ∀ (ys : List Str), RPs g N H (ys.map .str) (ys.map .str)
  | [] => .nil
  | y :: ys => .cons .str (strs_RPs ys)
theorem ints_RPs {N : Nx} : ∀ (ys : List Int), RPs g N H (ys.map .int) (ys.map .int)
  | [] => .nil
  | y :: ys => .cons .int (ints_RPs ys)
theorem mt_all (hK : g.K = X.K) (hu : X.A.units + 1 < cLine) (m : Mt) : MtR X (mtId m) (rMt g (mtP m)) := by
  intro pins s σ H v vs w us Q I rx rs ⟨M, h, y, xs, r, rh, dx, rr, e, k⟩
  unfold mtP at e
  split at e
  · cases e; cases rr.nil_inv
    exact mt_isascii pins s σ H v _ w us Q I rx rs ⟨_, dx.str, rfl, trivial, k _ _ (Out.val rh .bl)⟩
  · cases e; cases rr.nil_inv
    exact mt_isalnum pins s σ H v _ w us Q I rx rs ⟨_, dx.str, rfl, trivial, k _ _ (Out.val rh .bl)⟩
  · cases e; cases rr.nil_inv
    exact mt_isalpha pins s σ H v _ w us Q I rx rs ⟨_, dx.str, rfl, trivial, k _ _ (Out.val rh .bl)⟩
  · cases e; cases rr.nil_inv
    exact mt_islower pins s σ H v _ w us Q I rx rs ⟨_, dx.str, rfl, trivial, k _ _ (Out.val rh .bl)⟩
  · cases e; cases rr.nil_inv
    exact mt_isprintable pins s σ H v _ w us Q I rx rs ⟨_, dx.str, rfl, trivial, k _ _ (Out.val rh .bl)⟩
  · cases e; cases rr.nil_inv
    exact mt_isdigit pins s σ H v _ w us Q I rx rs ⟨_, dx.str, rfl, trivial, k _ _ (Out.val rh .bl)⟩
  · split at e
    · rename_i hl
      cases e; cases rr.nil_inv
      exact mt_upper pins s σ H v _ w us Q I rx rs ⟨_, dx.str, rfl, hl, k _ _ (Out.val rh .str)⟩
    · cases e
  · cases e
    obtain ⟨b, rfl, rb⟩ := rr.one
    cases rb.str_inv
    exact mt_startswith pins s σ H v _ w us Q I rx rs ⟨_, _, dx.str, rfl, k _ _ (Out.val rh .bl)⟩
  · split at e
    · rename_i hl
      cases e
      obtain ⟨b, rfl, rb⟩ := rr.one
      cases rb.str_inv
      exact mt_split pins s σ H v _ w us Q I rx rs ⟨_, _, dx.str, rfl, hl.1, hl.2, fun p hp => k _ _ (Out.newLst rh hp (strs_RPs _))⟩
    · cases e
  · simp only [Option.bind_eq_some_iff] at e
    obtain ⟨ys, e1, e⟩ := e
    split at e
    · rename_i hl
      cases e
      have e2 := asStrs_map e1
      subst e2
      obtain ⟨b, rfl, rb⟩ := rr.one
      cases rb with
      | lst n q rr2 =>
        cases strs_V rr2
        exact mt_join pins s σ H v _ w us Q I rx rs ⟨_, _, ys, dx.str, rfl, .inl (SqL.of q), hl, k _ _ (Out.val rh .str)⟩
    · cases e
  · simp only [Option.map_eq_some_iff] at e
    obtain ⟨key, e1, rfl⟩ := e
    obtain ⟨b, rfl, rb⟩ := rr.one
    obtain ⟨a, ks, rfl, hv, rk⟩ := dx.dic
    have e2 := keyP_V e1 (.inl rb)
    subst e2
    obtain rfl : w = Value.ref a := rx
    obtain ⟨u1, rfl, r1⟩ := rs.one
    refine d_get1 hu I (DGet.k hv) r1 fun w' s' I' rw' => ⟨_, H, I', rw', k _ _ (Out.val rh ?_)⟩
    obtain ⟨h1, h2⟩ := RKs.val (k := key) rk
    cases q : kget _ key with
    | none => rw [h2 q]; exact .non
    | some p => obtain ⟨z, e3, e4⟩ := h1 p q; rw [e3]; exact e4
  · simp only [Option.map_eq_some_iff] at e
    obtain ⟨key, e1, rfl⟩ := e
    obtain ⟨b, c, rfl, rb, rc⟩ := rr.two
    obtain ⟨a, ks, rfl, hv, rk⟩ := dx.dic
    have e2 := keyP_V e1 (.inl rb)
    subst e2
    obtain rfl : w = Value.ref a := rx
    obtain ⟨u1, u2, rfl, r1, r2⟩ := rs.two
    refine d_get2 hu I (DGet.k hv) r1 r2 fun w' s' I' rw' => ⟨_, H, I', rw', k _ _ (Out.val rh ?_)⟩
    obtain ⟨h1, h2⟩ := RKs.val (k := key) rk
    cases q : kget _ key with
    | none => rw [h2 q]; exact rc
    | some p => obtain ⟨z, e3, e4⟩ := h1 p q; rw [e3]; exact e4
  · cases e
def rMu (g : Gc) (f : P → List P → Option (P × P)) : V → List V → Hp → VK → Prop := fun v vs H Q => ∃ M h k a q xs p, RH g M h H ∧ v = .ref a ∧ M.at k = some a ∧ h.get k = some q ∧ RPs g (NM M) H vs xs ∧ f q xs = some p ∧ ∀ u H', Sx M H M H' → RH g M (h.put k p.2) H' → RP g (NM M) H' u p.1 → Q u H'
theorem RPs.last {N : Nx} {vs : List V} {ps : List P} (r : RPs g N H vs ps) : RPs g N H vs.dropLast ps.dropLast := by
  rw [List.dropLast_eq_take, List.dropLast_eq_take, r.length]
  exact r.take _
theorem put_same {h : Hh} {k : Pl} {q : P} (e : h.get k = some q) : h.put k q = h := by
  cases h with
  | mk s p =>
    cases k with
    | s i =>
      obtain ⟨hk', ek⟩ := List.getElem?_eq_some_iff.mp (show s[i]? = some q from e)
      show Hh.mk (s.set i q) p = _
      rw [← ek, List.set_getElem_self]
    | p i =>
      obtain ⟨hk', ek⟩ := List.getElem?_eq_some_iff.mp (show p[i]? = some q from e)
      show Hh.mk s (p.set i q) = _
      rw [← ek, List.set_getElem_self]
theorem mu_all (hu : X.A.units + 1 < cLine) (m : Mu) : MtR X (muId m) (rMu g (muP m)) := by
  intro pins s σ H v vs w us Q I rx rs hq
  obtain ⟨M, h, k, a, q, xs, p, rh, rfl, ea, eq, rr, e, kk⟩ := hq
  have wr : Wr M a := ⟨k, ea⟩
  have rt0 := rh.ob k q a eq ea
  unfold muP at e
  split at e
  · split at e
    · rename_i hl
      cases e
      rcases rt0 with z | ⟨ws, hv, rl⟩
      · cases z
      · obtain ⟨b, rfl, rb⟩ := rr.one
        obtain ⟨st, rh2⟩ := place_upd rh ea (o := .lst (ws ++ [b])) (q := .lst (_ ++ [_])) ⟨_, upd_same, ((rl.append (.cons rb .nil)).step (upd_stp wr))⟩
        exact mt_append pins s σ H _ _ w us Q I rx rs ⟨a, ws, b, rfl, rfl, hv, by rw [rl.length]; exact hl, kk _ _ st rh2 .non⟩
    · cases e
  · split at e
    · rename_i hl
      cases e
      rcases rt0 with z | ⟨ws, hv, rl⟩
      · cases z
      · obtain ⟨b, rfl, rb⟩ := rr.one
        cases rb with
        | lst n hb rm =>
          obtain ⟨st, rh2⟩ := place_upd rh ea (q := .lst (_ ++ _)) ⟨_, upd_same, ((rl.append rm).step (upd_stp wr))⟩
          exact mt_extend pins s σ H _ _ w us Q I rx rs ⟨a, _, ws, _, rfl, rfl, hv, hb, by rw [rl.length, rm.length]; exact hl, kk _ _ st rh2 .non⟩
    · cases e
  · simp only [Option.map_eq_some_iff] at e
    obtain ⟨x, e1, rfl⟩ := e
    cases rr.nil_inv
    rcases rt0 with z | ⟨ws, hv, rl⟩
    · cases z
    · obtain ⟨y, e2, ry⟩ := rl.get e1
      obtain ⟨st, rh2⟩ := place_upd rh ea (q := .lst (_)) ⟨_, upd_same, (rl.last.step (upd_stp wr))⟩
      exact mt_pop pins s σ H _ _ w us Q I rx rs ⟨a, ws, y, rfl, rfl, hv, by rw [rl.length]; exact e2, kk _ _ st rh2 (ry.step st.st)⟩
  · simp only [Option.map_eq_some_iff] at e
    obtain ⟨key, e1, rfl⟩ := e
    obtain ⟨b, c, rfl, rb, rc⟩ := rr.two
    rcases rt0 with z | ⟨ws, hv, rl⟩
    · cases z
    · have e2 := keyP_V e1 (.inl rb)
      subst e2
      obtain rfl : w = Value.ref a := rx
      obtain ⟨u1, u2, rfl, r1, r2⟩ := rs.two
      obtain ⟨h1, h2⟩ := RKs.val (k := key) rl
      cases qk : kget _ key with
      | none =>
        rw [qk] at kk
        refine d_popD I hv r1 (h2 qk) fun s' I' => ⟨c, H, I', r2, kk _ _ .refl ?_ rc⟩
        show RH g M (h.put k _) H
        rw [put_same eq]; exact rh
      | some pv =>
        rw [qk] at kk
        obtain ⟨z, e3, e4⟩ := h1 pv qk
        obtain ⟨st, rh2⟩ := place_upd rh ea (q := .dic (kdrop _ key)) ⟨_, upd_same, ((rl.drop key).step (upd_stp wr))⟩
        exact d_pop I hv r1 e3 (.inr ⟨u2, rfl⟩) fun w' s' I' rw' => ⟨z, _, I', rw', kk _ _ st rh2 (e4.step st.st)⟩
  · simp only [Option.bind_eq_some_iff, Option.map_eq_some_iff] at e
    obtain ⟨key, e1, pv, qk, rfl⟩ := e
    obtain ⟨b, rfl, rb⟩ := rr.one
    rcases rt0 with z | ⟨ws, hv, rl⟩
    · cases z
    · have e2 := keyP_V e1 (.inl rb)
      subst e2
      obtain rfl : w = Value.ref a := rx
      obtain ⟨u1, rfl, r1⟩ := rs.one
      obtain ⟨h1, h2⟩ := RKs.val (k := key) rl
      obtain ⟨z, e3, e4⟩ := h1 pv qk
      obtain ⟨st, rh2⟩ := place_upd rh ea (q := .dic (kdrop _ key)) ⟨_, upd_same, ((rl.drop key).step (upd_stp wr))⟩
      exact d_pop I hv r1 e3 (.inl rfl) fun w' s' I' rw' => ⟨z, _, I', rw', kk _ _ st rh2 (e4.step st.st)⟩
  · cases e
end
section
variable {X : Cx} {g : Gx} {W : WX} {C : Cl} {G : Tb} {pos apos : Pos} {a : Expr} {ea : E} {cs : List E}
theorem e_mth {m : Mt} {es : List Expr} (hK : g.K = X.K) (hu : X.A.units + 1 < cLine) (ha : PE X a (tE g W (ev C G ea))) (hr : PA X es (tAr g W (relP g.toGc) (evs C G cs)))
    (rule : ∀ {to : TE} {t : TA} {r : V → List V → Hp → VK → Prop}, MtR X (mtId m) r → PE X a to → PA X es t → PE X (.Call (.Attribute a (mtName m) apos) es [] pos) (tBM X.K (mtT m) r to t)) :
    PE X (.Call (.Attribute a (mtName m) apos) es [] pos) (tE g W (ev C G (.mth m ea cs))) :=
  (rule (mt_all hK hu m) ha hr).weak fun σ H Q ⟨M, env, h, re, rh, w⟩ => by
    rw [ev] at w
    refine tE.of re rh (wq_bind w) id fun x h1 M1 v H1 o1 w => ?_
    obtain ⟨y, e2, w⟩ := wq_of w
    obtain ⟨u, e3, w⟩ := wq_of w
    refine ⟨mtTy_ok e3 (o1.rd e2), tAr.of (re.sx o1.sx) o1.rh (wq_bind w) (XP.sx o1.sx) fun xs h2 M2 vs H2 s2 rh2 r2 w => ?_⟩
    obtain ⟨y2, e5, w⟩ := wq_of w
    obtain ⟨r, e6, w⟩ := wq_of w
    exact ⟨M2, _, y2, xs, r, rh2, o1.rdL s2 rh2 e5, r2, e6, fun w' H3 o3 => wq_ok w M2 _ _ (Out.before (o1.sx.trans s2) o3)⟩
theorem e_mut {m : Mu} {es : List Expr} (hu : X.A.units + 1 < cLine) (ha : PE X a (tE g W (ev C G ea))) (hr : PA X es (tAr g W (relP g.toGc) (evs C G cs)))
    (rule : ∀ {to : TE} {t : TA} {r : V → List V → Hp → VK → Prop}, MtR X (muId m) r → PE X a to → PA X es t → PE X (.Call (.Attribute a (muName m) apos) es [] pos) (tBM X.K (muT m) r to t)) :
    PE X (.Call (.Attribute a (muName m) apos) es [] pos) (tE g W (ev C G (.mut m ea cs))) :=
  (rule (mu_all (g := g.toGc) hu m) ha hr).weak fun σ H Q ⟨M, env, h, re, rh, w⟩ => by
    rw [ev] at w
    refine tE.of re rh (wq_bind w) id fun x h1 M1 v H1 o1 w => ?_
    obtain ⟨y, e2, w⟩ := wq_of w
    obtain ⟨u, e3, w⟩ := wq_of w
    refine ⟨muTy_ok e3 (o1.rd e2), tAr.of (re.sx o1.sx) o1.rh (wq_bind w) (XP.sx o1.sx) fun xs h2 M2 vs H2 s2 rh2 r2 w => ?_⟩
    unfold muAt at w
    cases e0 : x.pl with
    | none => rw [e0] at w; exact w.elim
    | some kk =>
      cases e5 : h2.get kk with
      | none => rw [e0] at w; simp only [Option.bind_eq_bind, Option.bind_some, e5, Option.bind_none] at w; exact w.elim
      | some q =>
        cases e6 : muP m q xs with
        | none => rw [e0] at w; simp only [Option.bind_eq_bind, Option.bind_some, e5, e6, Option.bind_none] at w; exact w.elim
        | some p =>
          rw [e0] at w
          simp only [Option.bind_eq_bind, Option.bind_some, e5, e6] at w
          obtain ⟨b, rfl, eb⟩ := o1.plc e0
          exact ⟨M2, _, kk, b, q, xs, p, rh2, rfl, s2.at eb, e5, r2, e6, fun w' H3 s3 rh3 rp => wq_ok w M2 _ _ ⟨(o1.sx.trans s2).trans s3, rh3, rp⟩⟩
end
end EV

set_option Elab.async false
set_option linter.all false
set_option maxRecDepth 100000
/-! EvO: more built-ins: all, any, sorted, dict, isinstance -/
namespace EV
open PySem PySem.Spec PyProof.Rows L2

theorem risingS_pw : ∀ {r : List Str} {p : Str}, risingS p r = true → (∀ x ∈ r, p.cps.toList ≤ x.cps.toList) ∧ r.Pairwise (fun a b => a.cps.toList ≤ b.cps.toList)
  | [], _, _ => ⟨fun _ h => (nomatch h), .nil⟩
  | x :: r, p, h => by
    unfold risingS at h
    rw [Bool.and_eq_true] at h
    obtain ⟨h1, h2⟩ := risingS_pw h.2
    have le : p.cps.toList ≤ x.cps.toList := by
      have q := h.1
      rw [Bool.not_eq_true'] at q
      refine List.not_lt.mp fun z => ?_
      rw [ltCps_eq] at q
      rw [decide_eq_true z] at q; cases q
    exact ⟨fun y hy => by
      rcases List.mem_cons.mp hy with rfl | hy
      · exact le
      · exact List.le_trans le (h1 y hy), .cons h1 h2⟩
theorem sortedS_pw {r : List Str} (h : sortedS r = true) : r.Pairwise (fun a b => a.cps.toList ≤ b.cps.toList) := by
  cases r with
  | nil => exact .nil
  | cons x r => obtain ⟨h1, h2⟩ := risingS_pw h; exact .cons h1 h2
theorem str_ext' {a b : Str} (h : a.cps.toList = b.cps.toList) : a = b := by
  cases a; cases b
  simp only at h
  congr 1
  exact Array.toList_inj.mp h
theorem sortS_pw (l : List Str) : (sortS l).Pairwise (fun a b => a.cps.toList ≤ b.cps.toList) := by
  have := List.pairwise_mergeSort (le := fun (a b : Str) => decide (a.cps.toList ≤ b.cps.toList)) (fun a b c h1 h2 => by
    simp only [decide_eq_true_eq] at h1 h2 ⊢; exact List.le_trans h1 h2) (fun a b => by
    simp only [Bool.or_eq_true, decide_eq_true_eq]; exact List.le_total _ _) l
  exact this.imp fun h => by simpa using h
theorem sortS_perm (l : List Str) : (sortS l).Perm l := List.mergeSort_perm _ _
theorem sorted_is {l ys : List Str} (h1 : ys.Perm l) (h2 : sortedS ys = true) : ys = sortS l :=
  (h1.trans (sortS_perm l).symm).eq_of_pairwise (fun a b _ _ h1 h2 => str_ext' (List.le_antisymm h1 h2)) (sortedS_pw h2) (sortS_pw l)
section
variable {X : Cx} {g : Gc} {M : Mp} {H : Hp}
theorem lst_read {v : V} {l : List P} (r : RdV g M H v (.lst l)) : ∃ a vs, v = .ref a ∧ H a = some (.lst vs) ∧ RPs g (NM M) H vs l := r.lst
theorem all_all (hc : X.calm = true) : CallR X (.builtin "all") (rBlt g (bltP .all)) := by
  intro pins s σ H vs us Q I r ⟨M, h, xs, rr, rh, rd, e, k⟩
  unfold bltP at e
  split at e <;> first
    | (cases e; done)
    | contradiction
    | skip
  simp only [Option.map_eq_some_iff] at e
  obtain ⟨bs, e1, rfl⟩ := e
  have e2 := asBls_map e1
  subst e2
  obtain ⟨v, rfl, d⟩ := rd.one
  obtain ⟨a, ws, rfl, ha, rs⟩ := d.lst
  cases bls_V rs
  exact cr_all hc pins s σ H _ us Q I r ⟨a, bs, rfl, SqL.of ha, k _ _ (Out.val rh .bl)⟩
theorem any_all (hc : X.calm = true) : CallR X (.builtin "any") (rBlt g (bltP .any)) := by
  intro pins s σ H vs us Q I r ⟨M, h, xs, rr, rh, rd, e, k⟩
  unfold bltP at e
  split at e <;> first
    | (cases e; done)
    | contradiction
    | skip
  simp only [Option.map_eq_some_iff] at e
  obtain ⟨bs, e1, rfl⟩ := e
  have e2 := asBls_map e1
  subst e2
  obtain ⟨v, rfl, d⟩ := rd.one
  obtain ⟨a, ws, rfl, ha, rs⟩ := d.lst
  cases bls_V rs
  exact cr_any hc pins s σ H _ us Q I r ⟨a, bs, rfl, SqL.of ha, k _ _ (Out.val rh .bl)⟩
theorem keysS_V {N : Nx} : ∀ {l : List (Key × P)} {ks : List Str} {vs : List (Key × V)}, keysS l = some ks → RKs g N H vs l → vs.map (·.1) = ks.map Sum.inr
  | [], _, _, e, .nil => by cases e; rfl
  | (.inr k, _) :: l, ks, _, e, .cons r b => by
    unfold keysS at e
    simp only [Option.map_eq_some_iff] at e
    obtain ⟨zs, e1, rfl⟩ := e
    simp only [List.map_cons]
    rw [keysS_V e1 b]
  | (.inl k, _) :: l, ks, _, e, _ => by cases e
theorem sorted_all (hc : X.calm = true) : CallR X (.builtin "sorted") (rBlt g (bltP .sorted)) := by
  intro pins s σ H vs us Q I r ⟨M, h, xs, rr, rh, rd, e, k⟩
  unfold bltP at e
  split at e <;> first
    | (cases e; done)
    | contradiction
    | skip
  · simp only [Option.bind_eq_some_iff] at e
    obtain ⟨ks, e1, e⟩ := e
    split at e
    · rename_i hl
      cases e
      obtain ⟨v, rfl, d⟩ := rd.one
      obtain ⟨a, ws, rfl, ha, rs⟩ := d.dic
      refine call_sortedD hc pins s σ H _ us Q I r ⟨a, ws, ks, rfl, .inl ha, keysS_V e1 rs, hl, fun ys p h1 h2 hp => ?_⟩
      rw [sorted_is h1 h2]
      exact k _ _ (Out.newLst rh hp (strs_RPs _))
    · cases e
  · simp only [Option.bind_eq_some_iff] at e
    obtain ⟨ks, e1, e⟩ := e
    split at e
    · rename_i hl
      cases e
      have e2 := asStrs_map e1
      subst e2
      obtain ⟨v, rfl, d⟩ := rd.one
      obtain ⟨a, ws, rfl, ha, rs⟩ := d.lst
      cases strs_V rs
      refine cr_sortedS pins s σ H _ us Q I r ⟨a, ks, rfl, SqL.of ha, hl, fun ys p h1 h2 hp => ?_⟩
      rw [sorted_is h1 h2]
      exact k _ _ (Out.newLst rh hp (strs_RPs _))
    · cases e
theorem asPairs_V {N : Nx} : ∀ {l : List P} {kvs : List (Key × P)} {vs : List V}, asPairs l = some kvs → RPs g N H vs l → ∃ ps ws, vs = ps.map V.ref ∧ Paired (fun p kv => SqT g.K H p [kV kv.1, kv.2]) ps ws ∧ RKs g N H ws kvs
  | [], _, _, e, .nil => by cases e; exact ⟨[], [], rfl, .nil, .nil⟩
  | p :: l, kvs, _, e, .cons (v := v) a b => by
    unfold asPairs at e
    split at e
    · rename_i heq; cases heq
    · rename_i k' v' rr heq
      cases heq
      simp only [Option.bind_eq_some_iff, Option.map_eq_some_iff] at e
      obtain ⟨key, e1, ks, e2, rfl⟩ := e
      obtain ⟨ps, ws, e3, e4, e5⟩ := asPairs_V e2 b
      cases a with
      | tup hT rT =>
        obtain ⟨w1, w2, rfl, r1, r2⟩ := rT.two
        have e6 : w1 = kV key := by
          cases k' with
          | int i => cases e1; cases r1; rfl
          | str i => cases e1; cases r1; rfl
          | _ => cases e1
        subst e6
        exact ⟨_ :: ps, (key, w2) :: ws, by rw [e3]; rfl, .cons hT.sq e4, .cons r2 e5⟩
    · cases e
theorem RKs.merge {N : Nx} : ∀ {ws : List (Key × V)} {kvs : List (Key × P)} {as : List (Key × V)} {bs : List (Key × P)}, RKs g N H ws kvs → RKs g N H as bs → RKs g N H (mergeK as ws) (kmerge bs kvs)
  | _, _, _, _, .nil, r => r
  | _, _, _, _, .cons (vs := vs) (ps := ps) a b, r => RKs.merge (ws := vs) (kvs := ps) b (RKs.put _ a r)
theorem dict_all (hK : g.K = X.K) (hc : X.calm = true) : CallR X (.type "dict") (rBlt g (bltP .dict)) := by
  intro pins s σ H vs us Q I r ⟨M, h, xs, rr, rh, rd, e, k⟩
  unfold bltP at e
  split at e <;> first
    | (cases e; done)
    | contradiction
    | skip
  simp only [Option.map_eq_some_iff] at e
  obtain ⟨kvs, e1, rfl⟩ := e
  obtain ⟨v, rfl, d⟩ := rd.one
  obtain ⟨a, ws, rfl, ha, rs⟩ := d.lst
  obtain ⟨ps, zs, rfl, hp, rk⟩ := asPairs_V e1 rs
  rw [hK] at hp
  exact call_dictP hc pins s σ H _ us Q I r ⟨a, ps, zs, rfl, SqL.of ha, hp, fun p hp => k _ _ (Out.newDic rh hp (RKs.merge rk .nil))⟩
/-! ### isinstance -/
def tyP (g : Gc) : P → Value
  | .non => .type "NoneType" | .bl _ => .type "bool" | .int _ => .type "int" | .str _ => .type "str" | .tup _ => .type "tuple" | .lst _ => .type "list" | .flst _ => .type "list"
  | .dic _ => .type "dict" | .obj c _ => .ref (g.ca c) | .cl _ => .none | .hf _ => .none
def tyT (g : Gc) : Ty → Value
  | .int => .type "int" | .str => .type "str" | .bool => .type "bool" | .list => .type "list" | .tuple => .type "tuple" | .cls n => .ref (g.ca n) | .exc n => .type (excN.getD n "")
/-- what the text says of its classes, for isinstance -/
structure CkOk (g : Gc) (K : PySem.W.Frag) (ck : Nat → Ty → Option Bool) (cb : Ty → Option Bool) : Prop where
  own : ∀ c t b, ck c t = some b → PySem.W.kitOne K (.ref (g.ca c)) (tyT g t) = some b ∧ Cls K (g.ca c) ∧ PySem.W.findIn K (.ref (g.ca c)) "__class__" = some (some (.builtin "object.__class__")) ∧
    PySem.W.specialIn K (.builtin "object.__class__") "__get__" = some (some (.builtin "getset_descriptor.__get__")) ∧ PySem.W.takesIn K (.builtin "object.__class__") = some true ∧ PySem.W.mroIn K (g.ca c) (.type "object") = some true
  blt : ∀ t b, cb t = some b → ∀ n ∈ ["NoneType", "bool", "int", "str", "tuple", "list", "dict"], PySem.W.kitOne K (.type n) (tyT g t) = some b
theorem kit_blt {n : String} {t : Ty} {b : Bool} {K : PySem.W.Frag} (h : ∀ k, t ≠ .cls k) (h2 : ∀ k, t ≠ .exc k) (e : kitB n (match t with | .int => "int" | .str => "str" | .bool => "bool" | .list => "list" | .tuple => "tuple" | .cls _ => "" | .exc _ => "") = some b) : PySem.W.kitOne K (.type n) (tyT g t) = some b := by
  cases t with
  | cls k => exact absurd rfl (h k)
  | exc k => exact absurd rfl (h2 k)
  | _ => exact kit_ty e
theorem isiP_ok {ck : Nat → Ty → Option Bool} {cb : Ty → Option Bool} {K : PySem.W.Frag} (hK : g.K = K) (ok : CkOk g K ck cb) {v : V} {y : P} {t : Ty} {b : Bool} (r : RdV g M H v y) (e : isiP ck cb y t = some b) : TyX K H v (tyP g y) ∧ PySem.W.kitOne K (tyP g y) (tyT g t) = some b := by
  have ty : (∀ c l, y = .obj c l → Cls K (g.ca c) ∧ PySem.W.findIn K (.ref (g.ca c)) "__class__" = some (some (.builtin "object.__class__")) ∧
    PySem.W.specialIn K (.builtin "object.__class__") "__get__" = some (some (.builtin "getset_descriptor.__get__")) ∧ PySem.W.takesIn K (.builtin "object.__class__") = some true ∧ PySem.W.mroIn K (g.ca c) (.type "object") = some true) → (∀ n, y ≠ .cl n) → (∀ n, y ≠ .hf n) → TyX K H v (tyP g y) := fun ho hc hh => by
    cases y with
    | non => rw [r.non]; exact .base .non
    | bl b => rw [r.bl]; exact .base (.bl b)
    | int i => rw [r.int]; exact .base (.int i)
    | str s => rw [r.str]; exact .base (.str s)
    | tup l =>
      rcases r with r | ⟨_, _, r⟩
      · cases r with
        | tup hT _ =>
          rcases hT with ⟨_, hT | ⟨o, hT⟩⟩ | ⟨o, _, _, h1, h2, _⟩
          · exact .base (.tup hT)
          · exact .fTuple hT
          · exact .kTuple (by rw [← hK]; exact h1) h2
      · exact r.elim
    | lst l => obtain ⟨a, vs, rfl, h, _⟩ := r.lst; exact .base (.lst h)
    | flst l =>
      rcases r with r | ⟨_, _, r⟩
      · cases r with
        | flst hT _ =>
          rcases hT with ⟨_, hT | ⟨o, hT⟩⟩ | ⟨o, _, _, h1, h2, _⟩
          · exact .base (.lst hT)
          · exact .base (.frz hT)
          · exact .kList (by rw [← hK]; exact h1) h2
      · exact r.elim
    | dic l => obtain ⟨a, vs, rfl, h, _⟩ := r.dic; exact .base (.dK h)
    | obj c l =>
      obtain ⟨a, dx, vs, rfl, h, _⟩ := r.obj
      obtain ⟨h1, h2, h3, h4, h5⟩ := ho c l rfl
      exact .base (.ins h h1 h2 h3 h4 h5)
    | cl n => exact absurd rfl (hc n)
    | hf n => exact absurd rfl (hh n)
  have own : ∀ c l, y = .obj c l → ck c t = some b → TyX K H v (tyP g y) ∧ PySem.W.kitOne K (tyP g y) (tyT g t) = some b := fun c l ey ec => by
    obtain ⟨h0, h1⟩ := ok.own c t b ec
    refine ⟨ty (fun c' l' e' => by rw [ey] at e'; cases e'; exact h1) (fun n e' => by rw [ey] at e'; cases e') (fun n e' => by rw [ey] at e'; cases e'), ?_⟩
    rw [ey]; exact h0
  have notobj : (∀ c l, y ≠ .obj c l) → (∀ n, y ≠ .cl n) → (∀ n, y ≠ .hf n) → TyX K H v (tyP g y) := fun h1 h2 h3 => ty (fun c l e => absurd e (h1 c l)) h2 h3
  cases t with
  | exc n => cases e
  | cls n =>
    cases y with
    | obj c l => exact own c l rfl e
    | cl n => cases e
    | hf n => cases e
    | non => exact ⟨notobj (fun _ _ z => nomatch z) (fun _ z => nomatch z) (fun _ z => nomatch z), ok.blt _ _ e _ (by decide)⟩
    | bl b => exact ⟨notobj (fun _ _ z => nomatch z) (fun _ z => nomatch z) (fun _ z => nomatch z), ok.blt _ _ e _ (by decide)⟩
    | int i => exact ⟨notobj (fun _ _ z => nomatch z) (fun _ z => nomatch z) (fun _ z => nomatch z), ok.blt _ _ e _ (by decide)⟩
    | str s => exact ⟨notobj (fun _ _ z => nomatch z) (fun _ z => nomatch z) (fun _ z => nomatch z), ok.blt _ _ e _ (by decide)⟩
    | tup l => exact ⟨notobj (fun _ _ z => nomatch z) (fun _ z => nomatch z) (fun _ z => nomatch z), ok.blt _ _ e _ (by decide)⟩
    | lst l => exact ⟨notobj (fun _ _ z => nomatch z) (fun _ z => nomatch z) (fun _ z => nomatch z), ok.blt _ _ e _ (by decide)⟩
    | flst l => exact ⟨notobj (fun _ _ z => nomatch z) (fun _ z => nomatch z) (fun _ z => nomatch z), ok.blt _ _ e _ (by decide)⟩
    | dic l => exact ⟨notobj (fun _ _ z => nomatch z) (fun _ z => nomatch z) (fun _ z => nomatch z), ok.blt _ _ e _ (by decide)⟩
  | _ =>
    cases y with
    | obj c l => exact own c l rfl e
    | cl n => cases e
    | hf n => cases e
    | flst l => cases e
    | _ => cases e; exact ⟨notobj (fun _ _ z => nomatch z) (fun _ z => nomatch z) (fun _ z => nomatch z), kit_blt (fun _ z => nomatch z) (fun _ z => nomatch z) (by decide +kernel)⟩
end
end EV

set_option Elab.async false
set_option linter.all false
set_option maxRecDepth 100000
set_option maxHeartbeats 4000000
/-! EvX: own exception classes over Exception whose __init__ stores its arguments -/
namespace PySem
namespace EvX
open PySem.W PySem.Calls PyProof.Rows PySem.HandSPX
section
open Builtin Builtin.ObjectAttr
variable {prog : Program} {w : World} {A : Around} {E : Value → Shared → Prop} {R : Result → Shared → Prop} {hp : Heap} {g : Array GenState} {d : Drawn} {t : Nat} {os : OsState} {bmB : List Value} {B : String}
/-- the first field of a fresh exception -/
theorem osa_first {K : W.Frag} {name : Str} {tk : Tok} {v : Value} {x C : Addr} {fv : Array Value} (SF : StoreFacts B bmB "object.__setattr__" "object") (X : K.In hp) (hx : hp.get? x = some { cls := .ref C, data := .fields fv }) (ov : excOver K C bmB = true) (hh : hasDictIn K C = true) (ha : takerIn K C name = some none)
    (hq : ∀ h' tk' dx, (∀ b o, b ≠ x → hp.get? b = some o → h'.get? b = some o) → hp.objs.size ≤ dx → dx ≠ x → h'.get? x = some { cls := .ref C, dict := some dx, data := .fields fv } →
      h'.Ns1 dx (fun y => if y = name then some v else none) → R (.ok (.ret .none)) ⟨h', g, d, tk', os⟩) :
    codeAny (model prog w) A (.call (.builtin "object.__setattr__") ⟨[.ref x, .str name tk, v], []⟩) R ⟨hp, g, d, t, os⟩ := by
  have I : W.InstAt hp x { cls := .ref C, data := .fields fv } C none := ⟨hx, rfl, rfl, trivial⟩
  have hxs : x ≠ hp.objs.size := Nat.ne_of_lt (Heap.lt_size hx)
  refine osa_openX (s := ⟨hp, g, d, t, os⟩) SF X I ov ha fun b => ?_
  show wpAny _ _ (storeInOwnDict (.ref x) (.ref C) (.str name tk) name v b) _ _ _
  obtain ⟨cd, hcd, hd⟩ := any_some hh
  have hcls : W.Looks (model prog w) hp (classData C) cd := W.looks_clsIn X hcd
  obtain ⟨nm, bs, mro, ns, qn, hd', sn, sb, ab, col, del⟩ := cd
  dsimp only at hd
  subst hd
  unfold storeInOwnDict ownDictForStores
  repeat (first | with_reducible refine store_in_new ?_ ?_ | with_reducible refine wpAny_loadPart_at hx ?_ | with_reducible refine hcls.at ?_ | wp_step)
  · exact ⟨_, #[], _, (Heap.get?_update_ne _ _ _ _ hxs.symm).trans (Heap.get?_push_at rfl rfl), rfl, fun e he => absurd he (by simp), fun _ => rfl⟩
  · intro h' tk' hn' hs
    have hx₁ : (hp.push { cls := .type "dict", data := .dict #[] }).get? x = some { cls := .ref C, data := .fields fv } := Heap.get?_push_of_some _ hx
    refine hq h' tk' hp.objs.size (fun b o hb ho => ?_) (Nat.le_refl _) hxs.symm ?_ hn'
    · exact (hs.2 b (Nat.ne_of_lt (Heap.lt_size ho))).trans ((Heap.get?_update_ne _ _ _ _ hb).trans (Heap.get?_push_of_some _ ho))
    · exact (hs.2 x hxs).trans (Heap.get?_update_self _ hx₁ rfl)
/-- a further one -/
theorem osa_more {K : W.Frag} {name : Str} {tk : Tok} {v : Value} {x C dx : Addr} {fv : Array Value} {m0 : Str → Option Value} {nl : List Str} (SF : StoreFacts B bmB "object.__setattr__" "object")
    (X : K.In hp) (hx : hp.get? x = some { cls := .ref C, dict := some dx, data := .fields fv }) (hns : hp.Ns1 dx m0) (hw : Within m0 nl) (hz : nl.length ≤ 1000) (ov : excOver K C bmB = true) (hh : hasDictIn K C = true) (ha : takerIn K C name = some none)
    (hq : ∀ h' tk', (∀ b o, b ≠ dx → hp.get? b = some o → h'.get? b = some o) → h'.Ns1 dx (fun y => if y = name then some v else m0 y) → R (.ok (.ret .none)) ⟨h', g, d, tk', os⟩) :
    codeAny (model prog w) A (.call (.builtin "object.__setattr__") ⟨[.ref x, .str name tk, v], []⟩) R ⟨hp, g, d, t, os⟩ := by
  obtain ⟨oD, esD, epD, hoD, hdD, _⟩ := hns.count hw
  have I : W.InstAt hp x { cls := .ref C, dict := some dx, data := .fields fv } C (some oD) := ⟨hx, rfl, rfl, hoD⟩
  refine osa_openX (s := ⟨hp, g, d, t, os⟩) SF X I ov ha fun b => ?_
  show wpAny _ _ (storeInOwnDict (.ref x) (.ref C) (.str name tk) name v b) _ _ _
  obtain ⟨cd, hcd, hd⟩ := any_some hh
  have hcls : W.Looks (model prog w) hp (classData C) cd := W.looks_clsIn X hcd
  obtain ⟨nm, bs, mro, ns, qn, hd', sn, sb, ab, col, del⟩ := cd
  dsimp only at hd
  subst hd
  unfold storeInOwnDict ownDictForStores
  repeat (first | with_reducible refine PySem.OEX.store_in_old hns hw hz ?_ | with_reducible refine wpAny_loadPart_at hx ?_ | with_reducible refine hcls.at ?_ | wp_step)
  intro h' tk' hn' hs
  exact hq h' tk' (fun b o hb ho => (hs.2 b hb).trans ho) hn'
end
end EvX
end PySem

namespace EV
open PySem PySem.Spec PyProof.Rows L2
def visB (sc : Scope) (x : Str) : Bool := (match sc.names.lookup x with | some .local => true | some .cell => true | some .free => true | _ => false) && !(x == ("__debug__" : Str)) && !(x == ("__classdict__" : Str))
theorem no {b : Bool} {A : Prop} (h : b = true) (e : b = false) : A := by rw [e] at h; cases h
theorem and2 {a b : Bool} (h : (a && b) = true) : a = true ∧ b = true := by rw [Bool.and_eq_true] at h; exact h
theorem and3 {a b c : Bool} (h : (a && b && c) = true) : a = true ∧ b = true ∧ c = true := by simp only [Bool.and_eq_true] at h; exact ⟨h.1.1, h.1.2, h.2⟩
theorem and4 {a b c d : Bool} (h : (a && b && c && d) = true) : a = true ∧ b = true ∧ c = true ∧ d = true := by simp only [Bool.and_eq_true] at h; exact ⟨h.1.1.1, h.1.1.2, h.1.2, h.2⟩
theorem and5 {a b c d e : Bool} (h : (a && b && c && d && e) = true) : a = true ∧ b = true ∧ c = true ∧ d = true ∧ e = true := by simp only [Bool.and_eq_true] at h; exact ⟨h.1.1.1.1, h.1.1.1.2, h.1.1.2, h.1.2, h.2⟩
theorem and6 {a b c d e f : Bool} (h : (a && b && c && d && e && f) = true) : a = true ∧ b = true ∧ c = true ∧ d = true ∧ e = true ∧ f = true := by simp only [Bool.and_eq_true] at h; exact ⟨h.1.1.1.1.1, h.1.1.1.1.2, h.1.1.1.2, h.1.1.2, h.1.2, h.2⟩
theorem and7 {a b c d e f g : Bool} (h : (a && b && c && d && e && f && g) = true) : a = true ∧ b = true ∧ c = true ∧ d = true ∧ e = true ∧ f = true ∧ g = true := by simp only [Bool.and_eq_true] at h; exact ⟨h.1.1.1.1.1.1, h.1.1.1.1.1.2, h.1.1.1.1.2, h.1.1.1.2, h.1.1.2, h.1.2, h.2⟩
theorem and8 {z a b c d e f g : Bool} (h : (z && a && b && c && d && e && f && g) = true) : z = true ∧ a = true ∧ b = true ∧ c = true ∧ d = true ∧ e = true ∧ f = true ∧ g = true := by simp only [Bool.and_eq_true] at h; exact ⟨h.1.1.1.1.1.1.1, h.1.1.1.1.1.1.2, h.1.1.1.1.1.2, h.1.1.1.1.2, h.1.1.1.2, h.1.1.2, h.1.2, h.2⟩
/-- what the text says of a def -/
structure DfOk (K : PySem.W.Frag) (st : Stmt) (qual : Str) (f : Addr) (fd : FuncData) : Prop where
  ex : ∃ (name : Str) (oc : Value) (od : Option Addr) (dV kV doc pm : Value) (an : Option Addr) (cdv ct : Value) (osl : Array (Option Value)),
    fd = PySem.W.fnOf name qual (defArgs st) (defBody st) (defScope st) dV kV doc pm an cdv ct ∧ K.lookup f = some ⟨oc, od, .func fd, osl⟩ ∧ PySem.W.codeIn K cdv qual = true
/-- Exception's own mro -/
abbrev bmE : List Value := [.type "Exception", .type "BaseException", .type "object"]
/-- what the written part says of an exception class at C whose __init__ stores these fields -/
structure XcC (K : PySem.W.Frag) (C : Addr) : Prop where
  q : PySem.W.excInitIn K C bmE "Exception.__new__" = true
  ov : PySem.W.excOver K C bmE = true
  hd : PySem.W.hasDictIn K C = true
  sa : PySem.W.findIn K (.ref C) "__setattr__" = some (some (.builtin "object.__setattr__"))
  exC : PySem.W.subIn K (.ref C) (.type "BaseException") = some true
  tyC : PySem.W.typeIn K (.ref C) = some (.type "type")
  kC : PySem.W.keepIn K (.ref C) = true
  no : ∀ f ∈ ([] : List Str), True
section
variable {X : Cx} {pins : List (Addr × Obj)} {σ : L2.St} {H : Hp} {s : Shared} {a C dx : Addr} {f : Str} {y : V} {u : Value} {fs : List (Str × V)} {Q : Unit → Shared → Prop} {E : Value → Shared → Prop} {A : Around}
theorem taker_of {K : PySem.W.Frag} (h : PySem.W.findIn K (.ref C) f = some none) : PySem.W.takerIn K C f = some none := by
  unfold PySem.W.takerIn; rw [h]; rfl
/-- self.f = y, the first one -/
theorem xst_new (T : XcC X.K C) (I : Inv X pins σ H s) (e : H a = some (exo a C none)) (hno : PySem.W.findIn X.K (.ref C) f = some none) (ry : RelV y u)
    (h : ∀ dx s', H dx = none → dx ≠ a → Inv X pins σ (upd (upd H dx (exd dx [(f, y)])) a (exo a C (some dx))) s' → Q () s') : wpAny (model X.prog X.w) A (setAttr (.ref a) f u) Q E s := by
  obtain ⟨t1, ho⟩ := exo_at I.hok e
  obtain ⟨hp, g, d, t, os⟩ := s
  refine PySem.W.set_plain I.kIn (ox := { cls := .ref C, dict := none, data := .fields #[.ref t1, .none, .none, .none, .bool false, .none] }) (od := none) ⟨ho, rfl, rfl, trivial⟩ T.sa ?_
  refine PySem.EvX.osa_first PySem.F.store_Exception I.kIn ho T.ov T.hd (taker_of hno) (fun h' tk' dx k dn dne hx hn => ?_)
  have hnd : H dx = none := I.hok.fresh dn
  have nd : ∀ {b : Addr} {o : Obj}, hp.get? b = some o → b ≠ dx := fun {b o} q => Nat.ne_of_lt (Nat.lt_of_lt_of_le (Heap.lt_size q) dn)
  have na : ∀ {b : Addr}, H b = none → b ≠ a := fun {b} n z => by
    rw [z, e] at n
    cases n
  have Un1 : Un X.fs [] H (upd (upd H dx (exd dx [(f, y)])) a (exo a C (some dx))) hp h' := {
    keep := fun b o q n _ _ => k b o (na n) q
    slot := fun b o q n _ _ => ⟨o.slots, k b o (na n) q⟩
    free := fun b o q n _ => by rw [upd_ne (na n), upd_ne (nd q)]; exact n
    there := fun b o q _ => by
      by_cases hb : b = a
      · exact ⟨_, by rw [hb]; exact hx⟩
      · exact ⟨o, k b o hb q⟩
    tups := fun b xs q => by rw [upd_ne (at_ne e q exo_tup), upd_ne (ne_of_none q hnd)]; exact q
    frzs := fun b o v q => by rw [upd_ne (at_ne e q exo_frz), upd_ne (ne_of_none q hnd)]; exact q
    tbls := fun b ps q => ⟨#[], by rw [upd_ne (at_ne e q exo_tbl), upd_ne (ne_of_none q hnd), q]; simp⟩ }
  refine h dx _ hnd dne (I.un (t' := tk') Un1 fun b o q => ?_)
  by_cases hb : b = a
  · subst hb
    rw [upd_same] at q
    cases q
    exact exo_ok hx
  · rw [upd_ne hb] at q
    by_cases hd : b = dx
    · subst hd
      rw [upd_same] at q
      cases q
      exact exd_ok hn (relO_put (fs := []) ry fun g => True.intro)
    · rw [upd_ne hd] at q
      exact (I.hok b o q).stay (fun c v hc z => k c v (by
          rcases hc with hc | hc
          · rw [hc]
            exact hb
          · exact at_ne e hc exo_own) z)
        (fun c hc => by rw [upd_ne (at_ne e hc exo_own), upd_ne (ne_of_none hc hnd)]; exact hc) (fun c xs hc => by rw [upd_ne (at_ne e hc exo_tup), upd_ne (ne_of_none hc hnd)]; exact hc)
/-- a further one -/
theorem xst_old (T : XcC X.K C) (I : Inv X pins σ H s) (e : H a = some (exo a C (some dx))) (ed : H dx = some (exd dx fs)) (hl : fs.length ≤ 900) (hno : PySem.W.findIn X.K (.ref C) f = some none) (ry : RelV y u)
    (h : ∀ s', Inv X pins σ (upd H dx (exd dx ((f, y) :: fs))) s' → Q () s') : wpAny (model X.prog X.w) A (setAttr (.ref a) f u) Q E s := by
  obtain ⟨t1, ho⟩ := exo_at I.hok e
  obtain ⟨mA, hns, rel⟩ := exd_at I.hok ed
  have hw := within_of rel
  obtain ⟨hp, g, d, t, os⟩ := s
  obtain ⟨oD, _, _, hoD, _, _⟩ := hns.count hw
  refine PySem.W.set_plain I.kIn (ox := { cls := .ref C, dict := some dx, data := .fields #[.ref t1, .none, .none, .none, .bool false, .none] }) (od := some oD) ⟨ho, rfl, rfl, hoD⟩ T.sa ?_
  refine PySem.EvX.osa_more PySem.F.store_Exception I.kIn ho hns hw (by rw [List.length_map]; omega) T.ov T.hd (taker_of hno) (fun h' tk' k hn => ?_)
  have hd : ∃ o, h'.get? dx = some o := by
    obtain ⟨o, _, _, e', _⟩ := hn
    exact ⟨o, e'⟩
  exact h _ (I.write (t' := tk') (x := dx) (e := dx) (o := exd dx ((f, y) :: fs)) (by rw [ed]; exact True.intro) (.inl rfl) k hd (exd_ok hn (relO_put ry rel)))
/-- self.f = e -/
def tXst (K : PySem.W.Frag) (f : Str) (to te : TE) : TS := fun D σ H => te σ H fun y H1 => to σ H1 fun x H2 => ∃ a C : Addr, x = .ref a ∧ XcC K C ∧ PySem.W.findIn K (.ref C) f = some none ∧
  ((H2 a = some (exo a C none) ∧ ∀ dx, H2 dx = none → dx ≠ a → D.nx σ (upd (upd H2 dx (exd dx [(f, y)])) a (exo a C (some dx)))) ∨
    ∃ (dx : Addr) (fs : List (Str × V)), H2 a = some (exo a C (some dx)) ∧ H2 dx = some (exd dx fs) ∧ fs.length ≤ 900 ∧ D.nx σ (upd H2 dx (exd dx ((f, y) :: fs))))
theorem ps_xst {o e : Expr} {to te : TE} {p' pos : Pos} (ho : PE X o to) (he : PE X e te) (hs : swapsWith e (some (.Attribute o f p')) pos.line X.env = pure false) : PS X (.Assign [.Attribute o f p'] e pos) (tXst X.K f to te) := by
  refine ⟨fun pins s σ H D I h => ?_⟩
  refine plainObj_wpAny_Assign_Attribute (thn (he.run pins s σ H _ I h) fun v s1 ⟨y, H1, I1, r1, q1⟩ => thn (ho.run pins s1 σ H1 _ I1 q1) fun u s2 ⟨x, H2, I2, r2, a, C, ex, T, hno, q⟩ => ?_) hs
  subst ex
  obtain rfl : u = Value.ref a := r2
  rcases q with ⟨ea, q⟩ | ⟨dx, fs, ea, ed, hl, q⟩
  · exact xst_new T I2 ea hno r1 fun dx s' n ne J => ⟨σ, _, J, q dx n ne⟩
  · exact xst_old T I2 ea ed hl hno r1 fun s' J => ⟨σ, _, J, q⟩
end
/-- C(e, ..), C's own __init__ keeping sp -/
theorem pmk_x {X : Cx} {CX : CXT} {x : Str} {e : Expr} {es : List Expr} {ta : TA} {p pos : Pos} {C fI : Addr} {k : Nat} {fd : FuncData} {ps : List Str} {sp : Sp} (T : XcC X.K C) (iC : PySem.W.findIn X.K (.ref C) "__init__" = some (some (.ref fI))) (tI : PySem.W.typeIn X.K (.ref fI) = some (.type "function"))
    (F1 : FnOk X.prog X.w X.K X.mg X.base CX k fI fd ps sp) (hr : Room (k + 1) X.A) (hb : Binds X.K fd ps []) (hx : Passes CX X (fun _ _ _ => False)) (hg : Gl X x) (hm : X.mg x = some (.ref C)) (ha : PA X (e :: es) ta)
    (hdb : (x == ("__debug__" : Str)) = false) (he : starEach (e :: es) X.env = (false, eval e X.env) :: starEach es X.env) (hpl : (backTo pos (starEach es X.env)).any (·.1) = false) :
    L2N.PMk X (.Call (.Name x p) (e :: es) [] pos) (tMkO C sp [] ta) := by
  intro pins s σ H Q I h
  refine wpAny_Call_Name_kw (ld_glob I hg hm ?_ hdb)
  refine PySem.W.callWith_K (h₀ := X.base) I.ok.mod.kin T.kC (thn (ha.run pos pins s σ H _ I h) fun us s1 ⟨vs, H1, I1, r1, hz, q1⟩ => ⟨I1.kIn, ?_⟩) he hpl
  obtain ⟨nm, N, q, bs, bm, hdct, sn, sub, ab, col, dd, k0, k1, k2, k3, k5, hC, hbm⟩ := PySem.W.excInit_of I1.kIn T.q
  show wpAny _ _ (call (.ref C) us) _ _ _
  obtain ⟨hp, g, dr, tk, os⟩ := s1
  have hsz : hp.objs.size ≤ hp.objs.size + 1 := Nat.le_succ _
  have hn : H1 (hp.objs.size + 1) = none := I1.hok.fresh hsz
  have hq := q1 (hp.objs.size + 1) hn
  rw [List.append_nil] at hq
  have kk : ∀ b o, hp.get? b = some o → ((hp.push (PySem.W.kdv_tup us)).push (PySem.HandSPX.excO C hp.objs.size)).get? b = some o := fun b o e => Heap.get?_push_of_some _ (Heap.get?_push_of_some _ e)
  have hget : ((hp.push (PySem.W.kdv_tup us)).push (PySem.HandSPX.excO C hp.objs.size)).get? (hp.objs.size + 1) = some (PySem.HandSPX.excO C hp.objs.size) := by heap_get
  have I2 : Inv X pins σ (upd H1 (hp.objs.size + 1) (exo (hp.objs.size + 1) C none)) ⟨(hp.push (PySem.W.kdv_tup us)).push (PySem.HandSPX.excO C hp.objs.size), g, dr, tk, os⟩ :=
    I1.laid (t' := tk) (a := hp.objs.size + 1) (o := exo (hp.objs.size + 1) C none) (h' := (hp.push (PySem.W.kdv_tup us)).push (PySem.HandSPX.excO C hp.objs.size)) kk hsz (exo_ok hget)
  have r2 : Vals (V.ref (hp.objs.size + 1) :: vs) (Value.ref (hp.objs.size + 1) :: us) := .cons rfl r1
  have hl : (Value.ref (hp.objs.size + 1) :: us ++ []).length = ps.length := by
    have e := r2.length
    rw [F1.len _ _ _ _ hq] at e
    rw [List.append_nil]
    exact e.symm
  have hus : us.length ≤ sizeLine := by
    rw [← Paired.length r1, sizeLine_eq]
    omega
  have b2 := hb _ (Value.ref (hp.objs.size + 1) :: us) I2.kIn hl
  rw [List.append_nil] at b2
  refine wpAny_call (PySem.HandSPX.call_own F.excBase_Exception hbm hC (PySem.W.looks_findIn I1.kIn iC) (fun self => PySem.W.bind_fn I1.kIn self tI) hus
    (codeAny_mono (F1.run _ X.stack _ _ ⟨Value.ref (hp.objs.size + 1) :: us, []⟩ (Value.ref (hp.objs.size + 1) :: us) _ _ (fun _ _ _ => False) (hr.make C us []) (I2.env0.make C us []) b2 r2 hq) fun r s' hq' => ?_))
  cases r with
  | error er => exact hx pins σ _ _ er s' I2 hq'
  | ok fl =>
    cases fl with
    | ret u =>
      obtain ⟨v, H2, os2, bare2, un2, hok2, rv, ev, d, fs, ea, ed, hd1, q2⟩ := hq'
      subst ev
      obtain ⟨h2, g2, d2, t2, os'⟩ := s'
      obtain ⟨t0, G, J, kG, ge, hoe, na⟩ := mk_end0 (d2 := d2) (t2 := t2) I1 hsz kk un2 hok2 os2 bare2 ea ed hd1
      exact ⟨rv, ⟨hp.objs.size + 1, _, _, ⟨G, g2, d2, t2, os'⟩, _, .ref C, some d, rfl, J, kG, ge, hoe, ⟨rfl, rfl, fun vs hv => by cases hv; rfl⟩, rfl, rfl, na, rfl, bare2, raises_own T.exC T.tyC, q2⟩⟩
    | next => exact False.elim hq'
    | brk => exact False.elim hq'
    | cont => exact False.elim hq'
end EV

set_option Elab.async false
set_option linter.all false
set_option maxRecDepth 100000
set_option maxHeartbeats 4000000
/-! EvY: an exception's __init__ that stores its arguments; raise -/
namespace EV
open PySem PySem.Spec PyProof.Rows L2

/-- s.f = x -/
def xAsg : Stmt → Option (Str × Str × Str)
  | .Assign [.Attribute (.Name s _) f _] (.Name x _) _ => some (s, f, x)
  | _ => none
theorem xAsg_ok {st : Stmt} {s f x : Str} (h : xAsg st = some (s, f, x)) : ∃ p1 p2 p3 p4, st = .Assign [.Attribute (.Name s p1) f p2] (.Name x p3) p4 := by
  unfold xAsg at h
  split at h
  · cases h; exact ⟨_, _, _, _, rfl⟩
  · cases h
/-- self.f1 = a1; self.f2 = a2; .. -/
def chkX (N : List Str) (sc : Scope) : List Str → Nat → List Stmt → Bool
  | [], _, [] => true
  | f :: fs, i, st :: r => (match xAsg st with
    | some (s, f', x) => decide (N[0]? = some s) && decide (f = f') && decide (N[i]? = some x) && visB sc s && visB sc x
    | none => false) && chkX N sc fs (i + 1) r
  | _, _, _ => false
def tXs (K : PySem.W.Frag) : List Str → Nat → TS
  | [], _ => fun D σ H => D.nx σ H
  | f :: fs, i => fun D σ H => tXst K f (tVar 0) (tVar i) { D with nx := tXs K fs (i + 1) D } σ H
theorem vis_b {X : Cx} {x : Str} (h : visB X.env.scope x = true) : Vis X.env.scope x ∧ (x == ("__debug__" : Str)) = false ∧ (x == ("__classdict__" : Str)) = false := by
  unfold visB at h
  simp only [Bool.and_eq_true, Bool.not_eq_true'] at h
  refine ⟨?_, h.1.2, h.2⟩
  have q := h.1.1
  split at q <;> first | exact .inl (by assumption) | exact .inr (.inl (by assumption)) | exact .inr (.inr (by assumption)) | cases q
theorem ps_xs {X : Cx} : ∀ {fs : List Str} {i : Nat} {body : List Stmt}, chkX X.N X.env.scope fs i body = true → PSs X body (tXs X.K fs i)
  | [], _, [], _ => pss_nil
  | [], _, _ :: _, h => no h rfl
  | f :: fs, i, [], h => no h rfl
  | f :: fs, i, st :: r, h => by
    obtain ⟨ha, hb⟩ := and2 h
    cases e : xAsg st with
    | none => rw [e] at ha; cases ha
    | some t =>
      obtain ⟨s, f', x⟩ := t
      rw [e] at ha
      obtain ⟨p1, p2, p3, p4, rfl⟩ := xAsg_ok e
      obtain ⟨h1, h2, h3, h4, h5⟩ := and5 ha
      have e := of_decide_eq_true h2
      subst e
      obtain ⟨v1, v2, v3⟩ := vis_b h4
      obtain ⟨w1, w2, w3⟩ := vis_b h5
      exact pss_cons (ps_xst (pe_var (of_decide_eq_true h1) v1 v2 v3) (pe_var (of_decide_eq_true h3) w1 w2 w3) rfl) (ps_xs hb)
/-- behind __init__: the exception at a has the dict d, where its fields stand -/
structure XEnd (H : Hp) (a C d : Addr) (fs : List (Str × V)) (H' : Hp) : Prop where
  ea : H' a = some (exo a C (some d))
  ed : H' d = some (exd d fs)
  nd : H d = none
  ne : d ≠ a
  keep : ∀ b, b ≠ a → b ≠ d → H' b = H b
def spX (C : Addr) (F : List Str) : Sp := fun vs H Q _ => ∃ (a : Addr) (ws : List V), vs = .ref a :: ws ∧ ws.length = F.length ∧ H a = some (exo a C none) ∧ ∀ d H', XEnd H a C d (F.zip ws).reverse H' → Q .non H'
theorem xs_more {K : PySem.W.Frag} {C a d : Addr} {H0 : Hp} (T : XcC K C) {D : Ends} {σ : L2.St} (h0 : σ[0]? = some (some (.ref a))) : ∀ {F : List Str} {i : Nat} {ws : List V} {acc : List (Str × V)} {H : Hp}, (∀ f ∈ F, PySem.W.findIn K (.ref C) f = some none) → ws.length = F.length → (∀ (j : Nat) v, ws[j]? = some v → σ[i + j]? = some (some v)) →
    XEnd H0 a C d acc H → acc.length + F.length ≤ 900 → (∀ H', XEnd H0 a C d ((F.zip ws).reverse ++ acc) H' → D.nx σ H') → tXs K F i D σ H
  | [], _, ws, acc, H, _, _, _, x, _, k => k H (by simpa using x)
  | f :: F, i, [], acc, H, _, hl, _, _, _, _ => by simp at hl
  | f :: F, i, v :: ws, acc, H, no, hl, hv, x, hle, k => by
    refine ⟨v, by have := hv 0 v rfl; simpa using this, .ref a, h0, a, C, rfl, T, no f (by simp), .inr ⟨d, acc, x.ea, x.ed, by simp at hle; omega, ?_⟩⟩
    refine xs_more (acc := (f, v) :: acc) T h0 (fun g hg => no g (by simp [hg])) (by simpa using hl) (fun j u hu => by have := hv (j + 1) u (by simpa using hu); rw [show i + 1 + j = i + (j + 1) by omega]; exact this) ⟨?_, upd_same, x.nd, x.ne, fun b hb hd => ?_⟩ (by simp at hle ⊢; omega) fun H' y => k H' ?_
    · rw [upd_ne (Ne.symm x.ne)]; exact x.ea
    · rw [upd_ne hd]; exact x.keep b hb hd
    · simpa using y
theorem xs_first {K : PySem.W.Frag} {C a : Addr} {H : Hp} (T : XcC K C) {D : Ends} {σ : L2.St} (h0 : σ[0]? = some (some (.ref a))) {F : List Str} {ws : List V} (hF : F ≠ []) (no : ∀ f ∈ F, PySem.W.findIn K (.ref C) f = some none) (hl : ws.length = F.length) (hv : ∀ (j : Nat) v, ws[j]? = some v → σ[1 + j]? = some (some v))
    (ha : H a = some (exo a C none)) (h9 : F.length ≤ 900) (k : ∀ d H', XEnd H a C d (F.zip ws).reverse H' → D.nx σ H') : tXs K F 1 D σ H := by
  cases F with
  | nil => exact absurd rfl hF
  | cons f F =>
    cases ws with
    | nil => simp at hl
    | cons v ws =>
      refine ⟨v, by have := hv 0 v rfl; simpa using this, .ref a, h0, a, C, rfl, T, no f (by simp), .inl ⟨ha, fun d hd ne => ?_⟩⟩
      refine xs_more (H0 := H) (d := d) (acc := [(f, v)]) T h0 (fun g hg => no g (by simp [hg])) (by simpa using hl) (fun j u hu => by have := hv (j + 1) u (by simpa using hu); rw [show 1 + 1 + j = 1 + (j + 1) by omega]; exact this) ⟨upd_same, ?_, hd, ne, fun b hb hbd => ?_⟩ (by simp at h9 ⊢; omega) fun H' y => k d H' ?_
      · rw [upd_ne ne, upd_same]
      · rw [upd_ne hb, upd_ne hbd]
      · simpa using y
theorem fn_init {P : Program} {w : World} {K : PySem.W.Frag} {mg : Str → Option Value} {base : Heap} {k : Nat} {st : Stmt} {qual : Str} {fa C : Addr} {fd : FuncData} {N ps : List Str} {F : List Str} (D : DfOk K st qual fa fd) (S : FnScope N ps (defScope st)) (T : XcC K C) (hF : F ≠ []) (h9 : F.length ≤ 900) (hp : ps.length = F.length + 1) (hN : N.length = F.length + 1)
    (hno : ∀ f ∈ F, PySem.W.findIn K (.ref C) f = some none) (chk : chkX N (defScope st) F 1 (defBody st) = true) :
    FnOk P w K mg base (L2N.CX P w) (k + 1) fa fd ps (spX C F) := by
  obtain ⟨name, oc, od, dV, kV, doc, pm, an, cdv, ct, osl, rfl, lk, hcd⟩ := D.ex
  refine fn_of lk hcd S (fun vs H Q E h => ?_) fun A outer s H vs Q E hr hsp => ?_
  · obtain ⟨a, ws, rfl, hl, _⟩ := h
    rw [hp]; simp [hl]
  · obtain ⟨a, ws, rfl, hl, ha, kk⟩ := hsp
    refine ⟨_, ps_xs (X := cxOf (L2N.CX P w) P w K mg base N qual (defScope st) fa cdv A outer s H E) chk, ?_⟩
    refine xs_first T ?_ hF hno hl (fun j v hj => ?_) ha h9 fun d H' x => kk d H' x
    · rfl
    · show (L2.start N (.ref a :: ws))[1 + j]? = _
      unfold L2.start
      have hj' : j < ws.length := (List.getElem?_eq_some_iff.mp hj).1
      rw [List.getElem?_append_left (by simp; omega), List.getElem?_map, show 1 + j = j + 1 by omega, List.getElem?_cons_succ, hj]; rfl
end EV

set_option Elab.async false
set_option linter.all false
set_option maxRecDepth 100000
/-! EvP: a text and its small form -/
namespace EV
open PySem PySem.Spec PyProof.Rows L2

inductive Kd where
  | def_ (x : Str) | init (c : Nat) (x : Str) | meth (c : Nat) (m : Str) | prop (c : Nat) (f : Str)
  deriving DecidableEq
structure FnS where
  kd : Kd
  np : Nat
  hot : Bool
  deriving DecidableEq
structure Tc where
  gv : List Str
  fn : List FnS
  cn : List Str
  xb : List Nat
/-- built-in names that are told -/
def bNames : List Str := ["len", "int", "str", "list", "tuple", "all", "any", "sorted", "max", "min", "ord", "dict", "range", "zip", "enumerate", "isinstance", "bool", "ValueError", "LookupError", "ArithmeticError", "TypeError", "Exception"]
def glB (sc : Scope) (x : Str) : Bool := decide (sc.names.lookup x = some .globalImplicit) && !(x == ("__debug__" : Str)) && !(x == ("__name__" : Str))
def locB (sc : Scope) (fnb : Str → Bool) (x : Str) : Bool := match sc.names.lookup x with | some .local => true | some .cell => fnb x | _ => false
def bltN : Blt → Str
  | .len => "len" | .int => "int" | .str => "str" | .list => "list" | .tuple => "tuple" | .all => "all" | .any => "any" | .sorted => "sorted" | .max => "max" | .min => "min" | .ord => "ord" | .dict => "dict"
def tyN : Ty → Option Str
  | .int => some "int" | .str => some "str" | .bool => some "bool" | .list => some "list" | .tuple => some "tuple" | .cls _ => none | .exc _ => none
def plainTest : Expr → Bool
  | .Name .. => true | .Call .. => true | .Attribute .. => true | .Subscript .. => true | .Constant .. => true | .BinOp .. => true | _ => false
def plainBase : Expr → Bool
  | .Name .. => true | .Attribute .. => true | .Subscript .. => true | .Call _ (_ :: _) _ _ => true | .Constant .. => true | _ => false
def notComp : Expr → Bool
  | .ListComp .. => false | .SetComp .. => false | .DictComp .. => false | _ => true
/-- the target of a store -/
def chkN (N : List Str) (sc : Scope) (fnb : Str → Bool) (i : Nat) : Expr → Bool
  | .Name x _ => decide (N[i]? = some x) && locB sc fnb x
  | _ => false
def chkNs (N : List Str) (sc : Scope) (fnb : Str → Bool) : List Nat → List Expr → Bool
  | [], [] => true
  | i :: is, e :: es => chkN N sc fnb i e && chkNs N sc fnb is es
  | _, _ => false
def chkTg (N : List Str) (hot : Bool) (sc : Scope) (fnb : Str → Bool) : Tg → Expr → Bool
  | .n i, e => chkN N sc fnb i e
  | .t is, .Tuple es _ _ => !hot && chkNs N sc fnb is es
  | _, _ => false
def hotB (hot : Bool) : Blt → Bool
  | .all => !hot | .any => !hot | .sorted => !hot | .max => !hot | .min => !hot | .dict => !hot | _ => true
def ownOf (N : List Str) (is : List Nat) : List (Str × Nat) := is.map fun i => (N.getD i "", i)
def isDefN (tc : Tc) (hot : Bool) (f : Nat) (x : Str) (n : Nat) : Bool := match tc.fn[f]? with
  | some ⟨.def_ y, m, t⟩ => decide (y = x) && decide (m = n) && (!hot || t)
  | _ => false
def isInitN (tc : Tc) (c f : Nat) (x : Str) (n : Nat) : Bool := match tc.fn[f]? with
  | some ⟨.init d y, m, _⟩ => decide (d = c) && decide (y = x) && decide (m = n + 1)
  | _ => false
def isMethN (tc : Tc) (c f : Nat) (x : Str) (n : Nat) : Bool := match tc.fn[f]? with
  | some ⟨.meth d y, m, _⟩ => decide (d = c) && decide (y = x) && decide (m = n + 1)
  | _ => false
def isPropN (tc : Tc) (c f : Nat) (x : Str) : Bool := match tc.fn[f]? with
  | some ⟨.prop d y, m, _⟩ => decide (d = c) && decide (y = x) && decide (m = 1)
  | _ => false
def tyMatch (tc : Tc) (x : Str) : Ty → Bool
  | .cls n => decide (tc.cn[n]? = some x)
  | .exc n => decide (n < 5) && decide (x = ((excN.getD n "" : String) : Str))
  | t => decide (tyN t = some x)
def chkTy (tc : Tc) (sc : Scope) (t : Ty) : Expr → Bool
  | .Name x _ => glB sc x && tyMatch tc x t
  | _ => false
def chkTys (tc : Tc) (sc : Scope) : List Ty → List Expr → Bool
  | [], [] => true
  | t :: ts, e :: es => chkTy tc sc t e && chkTys tc sc ts es
  | _, _ => false
section
variable (tc : Tc) (N : List Str) (hot : Bool)
mutual
def chkE : E → Scope → Expr → Bool
  | .var i, sc, .Name x _ => decide (N[i]? = some x) && visB sc x
  | .gv i, sc, .Name x _ => decide (tc.gv[i]? = some x) && glB sc x
  | .int i, _, .Constant (.int j) _ _ => decide (i = j)
  | .str s, _, .Constant (.str t) _ _ => decide (s = t)
  | .non, _, .Constant .none _ _ => true
  | .bl b, _, .Constant (.bool c) _ _ => decide (b = c)
  | .bin op a b, sc, .BinOp a' op' b' _ => decide (op = op') && chkE a sc a' && chkE b sc b'
  | .neg a, sc, .UnaryOp .USub a' _ => chkE a sc a'
  | .cmp op a b, sc, .Compare a' [op'] [b'] _ => decide (op = op') && chkE a sc a' && chkE b sc b' && !behindInMarks op b'
  | .chn op1 op2 a b c, sc, .Compare a' [o1, o2] [b', c'] _ => decide (op1 = o1) && decide (op2 = o2) && chkE a sc a' && chkE b sc b' && chkE c sc c' && !lastMarks [o1, o2] [b', c']
  | .and a b, sc, .BoolOp .And (a' :: b' :: r) pos => chkE a sc a' && chkE b sc (.BoolOp .And (b' :: r) pos)
  | .or a b, sc, .BoolOp .Or (a' :: b' :: r) pos => chkE a sc a' && chkE b sc (.BoolOp .Or (b' :: r) pos)
  | .one a, sc, .BoolOp _ [a'] _ => chkE a sc a'
  | .hp a, sc, a' => (match a' with | .Starred .. => false | .Slice .. => false | _ => true) && chkE a sc a'
  | .not a, sc, .UnaryOp .Not a' _ => chkE a sc a'
  | .ite c a b, sc, .IfExp c' a' b' _ => chkT c sc c' && chkE a sc a' && chkE b sc b'
  | .tup es, sc, .Tuple es' _ _ => chkEs es sc es'
  | .lst es, sc, .List es' _ => chkEs es sc es'
  | .idx a b, sc, .Subscript a' b' _ => chkE a sc a' && chkE b sc b'
  | .slc a lo hi, sc, .Subscript a' (.Slice lo' hi' none _) _ => chkE a sc a' && chkO lo sc lo' && chkO hi sc hi'
  | .call f es, sc, .Call (.Name x _) es' [] _ => glB sc x && isDefN tc hot f x es'.length && chkEs es sc es'
  | .mk c f es, sc, .Call (.Name x _) es' [] _ => !hot && glB sc x && isInitN tc c f x es'.length && chkEs es sc es'
  | .blt b es, sc, .Call (.Name x _) (e' :: es') [] _ => hotB hot b && glB sc x && decide (bltN b = x) && chkEs es sc (e' :: es')
  | .isi a ts, sc, .Call (.Name x _) [a', t'] [] _ => glB sc x && decide (x = ("isinstance" : Str)) && chkE a sc a' && (match t' with
    | .Tuple es _ _ => !ts.isEmpty && decide (ts.length < 100) && chkTys tc sc ts es
    | e => chkTys tc sc ts [e])
  | .fld o f, sc, .Attribute o' f' _ => decide (f = f') && chkE o sc o' && plainBase o'
  | .xf i f, sc, .Attribute (.Name x _) f' _ => decide (N[i]? = some x) && visB sc x && decide (f = f')
  | .xi i ts, sc, .Call (.Name x _) [a', t'] [] _ => glB sc x && decide (x = ("isinstance" : Str)) && (match a' with | .Name y _ => decide (N[i]? = some y) && visB sc y | _ => false) && (match ts with | [t] => chkTy tc sc t t' | _ => false)
  | .prp c f o, sc, .Attribute o' x _ => !hot && isPropN tc c f x && chkE o sc o' && plainBase o'
  | .pmt c f m o es, sc, .Call (.Attribute o' m' ap) es' [] cp => !hot && decide (m = m') && isMethN tc c f m es'.length && chkE o sc o' && plainBase o' && chkEs es sc es' && decide (es'.length < 20) && (ap.endLine == cp.line)
  | .mth m o es, sc, .Call (.Attribute o' x ap) es' [] cp => decide (mtName m = x) && chkE o sc o' && plainBase o' && chkEs es sc es' && decide (es'.length < 20) && (ap.endLine == cp.line)
  | .mut m o es, sc, .Call (.Attribute o' x ap) es' [] cp => decide (muName m = x) && chkE o sc o' && plainBase o' && chkEs es sc es' && decide (es'.length < 20) && (ap.endLine == cp.line)
  | .lc src tg cond elt, sc, .ListComp elt' [gn] scope _ => !hot && decide (gn.is_async = 0) && blkC N sc scope (ownOf N tg.slots) && chkI src sc gn.iter gn.target && chkTg N hot (relS scope sc) (fun x => scope.names.lookup x == some .cell) tg gn.target &&
      chkTs cond (relS scope sc) gn.ifs && chkE elt (relS scope sc) elt'
  | _, _, _ => false
def chkEs : List E → Scope → List Expr → Bool
  | [], _, [] => true
  | e :: es, sc, e' :: es' => chkE e sc e' && chkEs es sc es'
  | _, _, _ => false
def chkO : Option E → Scope → Option Expr → Bool
  | none, _, none => true
  | some e, sc, some e' => chkE e sc e'
  | _, _, _ => false
def chkT : T → Scope → Expr → Bool
  | .v e, sc, a => plainTest a && chkE e sc a
  | .cmp op a b, sc, .Compare a' [op'] [b'] _ => decide (op = op') && chkE a sc a' && chkE b sc b' && !behindInMarks op b'
  | .chn op1 op2 a b c, sc, .Compare a' [o1, o2] [b', c'] _ => decide (op1 = o1) && decide (op2 = o2) && chkE a sc a' && chkE b sc b' && chkE c sc c' && !lastMarks [o1, o2] [b', c']
  | .and a b, sc, .BoolOp .And (a' :: b' :: r) pos => chkT a sc a' && chkT b sc (.BoolOp .And (b' :: r) pos)
  | .or a b, sc, .BoolOp .Or (a' :: b' :: r) pos => chkT a sc a' && chkT b sc (.BoolOp .Or (b' :: r) pos)
  | .one a, sc, .BoolOp _ [a'] _ => chkT a sc a'
  | .not a, sc, .UnaryOp .Not a' _ => chkT a sc a'
  | _, _, _ => false
def chkTs : List T → Scope → List Expr → Bool
  | [], _, [] => true
  | [c], sc, [c'] => chkT c sc c'
  | _, _, _ => false
/-- what is walked, for this target -/
def chkI : I → Scope → Expr → Expr → Bool
  | .e e, sc, a, _ => chkE e sc a && (match a with | .Set .. => false | _ => true)
  | .rng1 e, sc, .Call (.Name x _) [a] [] _, _ => glB sc x && decide (x = ("range" : Str)) && chkE e sc a
  | .rng2 e f, sc, .Call (.Name x _) [a, b] [] _, _ => glB sc x && decide (x = ("range" : Str)) && chkE e sc a && chkE f sc b
  | .zip e f, sc, .Call (.Name x _) [a, b] [] _, .Tuple _ _ _ => glB sc x && decide (x = ("zip" : Str)) && chkE e sc a && chkE f sc b
  | .enum e, sc, .Call (.Name x _) [a] [] _, .Tuple _ _ _ => glB sc x && decide (x = ("enumerate" : Str)) && chkE e sc a
  | _, _, _, _ => false
end
end

/-- what holds where a def (or a comprehension's block) runs -/
structure Okx (g : Gx) (W : WX) (G : Tb) (C : Cl) (tc : Tc) (X : Cx) (N : List Str) (hot : Bool) (sc : Scope) (fnb : Str → Bool) : Prop where
  hK : g.K = X.K
  hN : X.N = N
  nd : X.N.Nodup
  sc : X.env.scope = sc
  fn : X.fn = fnb
  calm : hot = false → X.calm = true
  hotc : hot = true → L2H.HotC X
  un : X.A.units + 64 < cLine
  tk : L2N.Takes X W
  bl : ∀ x ∈ bNames, X.mg x = none
  gv : ∀ (i : Nat) x, tc.gv[i]? = some x → ∃ v u p, G.gv[i]? = some p ∧ X.mg x = some u ∧ RelV v u ∧ ∀ N H, RP g.toGc N H v p
  cn : ∀ (n : Nat) x, tc.cn[n]? = some x → X.mg x = some (.ref (g.ca n))
  fns : ∀ (f : Nat) s, tc.fn[f]? = some s → ∃ k fa fd ps, ps.length = s.np ∧ (∀ as h, C f as h ≠ .no → as.length = ps.length) ∧ (hot = false → FnOk X.prog X.w X.K X.mg X.base (L2N.CX X.prog X.w) k fa fd ps (spF g.toGc ps.length (C f)) ∧ Room (k + 1) X.A) ∧
    (s.hot = true → L2H.FnH X.prog X.w X.K X.mg X.base (L2N.CX X.prog X.w) k fa fd ps (spF g.toGc ps.length (C f)) ∧ L2H.RoomH (k + 1) X.A) ∧ Binds X.K fd ps [] ∧
    (match s.kd with
    | .def_ x => X.mg x = some (.ref fa) ∧ PySem.W.keepIn X.K (.ref fa) = true
    | .init c x => X.mg x = some (.ref (g.ca c)) ∧ Mk X.K (g.ca c) fa
    | .meth c m => Cls X.K (g.ca c) ∧ Meth X.K (g.ca c) m fa
    | .prop c f => Cls X.K (g.ca c) ∧ ∃ pr, PropOf X.K (g.ca c) f pr fa)
  fl : ∀ c f, f ∈ G.fl c → Cls X.K (g.ca c) ∧ NoAttr X.K (g.ca c) f
  ck : CkOk g.toGc X.K G.ck G.cb
  rm : hot = false → Room 2 X.A
  xi : ∀ c fs, G.xi c = some fs → fs ≠ [] ∧ fs.length < 100 ∧ XcC X.K (g.ca c) ∧ ∃ fI fd ps, PySem.W.findIn X.K (.ref (g.ca c)) "__init__" = some (some (.ref fI)) ∧ PySem.W.typeIn X.K (.ref fI) = some (.type "function") ∧ FnOk X.prog X.w X.K X.mg X.base (L2N.CX X.prog X.w) 1 fI fd ps (spX (g.ca c) fs) ∧ Binds X.K fd ps []
  xs : ∀ c c' b, G.xs c c' = some b → PySem.W.exmOne X.K (.ref (g.ca c)) (.ref (g.ca c')) = some b
  xg : ∀ c f, f ∈ G.xg c → XfC X.K (g.ca c) ∧ PySem.W.findIn X.K (.ref (g.ca c)) f = some none
  xt : ∀ c t b, G.xt c t = some b → PySem.W.kitOne X.K (.ref (g.ca c)) (tyT g.toGc t) = some b ∧ ExcC X.K (g.ca c)
  cur : ∀ a c d, g.cur = some (a, c, d) → ∃ X0 oe pn, X = Cx.suite X0 a ((a, oe) :: pn) ∧ L2N.Zn (.ref (g.ca c)) d oe ∧ ∃ vs, oe.data = .fields vs
  cur0 : hot = false → g.cur = none
  xb : ∀ c ∈ tc.xb, ∃ fs, G.xi c = some fs
section
variable {g : Gx} {W : WX} {G : Tb} {C : Cl} {tc : Tc} {X : Cx} {N : List Str} {hot : Bool} {sc : Scope} {fnb : Str → Bool}
theorem gl_of (o : Okx g W G C tc X N hot sc fnb) {x : Str} (h : glB sc x = true) : Gl X x ∧ (x == ("__debug__" : Str)) = false ∧ x ≠ "__name__" := by
  unfold glB at h
  simp only [Bool.and_eq_true, decide_eq_true_eq, Bool.not_eq_true'] at h
  refine ⟨by show X.env.scope.names.lookup x = _; rw [o.sc]; exact h.1.1, h.1.2, fun z => ?_⟩
  have := h.2
  rw [z] at this
  simp at this
theorem vis_of (o : Okx g W G C tc X N hot sc fnb) {x : Str} (h : visB sc x = true) : Vis X.env.scope x ∧ (x == ("__debug__" : Str)) = false ∧ (x == ("__classdict__" : Str)) = false := by
  unfold visB at h
  simp only [Bool.and_eq_true, Bool.not_eq_true'] at h
  refine ⟨?_, h.1.2, h.2⟩
  rw [o.sc]
  have q := h.1.1
  split at q <;> first | exact .inl (by assumption) | exact .inr (.inl (by assumption)) | exact .inr (.inr (by assumption)) | cases q
theorem loc_of (o : Okx g W G C tc X N hot sc fnb) {x : Str} (h : locB sc fnb x = true) : Loc X.env.scope x ∧ (X.fn x = true ∨ X.env.scope.names.lookup x = some .local) := by
  unfold locB at h
  rw [o.sc, o.fn]
  split at h
  · exact ⟨.inl (by assumption), .inr (by assumption)⟩
  · exact ⟨.inr (by assumption), .inl h⟩
  · cases h
/-- the block of a comprehension -/
theorem Okx.blk (o : Okx g W G C tc X N false sc fnb) (s : Shared) (H : Hp) (scope : Scope) (Ca : Addr) (cl : List (Str × Addr)) (fp : List Addr) :
    Okx g WF G C tc (X.blk s H scope (compEnvC scope cl Ca X.env) fp) N false (relS scope sc) (fun x => scope.names.lookup x == some .cell) where
  hK := o.hK
  hN := o.hN
  nd := o.nd
  sc := by rw [← o.sc]; rfl
  fn := rfl
  calm := o.calm
  hotc := fun h => by cases h
  un := o.un
  tk := takes_f
  bl := o.bl
  gv := o.gv
  cn := o.cn
  fns := o.fns
  fl := o.fl
  ck := o.ck
  rm := o.rm
  xi := o.xi
  xs := o.xs
  xg := o.xg
  xt := o.xt
  cur := fun a c d e => by rw [o.cur0 rfl] at e; cases e
  cur0 := o.cur0
  xb := o.xb
theorem chkE_star {e : E} {a : Expr} {p : Pos} : chkE tc N hot e sc (.Starred a p) = false := by cases e <;> rfl
theorem chkE_slice {e : E} {a b c : Option Expr} {p : Pos} : chkE tc N hot e sc (.Slice a b c p) = false := by cases e <;> rfl
theorem star_cons {e : Expr} {es : List Expr} {env : Env} {c : E} (h : chkE tc N hot c sc e = true) : starEach (e :: es) env = (false, eval e env) :: starEach es env := by
  cases e <;> first | rfl | (rw [chkE_star] at h; cases h)
theorem star_any {pos : Pos} {env : Env} : ∀ {es : List Expr} {cs : List E}, chkEs tc N hot cs sc es = true → (backTo pos (starEach es env)).any (·.1) = false
  | [], _, _ => rfl
  | e :: es, [], h => by cases h
  | e :: es, c :: cs, h => by
    have h' : (chkE tc N hot c sc e && chkEs tc N hot cs sc es) = true := h
    rw [Bool.and_eq_true] at h'
    rw [star_cons h'.1]
    show (false || (backTo pos (starEach es env)).any (·.1)) = false
    rw [star_any h'.2]; rfl
theorem star_all {pos : Pos} {env : Env} : ∀ {es : List Expr} {cs : List E}, chkEs tc N hot cs sc es = true → (backTo pos (starEach es env)).all (fun x => !x.1) = true
  | [], _, _ => rfl
  | e :: es, [], h => by cases h
  | e :: es, c :: cs, h => by
    have h' : (chkE tc N hot c sc e && chkEs tc N hot cs sc es) = true := h
    rw [Bool.and_eq_true] at h'
    rw [star_cons h'.1]
    show (!false && (backTo pos (starEach es env)).all (fun x => !x.1)) = true
    rw [star_all h'.2]; rfl
theorem chkI_set {i : I} {a tg : Expr} (h : chkI tc N hot i sc a tg = true) : ∀ es k p, a ≠ .Set es k p := by
  rintro es k p rfl
  cases i with
  | e x => have z := (show (chkE tc N hot x sc (.Set es k p) && false) = true from h); rw [Bool.and_false] at z; cases z
  | _ => cases h
theorem plainIx_of {c : E} {b : Expr} (h : chkE tc N hot c sc b = true) : PlainIx b := by
  cases b <;> first | (intro o i; rfl) | (rw [chkE_slice] at h; cases h)
theorem isTrue_of {a : Expr} {env : Env} (h : plainTest a = true) : ∀ whole, isTrue a env whole = (do let v ← whole; standAt a.pos; holding [v] (truthy v)) := by
  intro w
  cases a <;> first | rfl | cases h
theorem base_of {a : Expr} {f : Str} {env : Env} (h : plainBase a = true) : attributeBase a f env (eval a env) = eval a env := by
  cases a <;> first | rfl | cases h | skip
  rename_i fn es kw p
  cases es with
  | nil => cases h
  | cons e es => cases fn <;> rfl
theorem swap_of {a : Expr} {t : Option Expr} {l : Nat} {env : Env} (h : notComp a = true) : swapsWith a t l env = pure false := by
  cases a <;> first | rfl | cases h
theorem foldS_of {a : Expr} {env : Env} (h : ∀ es k p, a ≠ .Set es k p) : ∀ x, foldedSetIterable a env x = pure x := by
  intro x
  cases a <;> first | rfl | exact absurd rfl (h _ _ _)
end
end EV

set_option Elab.async false
set_option linter.all false
set_option maxRecDepth 100000
/-! EvQ: what is checked runs as its small form says -/
namespace EV
open PySem PySem.Spec PyProof.Rows L2

section
variable {g : Gx} {G : Tb} {C : Cl} {tc : Tc} {N : List Str} {hot : Bool}
theorem clsv_of {W : WX} {X : Cx} {sc : Scope} {fnb : Str → Bool} (o : Okx g W G C tc X N hot sc fnb) {t : Ty} {a : Expr} (h : chkTy tc sc t a = true) : ∃ cv, PE X a (tC cv) ∧ ClsV cv (tyT g.toGc t) := by
  cases a with
  | Name x p =>
    have h' : (glB sc x && tyMatch tc x t) = true := h
    rw [Bool.and_eq_true] at h'
    obtain ⟨h1, h2, h3⟩ := gl_of o h'.1
    cases t with
    | cls n =>
      have e : tc.cn[n]? = some x := of_decide_eq_true h'.2
      exact ⟨.ref (g.ca n), pe_glob h1 (o.cn n x e) rfl h2, .own _⟩
    | int =>
      have e : some ("int" : Str) = some x := of_decide_eq_true h'.2
      cases e
      exact ⟨.ty "int", pe_bltn h1 (o.bl _ (by decide)) (by decide +kernel) rfl h3 h2, .ty _⟩
    | str =>
      have e : some ("str" : Str) = some x := of_decide_eq_true h'.2
      cases e
      exact ⟨.ty "str", pe_bltn h1 (o.bl _ (by decide)) (by decide +kernel) rfl h3 h2, .ty _⟩
    | bool =>
      have e : some ("bool" : Str) = some x := of_decide_eq_true h'.2
      cases e
      exact ⟨.ty "bool", pe_bltn h1 (o.bl _ (by decide)) (by decide +kernel) rfl h3 h2, .ty _⟩
    | list =>
      have e : some ("list" : Str) = some x := of_decide_eq_true h'.2
      cases e
      exact ⟨.ty "list", pe_bltn h1 (o.bl _ (by decide)) (by decide +kernel) rfl h3 h2, .ty _⟩
    | tuple =>
      have e : some ("tuple" : Str) = some x := of_decide_eq_true h'.2
      cases e
      exact ⟨.ty "tuple", pe_bltn h1 (o.bl _ (by decide)) (by decide +kernel) rfl h3 h2, .ty _⟩
    | exc n =>
      obtain ⟨hn, e⟩ := and2 h'.2
      have hn := of_decide_eq_true hn
      have e := of_decide_eq_true e
      subst e
      match n, hn with
      | 0, _ => exact ⟨.ty "ValueError", pe_bltn h1 (o.bl _ (by decide)) (by decide +kernel) rfl h3 h2, .ty _⟩
      | 1, _ => exact ⟨.ty "LookupError", pe_bltn h1 (o.bl _ (by decide)) (by decide +kernel) rfl h3 h2, .ty _⟩
      | 2, _ => exact ⟨.ty "ArithmeticError", pe_bltn h1 (o.bl _ (by decide)) (by decide +kernel) rfl h3 h2, .ty _⟩
      | 3, _ => exact ⟨.ty "TypeError", pe_bltn h1 (o.bl _ (by decide)) (by decide +kernel) rfl h3 h2, .ty _⟩
      | 4, _ => exact ⟨.ty "Exception", pe_bltn h1 (o.bl _ (by decide)) (by decide +kernel) rfl h3 h2, .ty _⟩
  | _ => exact no h rfl
theorem clsvs_of {W : WX} {X : Cx} {sc : Scope} {fnb : Str → Bool} (o : Okx g W G C tc X N hot sc fnb) : ∀ {ts : List Ty} {es : List Expr}, chkTys tc sc ts es = true → ∃ cvs, PA X es (fun _ H Q => Q cvs H) ∧ Paired ClsV cvs (ts.map (tyT g.toGc)) ∧ cvs.length = ts.length
  | [], [], _ => ⟨[], pa_nil, .nil, rfl⟩
  | t :: ts, e :: es, h => by
    have h' : (chkTy tc sc t e && chkTys tc sc ts es) = true := h
    rw [Bool.and_eq_true] at h'
    obtain ⟨cv, h1, h2⟩ := clsv_of o h'.1
    obtain ⟨cvs, h3, h4, h5⟩ := clsvs_of o h'.2
    refine ⟨cv :: cvs, (pa_cons h1 h3 (by cases e <;> first | rfl | exact no h'.1 rfl)).weak fun σ H Q q => q, .cons h2 h4, by simp [h5]⟩
  | [], _ :: _, h => no h rfl
  | _ :: _, [], h => no h rfl
theorem isiPs_ok {X : Cx} {M : Mp} {H : Hp} (hK : g.K = X.K) (ok : CkOk g.toGc X.K G.ck G.cb) {v : V} {y : P} (r : RdV g.toGc M H v y) : ∀ {ts : List Ty} {b : Bool}, ts ≠ [] → isiPs G.ck G.cb y ts = some b → TyX X.K H v (tyP g.toGc y) ∧ PySem.W.kitAny X.K (tyP g.toGc y) (ts.map (tyT g.toGc)) = some b
  | [], _, h, _ => absurd rfl h
  | t :: ts, b, _, e => by
    unfold isiPs at e
    obtain ⟨b1, e1, e⟩ := bind_some e
    obtain ⟨t1, t2⟩ := isiP_ok (K := X.K) hK ok r e1
    refine ⟨t1, ?_⟩
    show PySem.W.kitAny X.K (tyP g.toGc y) (tyT g.toGc t :: ts.map (tyT g.toGc)) = some b
    unfold PySem.W.kitAny
    rw [t2]
    cases b1 with
    | true => rw [if_pos rfl] at e; cases e; rfl
    | false =>
      rw [if_neg (by decide)] at e
      cases ts with
      | nil => cases e; rfl
      | cons t' ts' => exact (isiPs_ok hK ok r (by simp) e).2
theorem RdV.ext {M : Mp} {H H' : Hp} {v : V} {y : P} (r : RdV g.toGc M H v y) (e : Ext H H') : RdV g.toGc M H' v y := by
  rcases r with r | ⟨a, rfl, r⟩
  · exact .inl (r.step e.stp)
  · exact .inr ⟨a, rfl, r.step e.stp fun o z => e _ _ z⟩
theorem e_isi1 {W : WX} {X : Cx} {pos : Pos} {p : Pos} {a c : Expr} {t : Ty} {cv : V} {ea : E} (hK : g.K = X.K) (ok : CkOk g.toGc X.K G.ck G.cb) (ha : PE X a (tE g W (ev C G ea))) (hc : PE X c (tC cv)) (kc : ClsV cv (tyT g.toGc t)) (hg : Gl X "isinstance") (hm : X.mg "isinstance" = none)
    (he : starEach [a, c] X.env = (false, eval a X.env) :: starEach [c] X.env) (he2 : starEach [c] X.env = (false, eval c X.env) :: starEach [] X.env) (hpl : (backTo pos (starEach [c] X.env)).any (·.1) = false) :
    PE X (.Call (.Name "isinstance" p) [a, c] [] pos) (tE g W (ev C G (.isi ea [t]))) :=
  (pe_callB call_isi hg hm (by decide +kernel) (pa_cons ha (pa_cons hc pa_nil he2) he) (by decide) (by decide) he hpl).weak fun σ H Q ⟨M, env, h, re, rh, w⟩ => by
    rw [ev] at w
    refine tE.of re rh (wq_bind w) id fun x h1 M1 v H1 o1 w => ?_
    obtain ⟨y, e3, w⟩ := wq_of w
    obtain ⟨b, e4, w⟩ := wq_of w
    have e4 := (show (do let b ← isiP G.ck G.cb y t; if b = true then some true else isiPs G.ck G.cb y []) = some b from e4)
    obtain ⟨b1, e5, e4⟩ := bind_some e4
    obtain ⟨t1, t2⟩ := isiP_ok (K := X.K) hK ok (o1.rd e3) e5
    have eb : b1 = b := by
      cases b1 with
      | true => rw [if_pos rfl] at e4; exact Option.some.inj e4
      | false => rw [if_neg (by decide)] at e4; exact Option.some.inj e4
    subst eb
    exact ⟨v, cv, _, _, b1, rfl, kc, t1, t2, wq_ok w M1 _ _ (Out.before o1.sx (Out.val o1.rh .bl))⟩
theorem e_isiT {W : WX} {X : Cx} {pos : Pos} {p p2 : Pos} {a : Expr} {es : List Expr} {kk : Nat} {ts : List Ty} {cvs : List V} {ea : E} (hK : g.K = X.K) (ok : CkOk g.toGc X.K G.ck G.cb) (ha : PE X a (tE g W (ev C G ea))) (hc : PA X es (fun _ H Q => Q cvs H)) (kc : Paired ClsV cvs (ts.map (tyT g.toGc))) (hn : ts ≠ []) (hl : cvs.length ≤ sizeLine) (hg : Gl X "isinstance") (hm : X.mg "isinstance" = none)
    (he : starEach [a, .Tuple es kk p2] X.env = (false, eval a X.env) :: starEach [.Tuple es kk p2] X.env) :
    PE X (.Call (.Name "isinstance" p) [a, .Tuple es kk p2] [] pos) (tE g W (ev C G (.isi ea ts))) :=
  (pe_callB call_isiT hg hm (by decide +kernel) (pa_cons ha (pa_cons (pe_tup hc) pa_nil rfl) he) (by decide) (by decide) he rfl).weak fun σ H Q ⟨M, env, h, re, rh, w⟩ => by
    rw [ev] at w
    refine tE.of re rh (wq_bind w) id fun x h1 M1 v H1 o1 w => ?_
    obtain ⟨y, e3, w⟩ := wq_of w
    obtain ⟨b, e4, w⟩ := wq_of w
    refine ⟨hl, fun q hq => ?_⟩
    have ex : Ext H1 (upd H1 q (.tup cvs)) := ext_new hq
    obtain ⟨t1, t2⟩ := isiPs_ok hK ok ((o1.rd e3).ext ex) hn e4
    exact ⟨v, q, cvs, _, _, b, rfl, upd_same, kc, t1, t2, wq_ok w M1 _ _ (Out.before (o1.sx.trans ex.sx) (Out.val (o1.rh.ext ex) .bl))⟩
/-- what is laid to last -/
theorem e_hp {W : WX} {X : Cx} {a : Expr} {ea : E} (ha : PE X a (tE g W (ev C G ea))) : PE X a (tE g W (ev C G (.hp ea))) := ha.weak fun σ H Q ⟨M, env, h, re, rh, w⟩ => by
  rw [ev] at w
  refine tE.of re rh (wq_bind w) id fun r h1 M1 v H1 o1 w => ?_
  cases r with
  | fr q =>
    obtain ⟨x, rfl, nx, hx, st, e1, e2, rh1, rt⟩ := o1
    have k := wq_ok w
    have at1 : ∀ {r : Pl} {b : Addr}, (⟨M1.pl, M1.pm ++ [x], M1.av⟩ : Mp).at r = some b → M1.at r = some b ∨ (r = .p M1.pm.length ∧ b = x) := fun {r b} e => by
      cases r with
      | s i => exact .inl e
      | p j =>
        change (M1.pm ++ [x])[j]? = some b at e
        by_cases hj : j < M1.pm.length
        · rw [List.getElem?_append_left hj] at e; exact .inl e
        · rw [List.getElem?_append_right (by omega)] at e
          cases z : j - M1.pm.length with
          | zero => rw [z] at e; simp at e; exact .inr ⟨by rw [show j = M1.pm.length by omega], e.symm⟩
          | succ n => rw [z] at e; simp at e
    have at2 : ∀ {r : Pl} {b : Addr}, M1.at r = some b → (⟨M1.pl, M1.pm ++ [x], M1.av⟩ : Mp).at r = some b := fun {r b} e => by
      cases r with
      | s i => exact e
      | p j =>
        have e : M1.pm[j]? = some b := e
        show (M1.pm ++ [x])[j]? = some b
        rw [List.getElem?_append_left (List.getElem?_eq_some_iff.mp e).1]; exact e
    have atn : (⟨M1.pl, M1.pm ++ [x], M1.av⟩ : Mp).at (.p M1.pm.length) = some x := by show (M1.pm ++ [x])[M1.pm.length]? = _; simp
    have wr : ∀ {b : Addr}, Wr (⟨M1.pl, M1.pm ++ [x], M1.av⟩ : Mp) b → Wr M1 b ∨ b = x := fun {b} ⟨r, e⟩ => (at1 e).imp (fun z => ⟨r, z⟩) And.right
    have sub : ∀ b, NM (⟨M1.pl, M1.pm ++ [x], M1.av⟩ : Mp) b → NM (MA M1 x) b := fun b z => by
      rcases z with z | z
      · rcases wr z with z | rfl
        · exact .inl z
        · exact .inr (.inl rfl)
      · exact .inr (.inr z)
    have s2 : Stp M H ⟨M1.pl, M1.pm ++ [x], M1.av⟩ H1 := ⟨st.keep, fun a z => st.new a (sub a z), fun a z => by
      rcases wr z with z | rfl
      · exact st.wr a z
      · exact .inr hx, st.all, fun j b e => by
        have := st.pm j b e
        exact at2 (r := .p j) this⟩
    have conv : ∀ {b : Addr} {p : P}, RT g.toGc (NM (MA M1 x)) H1 b p → RT g.toGc (NM ⟨M1.pl, M1.pm ++ [x], M1.av⟩) H1 b p := fun {b p} r => by
      have r' : RT g.toGc (NM (MD (MA M1 x) x)) H1 b p := by rw [nm_md (M := MA M1 x) (D := x) (.inl rfl)]; exact r
      refine r'.step (M' := ⟨M1.pl, M1.pm ++ [x], M1.av⟩) ⟨fun _ _ e _ => e, fun c z => .inl (z.imp (fun z => ?_) fun z => .inr z), fun c z => .inl ?_, fun _ z => z, fun j b e => ?_⟩ fun _ z => z
      · rcases wr z with z | rfl
        · exact wr_md.mpr (.inr z)
        · exact wr_md.mpr (.inl rfl)
      · rcases wr z with z | rfl
        · exact wr_md.mpr (.inr z)
        · exact wr_md.mpr (.inl rfl)
      · exact at2 (r := .p j) e
    have ln : h1.p.length = M1.pm.length := rh1.lp
    refine k ⟨M1.pl, M1.pm ++ [x], M1.av⟩ (.ref x) H1 ⟨⟨s2, e1, e2⟩, ⟨rh1.ls, by show (h1.p ++ [q]).length = (M1.pm ++ [x]).length; simp [ln], fun r p b e3 e4 => ?_, fun i j b e3 e4 => ?_, fun b z => rh1.live b (sub b z), fun b z z2 => ?_⟩, ?_⟩
    · rcases at1 e4 with e5 | ⟨rfl, rfl⟩
      · have e6 : h1.get r = some p := by
          cases r with
          | s i => exact e3
          | p j =>
            have lj : j < h1.p.length := by rw [ln]; exact (List.getElem?_eq_some_iff.mp (show M1.pm[j]? = some b from e5)).1
            have e3 : (h1.p ++ [q])[j]? = some p := e3
            rw [List.getElem?_append_left lj] at e3; exact e3
        exact (rh1.ob r p b e6 e5).imp id conv
      · have e3 : (h1.p ++ [q])[M1.pm.length]? = some p := e3
        rw [← ln] at e3
        simp at e3
        subst e3
        exact .inr (conv rt)
    · rcases at1 e3 with z1 | ⟨z1, z2⟩ <;> rcases at1 e4 with z3 | ⟨z3, z4⟩
      · exact rh1.nd i j b z1 z3
      · subst z4; exact absurd (.inl ⟨i, z1⟩) nx
      · subst z2; exact absurd (.inl ⟨j, z3⟩) nx
      · rw [z1, z3]
    · rcases wr z2 with z2 | rfl
      · exact rh1.sep b (.inr z) z2
      · exact nx (.inr z)
    · show RP g.toGc (NM ⟨M1.pl, M1.pm ++ [x], M1.av⟩) H1 (.ref x) (.hf h1.p.length)
      rw [ln]
      exact .hf atn
  | p q => exact w.elim
  | rf q => exact w.elim
end
end EV

set_option Elab.async false
set_option linter.all false
set_option maxRecDepth 100000
/-! EvR: expressions that are checked -/
namespace EV
open PySem PySem.Spec PyProof.Rows L2

section
variable {g : Gx} {G : Tb} {C : Cl} {tc : Tc} {N : List Str} {hot : Bool}
theorem not_f {b : Bool} (h : (!b) = true) : b = false := by simpa using h
theorem isDefN_ok {f : Nat} {x : Str} {n : Nat} (h : isDefN tc hot f x n = true) : ∃ s, tc.fn[f]? = some s ∧ s.kd = .def_ x ∧ s.np = n ∧ (hot = true → s.hot = true) := by
  unfold isDefN at h
  split at h
  · rename_i y m t e
    obtain ⟨h1, h2, h3⟩ := and3 h
    refine ⟨_, e, by rw [of_decide_eq_true h1], of_decide_eq_true h2, fun z => ?_⟩
    subst z
    simpa using h3
  · cases h
theorem isInitN_ok {c f : Nat} {x : Str} {n : Nat} (h : isInitN tc c f x n = true) : ∃ s, tc.fn[f]? = some s ∧ s.kd = .init c x ∧ s.np = n + 1 := by
  unfold isInitN at h
  split at h
  · rename_i d y m t e
    obtain ⟨h1, h2, h3⟩ := and3 h
    exact ⟨_, e, by rw [of_decide_eq_true h1, of_decide_eq_true h2], of_decide_eq_true h3⟩
  · cases h
theorem isMethN_ok {c f : Nat} {x : Str} {n : Nat} (h : isMethN tc c f x n = true) : ∃ s, tc.fn[f]? = some s ∧ s.kd = .meth c x ∧ s.np = n + 1 := by
  unfold isMethN at h
  split at h
  · rename_i d y m t e
    obtain ⟨h1, h2, h3⟩ := and3 h
    exact ⟨_, e, by rw [of_decide_eq_true h1, of_decide_eq_true h2], of_decide_eq_true h3⟩
  · cases h
theorem isPropN_ok {c f : Nat} {x : Str} (h : isPropN tc c f x = true) : ∃ s, tc.fn[f]? = some s ∧ s.kd = .prop c x ∧ s.np = 1 := by
  unfold isPropN at h
  split at h
  · rename_i d y m t e
    obtain ⟨h1, h2, h3⟩ := and3 h
    exact ⟨_, e, by rw [of_decide_eq_true h1, of_decide_eq_true h2], of_decide_eq_true h3⟩
  · cases h
theorem chkEs_nil {cs : List E} {sc : Scope} (h : chkEs tc N hot cs sc [] = true) : cs = [] := by
  cases cs with
  | nil => rfl
  | cons => cases h
theorem chkEs_cons {cs : List E} {sc : Scope} {e : Expr} {es : List Expr} (h : chkEs tc N hot cs sc (e :: es) = true) : ∃ c cr, cs = c :: cr ∧ chkE tc N hot c sc e = true ∧ chkEs tc N hot cr sc es = true := by
  cases cs with
  | nil => cases h
  | cons c cr => obtain ⟨h1, h2⟩ := and2 h; exact ⟨c, cr, rfl, h1, h2⟩
theorem chkEs_star {cs : List E} {sc : Scope} {e : Expr} {es : List Expr} {env : Env} {pos : Pos} (h : chkEs tc N hot cs sc (e :: es) = true) : starEach (e :: es) env = (false, eval e env) :: starEach es env ∧ (backTo pos (starEach es env)).any (·.1) = false := by
  obtain ⟨c, cr, rfl, h1, h2⟩ := chkEs_cons h
  exact ⟨star_cons h1, star_any h2⟩
section
variable {X : Cx} {W : WX} {sc : Scope} {fnb : Str → Bool} {pos : Pos}
theorem ok_blt (o : Okx g W G C tc X N hot sc fnb) {b : Blt} {cs : List E} {e : Expr} {es : List Expr} {p : Pos} (hh : hotB hot b = true) (hg : glB sc (bltN b) = true) (hs : chkEs tc N hot cs sc (e :: es) = true) (ha : PA X (e :: es) (tAr g W (relB g.toGc) (evB C G cs))) :
    PE X (.Call (.Name (bltN b) p) (e :: es) [] pos) (tE g W (ev C G (.blt b cs))) := by
  obtain ⟨h1, h2, h3⟩ := gl_of o hg
  obtain ⟨s1, s2⟩ := chkEs_star (env := X.env) (pos := pos) hs
  cases b with
  | len => exact e_blt (len_all o.hK) h1 (o.bl _ (by decide)) (by decide +kernel) ha h3 h2 s1 s2
  | all => exact e_blt (all_all (o.calm (not_f hh))) h1 (o.bl _ (by decide)) (by decide +kernel) ha h3 h2 s1 s2
  | any => exact e_blt (any_all (o.calm (not_f hh))) h1 (o.bl _ (by decide)) (by decide +kernel) ha h3 h2 s1 s2
  | sorted => exact e_blt (sorted_all (o.calm (not_f hh))) h1 (o.bl _ (by decide)) (by decide +kernel) ha h3 h2 s1 s2
  | max => exact e_blt (max_all (o.calm (not_f hh))) h1 (o.bl _ (by decide)) (by decide +kernel) ha h3 h2 s1 s2
  | min => exact e_blt (min_all (o.calm (not_f hh))) h1 (o.bl _ (by decide)) (by decide +kernel) ha h3 h2 s1 s2
  | ord => exact e_blt ord_all h1 (o.bl _ (by decide)) (by decide +kernel) ha h3 h2 s1 s2
  | int => exact e_bltT int_all h1 (o.bl _ (by decide)) (by decide +kernel) ha h3 h2 s1 s2
  | str => exact e_bltT str_all h1 (o.bl _ (by decide)) (by decide +kernel) ha h3 h2 s1 s2
  | list => exact e_bltT (list_all o.hK) h1 (o.bl _ (by decide)) (by decide +kernel) ha h3 h2 s1 s2
  | tuple => exact e_bltT (tuple_all o.hK) h1 (o.bl _ (by decide)) (by decide +kernel) ha h3 h2 s1 s2
  | dict => exact e_bltT (dict_all o.hK (o.calm (not_f hh))) h1 (o.bl _ (by decide)) (by decide +kernel) ha h3 h2 s1 s2
theorem ok_call (o : Okx g W G C tc X N hot sc fnb) {f : Nat} {x : Str} {cs : List E} {es : List Expr} {p : Pos} (hg : glB sc x = true) (hd : isDefN tc hot f x es.length = true) (hs : chkEs tc N hot cs sc es = true) (ha : PA X es (tAr g W (relA g.toGc) (evA C G cs))) :
    PE X (.Call (.Name x p) es [] pos) (tE g W (ev C G (.call f cs))) := by
  obtain ⟨h1, h2, h3⟩ := gl_of o hg
  obtain ⟨s, e1, e2, e3, e4⟩ := isDefN_ok hd
  obtain ⟨k, fa, fd, ps, hl, hφ, F0, F1, hb, hk⟩ := o.fns f s e1
  rw [e2] at hk
  cases hh : hot with
  | false =>
    obtain ⟨F, hr⟩ := F0 hh
    cases es with
    | nil =>
      have e0 : ps = [] := List.length_eq_zero_iff.mp (by rw [hl, e3]; rfl)
      subst e0
      rw [chkEs_nil hs]
      exact e_call0 hφ F o.tk (hr.mono (Nat.le_succ _)) h1 hk.1 hk.2 hb h2
    | cons e es =>
      obtain ⟨s1, s2⟩ := chkEs_star (env := X.env) (pos := pos) hs
      exact e_call hφ F o.tk (hr.mono (Nat.le_succ _)) h1 hk.1 hk.2 hb ha h2 s1 s2
  | true =>
    obtain ⟨F, hr⟩ := F1 (e4 hh)
    cases es with
    | nil =>
      have e0 : ps = [] := List.length_eq_zero_iff.mp (by rw [hl, e3]; rfl)
      subst e0
      rw [chkEs_nil hs]
      exact e_call0H hφ F o.tk (hr.mono (Nat.le_succ _)) (o.hotc hh) h1 hk.1 hk.2 hb h2
    | cons e es =>
      obtain ⟨s1, s2⟩ := chkEs_star (env := X.env) (pos := pos) hs
      exact e_callH hφ F o.tk (hr.mono (Nat.le_succ _)) (o.hotc hh) h1 hk.1 hk.2 hb ha h2 s1 s2
theorem ok_mk (o : Okx g W G C tc X N hot sc fnb) {c f : Nat} {x : Str} {cs : List E} {es : List Expr} {p : Pos} (hh : hot = false) (hg : glB sc x = true) (hd : isInitN tc c f x es.length = true) (hs : chkEs tc N hot cs sc es = true) (ha : PA X es (tAr g W (relA g.toGc) (evA C G cs))) :
    PE X (.Call (.Name x p) es [] pos) (tE g W (ev C G (.mk c f cs))) := by
  obtain ⟨h1, h2, h3⟩ := gl_of o hg
  obtain ⟨s, e1, e2, e3⟩ := isInitN_ok hd
  obtain ⟨k, fa, fd, ps, hl, hφ, F0, _, hb, hk⟩ := o.fns f s e1
  obtain ⟨F, hr⟩ := F0 hh
  rw [e2] at hk
  cases es with
  | nil =>
    rw [chkEs_nil hs]
    exact e_mk0 hφ hk.2 F o.tk hr h1 hk.1 hb h2
  | cons e es =>
    obtain ⟨s1, s2⟩ := chkEs_star (env := X.env) (pos := pos) hs
    exact e_mk hφ hk.2 F o.tk hr h1 hk.1 hb ha h2 s1 s2
theorem mcall_of {o : Expr} {m : Str} {apos : Pos} {es : List Expr} {cs : List E} (h : plainBase o = true) (hl : (apos.endLine == pos.line) = true) (hs : chkEs tc N hot cs sc es = true) (hn : es.length < 20) : MCall X o m apos es pos := by
  refine ⟨(do return (← importBound o X.env).getD true), ?_⟩
  have hform : methodCallForm (es.length + ([] : List Keyword).length) (backTo pos (starEach es X.env)) (backToKw pos (keywordEach [] X.env)) = true := by
    show ((backTo pos (starEach es X.env)).all (fun x => !x.1) && true && decide (es.length + 0 + 0 < 30)) = true
    rw [star_all hs]
    simp
    omega
  rw [arm_eval_Call, base_of h]
  unfold methodCall calleeOf methodCallPos
  simp only [hform, hl, if_true, Bool.not_true, Bool.or_true]
  rfl
theorem ok_pmt (o : Okx g W G C tc X N hot sc fnb) {c f : Nat} {m : Str} {a : Expr} {ea : E} {cs : List E} {es : List Expr} {ap : Pos} (hh : hot = false) (hd : isMethN tc c f m es.length = true) (hpb : plainBase a = true) (hln : (ap.endLine == pos.line) = true) (hs : chkEs tc N hot cs sc es = true) (hn : es.length < 20) (he : PE X a (tE g W (ev C G ea))) (ha : PA X es (tAr g W (relA g.toGc) (evA C G cs))) :
    PE X (.Call (.Attribute a m ap) es [] pos) (tE g W (ev C G (.pmt c f m ea cs))) := by
  obtain ⟨s, e1, e2, e3⟩ := isMethN_ok hd
  obtain ⟨k, fa, fd, ps, hl, hφ, F0, _, hb, hk⟩ := o.fns f s e1
  obtain ⟨F, hr⟩ := F0 hh
  rw [e2] at hk
  have mc := mcall_of (X := X) (m := m) hpb hln hs hn
  cases es with
  | nil =>
    rw [chkEs_nil hs]
    exact e_pmt0 hφ hk.1 hk.2 F o.tk (hr.mono (Nat.le_succ _)) hb he mc
  | cons e es =>
    obtain ⟨s1, s2⟩ := chkEs_star (env := X.env) (pos := pos) hs
    exact e_pmt hφ hk.1 hk.2 F o.tk (hr.mono (Nat.le_succ _)) hb he ha s1 s2 mc
theorem ok_prp (o : Okx g W G C tc X N hot sc fnb) {c f : Nat} {x : Str} {a : Expr} {ea : E} (hh : hot = false) (hd : isPropN tc c f x = true) (he : PE X a (tE g W (ev C G ea))) (hp : plainBase a = true) :
    PE X (.Attribute a x pos) (tE g W (ev C G (.prp c f ea))) := by
  obtain ⟨s, e1, e2, e3⟩ := isPropN_ok hd
  obtain ⟨k, fa, fd, ps, hl, hφ, F0, _, hb, hk⟩ := o.fns f s e1
  obtain ⟨F, hr⟩ := F0 hh
  rw [e2] at hk
  obtain ⟨h1, pr, h2⟩ := hk
  exact e_prp hφ h1 h2 F hr hb he (base_of hp)
theorem ok_bm {name : Str} {T id : String} {a : Expr} {es : List Expr} {cs : List E} {apos : Pos} {to : TE} {t : TA} {r : V → List V → Hp → VK → Prop} (pa : PlainAttrs T) (slot : Slot T name id) (hty : typeOf (.builtin id) = pure (.type "method_descriptor"))
    (hp : plainBase a = true) (hl : (apos.endLine == pos.line) = true) (hs : chkEs tc N hot cs sc es = true) (hn : es.length < 20) (hm : MtR X id r) (ho : PE X a to) (ha : PA X es t) : PE X (.Call (.Attribute a name apos) es [] pos) (tBM X.K T r to t) := by
  cases es with
  | nil =>
    refine ⟨fun pins s σ H Q I h => ?_⟩
    refine wpAny_Call_method0_late (base_of hp) hl (thn (ho.run pins s σ H _ I h) fun v s1 ⟨x, H1, I1, r1, ty, q1⟩ => ?_)
    obtain ⟨h1, h2⟩ := tyV_is I1 r1 ty
    refine ⟨T, id, pa, slot, hty, h1, h2, Calls.callWith_builtin rfl ?_⟩
    unfold evalArgs
    show wpAny _ _ (spliced [] >>= _) _ _ s1
    refine wpAny_bind (thn (ha.run pos pins s1 σ H1 _ I1 q1) fun us s2 ⟨vs, H2, I2, r2, q2⟩ => ?_)
    refine wpAny_bind (wpAny_pure ?_)
    refine wpAny_holding ?_
    exact wpAny_bind (wpAny_pure (wpAny_bind (wpAny_pure (wpAny_pure (hm pins s2 σ H2 x vs v us Q I2 r1 r2 q2)))))
  | cons e es =>
    obtain ⟨s1, s2⟩ := chkEs_star (env := X.env) (pos := pos) hs
    refine pe_bm pa slot hty hm ho ha (base_of hp) ?_ hl s1 s2
    rw [star_all hs]
    show (true && true && decide ((e :: es).length + 0 + 0 < 30)) = true
    have hn' : (e :: es).length + 0 + 0 < 30 := by omega
    rw [decide_eq_true hn'] <;> rfl
end
end
end EV

set_option Elab.async false
set_option linter.all false
set_option maxRecDepth 100000
set_option maxHeartbeats 2000000
/-! EvZ: what is raised, what is caught -/
namespace EV
open PySem PySem.Spec PyProof.Rows L2

section
variable {g : Gx} {G : Tb} {C : Cl} {tc : Tc} {N : List Str} {hot : Bool} {X : Cx} {W : WX} {sc : Scope} {fnb : Str → Bool} {pos : Pos} {n0 : Nat}
theorem e_xf (o : Okx g W G C tc X N hot sc fnb) {i : Nat} {x f : Str} {p : Pos} (hN : X.N[i]? = some x) (hv : visB sc x = true) : PE X (.Attribute (.Name x p) f pos) (tE g W (ev C G (.xf i f))) := by
  obtain ⟨v1, v2, v3⟩ := vis_of o hv
  cases hc : g.cur with
  | none =>
    refine ⟨fun pins s σ H Q I ⟨M, env, h, re, rh, w⟩ => ?_⟩
    rw [ev] at w
    split at w
    · rename_i c l es
      obtain ⟨v, _, a, d, _, e, _⟩ := re.sl i _ (sget_some es)
      rw [hc] at e; cases e
    · exact w.elim
  | some t =>
    obtain ⟨a, c, d⟩ := t
    obtain ⟨X0, oe, pn, rfl, hz, hf⟩ := o.cur a c d hc
    by_cases hm : f ∈ G.xg c
    · obtain ⟨T, hno⟩ := o.xg c f hm
      refine (pe_xf T hno hz.zc hf (pe_var hN v1 v2 v3)).weak fun σ H Q ⟨M, env, h, re, rh, w⟩ => ?_
      rw [ev] at w
      split at w
      · rename_i c' l es
        obtain ⟨v, ev1, a', d', rfl, e, rx⟩ := re.sl i _ (sget_some es)
        rw [hc] at e; cases e
        rw [if_pos hm] at w
        obtain ⟨q, el, w⟩ := wq_of w
        refine ⟨_, ev1, rfl, rfl, ?_⟩
        rcases rx with ⟨_, rfl⟩ | ⟨dd, fs, rfl, ed, nd, rf⟩
        · simp at el
        · obtain ⟨u, e1, e2⟩ := (RFs.lookup rf).1 q el
          exact ⟨dd, fs, u, rfl, ed, e1, wq_ok w M _ _ (Out.val rh e2)⟩
      · exact w.elim
    · refine ⟨fun pins s σ H Q I ⟨M, env, h, re, rh, w⟩ => ?_⟩
      rw [ev] at w
      split at w
      · rename_i c' l es
        obtain ⟨v, _, a', d', _, e, _⟩ := re.sl i _ (sget_some es)
        rw [hc] at e; cases e
        rw [if_neg hm] at w
        exact w.elim
      · exact w.elim
/-- isinstance(e, c), e the exception of the suite -/
def rIsX (K : PySem.W.Frag) (D a : Addr) (d : Option Addr) : List V → Hp → VK → Prop := fun xs H Q => ∃ (c : V) (cv : Value) (b : Bool), xs = [.ref a, c] ∧ ClsV c cv ∧ (d = none ∨ ∃ dd fs, d = some dd ∧ H dd = some (.xd fs)) ∧ PySem.W.kitOne K (.ref D) cv = some b ∧ Q (.bl b) H
theorem call_isX {X : Cx} {a D : Addr} {d : Option Addr} {oe : Obj} {pn : List (Addr × Obj)} (T : ExcC X.K D) (hz : Zc (.ref D) d oe) (hf : ∃ vs, oe.data = .fields vs) : CallR (X.suite a ((a, oe) :: pn)) (.builtin "isinstance") (rIsX X.K D a d) := by
  intro pins s σ H xs us Q I r h
  obtain ⟨c, cv, b, rfl, kc, hd, e, q⟩ := h
  cases r with
  | cons rx rr =>
    cases rr with
    | cons rt rr =>
      cases rr
      cases rx
      have ec := kc.eq rt
      subst ec
      obtain ⟨hget, _⟩ := I.pin (a, oe) (List.mem_append.mpr (.inl List.mem_cons_self))
      obtain ⟨vs, hv⟩ := hf
      obtain ⟨cd, hcd, _⟩ := PySem.W.any_some T.hd
      have hcl : (PySem.W.clsIn X.K D).isSome = true := by rw [hcd]; rfl
      have fin : ∀ od, PySem.W.InstAt s.heap a oe D od → wpAny (model X.prog X.w) (X.suite a ((a, oe) :: pn)).A (call (.builtin "isinstance") [.ref a, _]) (EP (X.suite a ((a, oe) :: pn)) pins σ Q) (X.suite a ((a, oe) :: pn)).xe s := fun od J =>
        PySem.W.kia_one (PySem.W.kitx_exc hcl T.hg T.hk T.hs T.ha T.hn T.ht T.hm) I.kIn J e (fun z => nomatch z) fun tk => ⟨.bl b, H, I.kept (t' := tk) fun _ _ z => z, rfl, q⟩
      obtain ⟨h1, h2⟩ := hz
      rcases hd with rfl | ⟨dd, fs, rfl, ed⟩
      · exact fin none ⟨hget, h1, by unfold PySem.W.notCls; rw [hv] <;> rfl, by rw [h2]; trivial⟩
      · obtain ⟨mA, hns, _⟩ := (show ObjOk X.prog X.w H s.heap dd (.xd fs) from I.hok dd _ ed)
        obtain ⟨od, ho, _⟩ := lookIn_ns hns
        exact fin (some od) ⟨hget, h1, by unfold PySem.W.notCls; rw [hv] <;> rfl, by rw [h2]; exact ho⟩
theorem e_xi (o : Okx g W G C tc X N hot sc fnb) {i : Nat} {y : Str} {p q : Pos} {t' : Expr} {t : Ty} (h1 : glB sc "isinstance" = true) (hN : X.N[i]? = some y) (hv : visB sc y = true) (ht : chkTy tc sc t t' = true) : PE X (.Call (.Name "isinstance" p) [.Name y q, t'] [] pos) (tE g W (ev C G (.xi i [t]))) := by
  obtain ⟨v1, v2, v3⟩ := vis_of o hv
  obtain ⟨g1, g2, g3⟩ := gl_of o h1
  have gm := o.bl "isinstance" (by decide)
  obtain ⟨cv, k1, k2⟩ := clsv_of o ht
  have hst : starEach [t'] X.env = (false, eval t' X.env) :: starEach [] X.env := by
    cases t' <;> first | rfl | exact no ht rfl
  have nop : ∀ {σ : L2.St} {H : Hp} {Q : VK}, (∀ c l, ∀ env : Fr, sget env i = some (.xc c l) → ∀ M, REnv g M H σ env → ∀ h, ¬ wq (do
      let b ← Rq.of (xtAny G c [t])
      pure (R.p (.bl b), h) : Rq (R × Hh)) (fun p => ∀ M' v H', Out g.toGc M H M' p.2 v H' p.1 → Q v H') (XP g W σ M H)) → ¬ tE g W (ev C G (.xi i [t])) σ H Q := fun {σ H Q} n ⟨M, env, h, re, rh, w⟩ => by
    rw [ev] at w
    split at w
    · rename_i c l es
      exact n c l env es M re h w
    · exact w
  cases hc : g.cur with
  | none =>
    refine ⟨fun pins s σ H Q I w => (nop (fun c l env es M re h _ => ?_) w).elim⟩
    obtain ⟨v, _, a, d, _, e, _⟩ := re.sl i _ (sget_some es)
    rw [hc] at e; cases e
  | some tt =>
    obtain ⟨a, c, d⟩ := tt
    obtain ⟨X0, oe, pn, rfl, hz, hf⟩ := o.cur a c d hc
    cases hxt : G.xt c t with
    | none =>
      refine ⟨fun pins s σ H Q I w => (nop (fun c' l env es M re h w => ?_) w).elim⟩
      obtain ⟨v, _, a', d', _, e, _⟩ := re.sl i _ (sget_some es)
      rw [hc] at e; cases e
      have e2 : xtAny G c [t] = none := by unfold xtAny; rw [hxt]; rfl
      rw [e2] at w; exact w
    | some b =>
      obtain ⟨kt, T⟩ := o.xt c t b hxt
      refine (pe_callB (call_isX T hz.zc hf) g1 gm (by decide +kernel) (pa_cons (pe_var hN v1 v2 v3) (pa_cons k1 pa_nil hst) rfl) (by decide) (by decide) rfl (by rw [hst]; rfl)).weak fun σ H Q ⟨M, env, h, re, rh, w⟩ => ?_
      rw [ev] at w
      split at w
      · rename_i c' l es
        obtain ⟨v, ev1, a', d', rfl, e, rx⟩ := re.sl i _ (sget_some es)
        rw [hc] at e; cases e
        obtain ⟨b', eb, w⟩ := wq_of w
        have e2 : b' = b := by
          unfold xtAny at eb
          rw [hxt] at eb
          cases b <;> (cases eb; rfl)
        subst e2
        refine ⟨_, ev1, _, _, _, rfl, k2, ?_, kt, wq_ok w M _ _ (Out.val rh .bl)⟩
        rcases rx with ⟨h, _⟩ | ⟨dd, fs, h, ed, _⟩
        · exact .inl h
        · exact .inr ⟨dd, fs, h, ed⟩
      · exact w.elim
theorem RFs.zipR {H : Hp} {N : Nx} : ∀ {F : List Str} {vs : List V} {ps : List P}, RPs g.toGc N H vs ps → RFs g.toGc N H (F.zip vs).reverse (F.zip ps).reverse := by
  have app : ∀ {a b : List (Str × V)} {c d : List (Str × P)}, RFs g.toGc N H a c → RFs g.toGc N H b d → RFs g.toGc N H (a ++ b) (c ++ d) := by
    intro a b c d h1 h2
    induction a generalizing c with
    | nil => cases h1; exact h2
    | cons x a ih => cases h1 with | cons r h1 => exact .cons r (ih h1)
  intro F
  induction F with
  | nil => intro vs ps _; exact .nil
  | cons f F ih =>
    intro vs ps h
    cases h with
    | nil => exact .nil
    | cons r h =>
      simp only [List.zip_cons_cons, List.reverse_cons]
      exact app (ih h) (.cons r .nil)
theorem pass_any {X : Cx} : Passes (L2N.CX X.prog X.w) X (fun _ _ _ => False) := fun pins σ H s e s' I c => by
  obtain ⟨a, B, H', cls, d, _, _, _, _, _, _, _, z⟩ := c
  exact z.elim
/-- raise C(e, ..) -/
theorem s_rai (o : Okx g W G C tc X N hot sc fnb) (hh : hot = false) {c f : Nat} (hc : c ∈ tc.xb) {x : Str} {e : Expr} {es : List Expr} {cs : List E} {p cp : Pos} (hx : tc.cn[c]? = some x) (hg : glB sc x = true) (hs : chkEs tc N hot cs sc (e :: es) = true) (ha : PA X (e :: es) (tAr g W (relP g.toGc) (evs C G cs))) :
    PS X (.Raise (some (.Call (.Name x p) (e :: es) [] cp)) none pos) (tSp g W n0 (evS C G n0 (.rai c f cs))) := by
  obtain ⟨g1, g2, g3⟩ := gl_of o hg
  obtain ⟨fs, hxi⟩ := o.xb c hc
  refine id ?_
  · obtain ⟨hF, h100, T, fI, fd, ps, iC, tI, F1, hb⟩ := o.xi c fs hxi
    obtain ⟨s1, s2⟩ := chkEs_star (env := X.env) (pos := cp) hs
    refine (L2N.ps_raise (o.calm hh) o.tk (pmk_x T iC tI F1 (o.rm hh) hb pass_any g1 (o.cn c x hx) ha g2 s1 s2)).weak fun D σ H ⟨M, env, h, re, rh, hn, w⟩ => ?_
    rw [evS] at w
    refine tAr.of re rh (wq_inS w) (EndOk.xp re hn (.refl hn) .refl) fun xs h1 M1 vs H1 st1 rh1 r1 w => ?_
    rw [hxi] at w
    dsimp only at w
    split at w
    · rename_i hl
      have hlv : vs.length = fs.length := by rw [r1.length, hl]
      refine ⟨by rw [hlv]; omega, fun a na => ?_⟩
      rw [List.append_nil]
      refine ⟨a, vs, rfl, hlv, upd_same, fun d H2 xe => ?_⟩
      have hd1 : H1 d = none := by
        have := xe.nd
        rwa [upd_ne xe.ne] at this
      refine ⟨rfl, d, _, xe.ea, xe.ed, hd1, ?_⟩
      have ex : Ext H1 (upd (del H2 a) d (.xd (fs.zip vs).reverse)) := fun b u eb => by
        have nd : b ≠ d := ne_of_none eb hd1
        have nb : b ≠ a := ne_of_none eb na
        rw [upd_ne nd, del_ne nb, xe.keep b nb nd, upd_ne nb]; exact eb
      have sx := st1.trans ex.sx
      exact w M1 σ _ (some d) (.sx hn sx) sx.st (re.sx sx) (rh1.ext ex) (.inr ⟨d, _, rfl, upd_same, rh1.notM hd1, RFs.zipR (r1.step ex.stp)⟩)
    · exact w.elim
/-- what a body's context has besides -/
structure Oks (X : Cx) : Prop where
  po : PassesOwn (model X.prog X.w) X.A X.env X.xe
  stk : X.stack = X.env :: X.outer
  frm : X.env.frame = some X.env.locals
theorem Okx.tr (o : Okx g W G C tc X N false sc fnb) {W' : WX} {pn : List (Addr × Obj)} {xe : Value → Shared → Prop} (tk : L2N.Takes (X.tr pn xe) W') : Okx g W' G C tc (X.tr pn xe) N false sc fnb where
  hK := o.hK
  hN := o.hN
  nd := o.nd
  sc := o.sc
  fn := o.fn
  calm := o.calm
  hotc := fun h => by cases h
  un := o.un
  tk := tk
  bl := o.bl
  gv := o.gv
  cn := o.cn
  fns := o.fns
  fl := o.fl
  ck := o.ck
  rm := o.rm
  xi := o.xi
  xs := o.xs
  xg := o.xg
  xt := o.xt
  cur := fun a c d e => by rw [o.cur0 rfl] at e; cases e
  cur0 := o.cur0
  xb := o.xb
theorem Okx.suite (o : Okx g W G C tc X N false sc fnb) {a : Addr} {oe : Obj} {c : Nat} {d : Option Addr} {pn : List (Addr × Obj)} (hz : L2N.Zn (.ref (g.ca c)) d oe) (hf : ∃ vs, oe.data = .fields vs) : Okx ⟨g.toGc, some (a, c, d)⟩ WF G C tc (X.suite a ((a, oe) :: pn)) N true sc fnb where
  hK := o.hK
  hN := o.hN
  nd := o.nd
  sc := o.sc
  fn := o.fn
  calm := fun h => by cases h
  hotc := fun _ => by
    obtain ⟨vs, hv⟩ := hf
    exact ⟨(a, oe), ⟨rfl, vs, hv, hz.2.2 vs hv⟩, List.mem_cons_self⟩
  un := o.un
  tk := takes_f
  bl := o.bl
  gv := o.gv
  cn := o.cn
  fns := fun f s e => by
    obtain ⟨k, fa, fd, ps, h1, h2, h3, h4, h5, h6⟩ := o.fns f s e
    exact ⟨k, fa, fd, ps, h1, h2, fun z => (by cases z), fun z => ⟨(h4 z).1, ⟨(h4 z).2.dp, (h4 z).2.un⟩⟩, h5, h6⟩
  fl := o.fl
  ck := o.ck
  rm := fun h => by cases h
  xi := o.xi
  xs := o.xs
  xg := o.xg
  xt := o.xt
  cur := fun a' c' d' e => by cases e; exact ⟨X, oe, pn, rfl, hz, hf⟩
  cur0 := fun h => by cases h
  xb := o.xb
end
end EV

set_option Elab.async false
set_option linter.all false
set_option maxRecDepth 100000
set_option maxHeartbeats 2000000
/-! EvS: every checked expression runs as its small form -/
namespace EV
open PySem PySem.Spec PyProof.Rows L2

section
variable {g : Gx} {G : Tb} {C : Cl} {tc : Tc} {N : List Str} {hot : Bool}
abbrev OkE (g : Gx) (G : Tb) (C : Cl) (tc : Tc) (N : List Str) (e : E) : Prop := ∀ (a : Expr) {hot : Bool} {W : WX} {X : Cx} {sc : Scope} {fnb : Str → Bool}, Okx g W G C tc X N hot sc fnb → chkE tc N hot e sc a = true → PE X a (tE g W (ev C G e))
abbrev OkT (g : Gx) (G : Tb) (C : Cl) (tc : Tc) (N : List Str) (t : T) : Prop := ∀ (a : Expr) {hot : Bool} {W : WX} {X : Cx} {sc : Scope} {fnb : Str → Bool}, Okx g W G C tc X N hot sc fnb → chkT tc N hot t sc a = true → PT X a (tTp g W (evT C G t)) ∧ ((∃ op vs p, a = .BoolOp op vs p) → PW X a (tTp g W (evT C G t)))
theorem g_names {X : Cx} {W : WX} {sc : Scope} {fnb : Str → Bool} (o : Okx g W G C tc X N hot sc fnb) : ∀ {is : List Nat} {es : List Expr}, chkNs N sc fnb is es = true → PGs X es (tGts g is) ∧ es.length = is.length ∧ (assignEach es X.env).length = is.length ∧ (assignEach es X.env).findIdx? (·.1) = none
  | [], [], _ => ⟨gs_nil, rfl, rfl, rfl⟩
  | i :: is, e :: es, h => by
    obtain ⟨h1, h2⟩ := and2 h
    cases e with
    | Name x p =>
      obtain ⟨h3, h4⟩ := and2 h1
      obtain ⟨l1, l2⟩ := loc_of o h4
      obtain ⟨q1, q2, q3, q4⟩ := g_names o h2
      refine ⟨gs_cons o.nd (by rw [o.hN]; exact of_decide_eq_true h3) l1 l2 q1 rfl, by simp [q2], ?_, ?_⟩
      · show ((false, assign (.Name x p) X.env) :: assignEach es X.env).length = _
        simp [q3]
      · show ((false, assign (.Name x p) X.env) :: assignEach es X.env).findIdx? (·.1) = none
        rw [List.findIdx?_cons, q4]; rfl
    | _ => exact no h1 rfl
  | [], _ :: _, h => no h rfl
  | _ :: _, [], h => no h rfl
theorem g_ok {X : Cx} {W : WX} {sc : Scope} {fnb : Str → Bool} (o : Okx g W G C tc X N hot sc fnb) {t : Tg} {e : Expr} (h : chkTg N hot sc fnb t e = true) : PG X e (tGt g t) := by
  cases t with
  | n i =>
    cases e with
    | Name x p =>
      obtain ⟨h3, h4⟩ := and2 h
      obtain ⟨l1, l2⟩ := loc_of o h4
      exact g_name o.nd (by rw [o.hN]; exact of_decide_eq_true h3) l1 l2
    | _ => exact no h rfl
  | t is =>
    cases e with
    | Tuple es k p =>
      obtain ⟨hh, h⟩ := and2 h
      obtain ⟨q1, q2, q3, q4⟩ := g_names o (is := is) (es := es) h
      have hc := o.calm (not_f hh)
      exact g_tup o.hK hc q2 q1 rfl fun h => pg_tup hc h q3 q4
    | _ => exact no h rfl
theorem lcg_ok {X : Cx} {W : WX} {sc : Scope} {fnb : Str → Bool} (o : Okx g W G C tc X N false sc fnb) {t : Tg} {e : Expr} {scope : Scope} (h : chkTg N false (relS scope sc) (fun x => scope.names.lookup x == some .cell) t e = true) :
    ∀ (s : Shared) (H : Hp) (C : Addr) (cl : List (Str × Addr)) (fp : List Addr), PG (X.blk s H scope (compEnvC scope cl C X.env) fp) e (tGt g t) := fun s H Ca cl fp => g_ok (o.blk s H scope Ca cl fp) h
theorem ok_isi {W : WX} {X : Cx} {sc : Scope} {fnb : Str → Bool} {pos q : Pos} (o : Okx g W G C tc X N hot sc fnb) {a t' : Expr} {ts : List Ty} {ea : E} (h1 : glB sc "isinstance" = true) (h4 : (match t' with
    | .Tuple es _ _ => !ts.isEmpty && decide (ts.length < 100) && chkTys tc sc ts es
    | e => chkTys tc sc ts [e]) = true) (ha : PE X a (tE g W (ev C G ea))) (hs : ∀ {es : List Expr}, starEach (a :: es) X.env = (false, eval a X.env) :: starEach es X.env) :
    PE X (.Call (.Name "isinstance" q) [a, t'] [] pos) (tE g W (ev C G (.isi ea ts))) := by
  obtain ⟨g1, g2, g3⟩ := gl_of o h1
  have gm := o.bl "isinstance" (by decide)
  cases t' with
  | Tuple es k p2 =>
    obtain ⟨z1, z2, z3⟩ := and3 h4
    obtain ⟨cvs, c1, c2, c3⟩ := clsvs_of o z3
    refine e_isiT o.hK o.ck ha c1 c2 (fun e => by subst e; cases z1) ?_ g1 gm hs
    rw [c3, sizeLine_eq]
    have := of_decide_eq_true z2
    omega
  | Name x p =>
    match ts, h4 with
    | [t], h4 =>
      obtain ⟨cv, k1, k2⟩ := clsv_of o (and2 h4).1
      exact e_isi1 o.hK o.ck ha k1 k2 g1 gm hs rfl rfl
    | [], h4 => exact no h4 rfl
    | _ :: _ :: _, h4 => exact no (and2 h4).2 rfl
  | _ =>
    cases ts with
    | nil => exact no h4 rfl
    | cons t ts => exact no (and2 h4).1 rfl
theorem ownOf_snd {is : List Nat} : (ownOf N is).map (·.2) = is := by unfold ownOf; rw [List.map_map]; exact List.map_id is
mutual
theorem okE : ∀ (e : E), OkE g G C tc N e
  | .var i, a, _, _, _, _, _, o, h => by
    cases a with
    | Name x p =>
      obtain ⟨h1, h2⟩ := and2 h
      obtain ⟨q1, q2, q3⟩ := vis_of o h2
      exact e_var (by rw [o.hN]; exact of_decide_eq_true h1) q1 q2 q3
    | _ => exact no h rfl
  | .gv i, a, _, _, _, _, _, o, h => by
    cases a with
    | Name x p =>
      obtain ⟨h1, h2⟩ := and2 h
      obtain ⟨q1, q2, q3⟩ := gl_of o h2
      obtain ⟨v, u, p, e1, e2, e3, e4⟩ := o.gv i x (of_decide_eq_true h1)
      exact e_gv e1 e4 (pe_glob q1 e2 e3 q2)
    | _ => exact no h rfl
  | .int i, a, _, _, _, _, _, o, h => by
    cases a with
    | Constant c j p =>
      cases c with
      | int k =>
        have e : i = k := of_decide_eq_true h
        subst e
        exact e_tC (fun _ _ => rfl) (fun _ _ => .int) pe_int
      | _ => exact no h rfl
    | _ => exact no h rfl
  | .str i, a, _, _, _, _, _, o, h => by
    cases a with
    | Constant c j p =>
      cases c with
      | str k =>
        have e : i = k := of_decide_eq_true h
        subst e
        exact e_tC (fun _ _ => rfl) (fun _ _ => .str) pe_str
      | _ => exact no h rfl
    | _ => exact no h rfl
  | .non, a, _, _, _, _, _, o, h => by
    cases a with
    | Constant c j p =>
      cases c with
      | none => exact e_tC (fun _ _ => rfl) (fun _ _ => .non) pe_non
      | _ => exact no h rfl
    | _ => exact no h rfl
  | .bl b, a, _, _, _, _, _, o, h => by
    cases a with
    | Constant c j p =>
      cases c with
      | bool k =>
        have e : b = k := of_decide_eq_true h
        subst e
        exact e_tC (fun _ _ => rfl) (fun _ _ => .bl) pe_bl
      | _ => exact no h rfl
    | _ => exact no h rfl
  | .bin op x y, a, _, _, _, _, _, o, h => by
    cases a with
    | BinOp a' op' b' p =>
      obtain ⟨h1, h2, h3⟩ := and3 h
      have e : op = op' := of_decide_eq_true h1
      subst e
      exact e_bin o.hK (okE x a' o h2) (okE y b' o h3)
    | _ => exact no h rfl
  | .neg x, a, _, _, _, _, _, o, h => by
    cases a with
    | UnaryOp op a' p =>
      cases op with
      | USub => exact e_neg (okE x a' o h)
      | _ => exact no h rfl
    | _ => exact no h rfl
  | .cmp op x y, a, _, _, _, _, _, o, h => by
    cases a with
    | Compare a' ops bs p =>
      match ops, bs, h with
      | [op'], [b'], h =>
        obtain ⟨h1, h2, h3, h4⟩ := and4 h
        have e : op = op' := of_decide_eq_true h1
        subst e
        exact e_cmp o.hK o.un (okE x a' o h2) (okE y b' o h3) (not_f h4)
      | [], _, h => exact no h rfl
      | _ :: _ :: _, _, h => exact no h rfl
      | [_], [], h => exact no h rfl
      | [_], _ :: _ :: _, h => exact no h rfl
    | _ => exact no h rfl
  | .chn op1 op2 x y z, a, _, _, _, _, _, o, h => by
    cases a with
    | Compare a' ops bs p =>
      match ops, bs, h with
      | [o1, o2], [b', c'], h =>
        obtain ⟨h1, h2, h3, h4, h5, h6⟩ := and6 h
        have e : op1 = o1 := of_decide_eq_true h1
        have e2 : op2 = o2 := of_decide_eq_true h2
        subst e e2
        exact e_chn o.hK o.un (okE x a' o h3) (okE y b' o h4) (okE z c' o h5) (not_f h6)
      | [], _, h => exact no h rfl
      | [_], _, h => exact no h rfl
      | _ :: _ :: _ :: _, _, h => exact no h rfl
      | [_, _], [], h => exact no h rfl
      | [_, _], [_], h => exact no h rfl
      | [_, _], _ :: _ :: _ :: _, h => exact no h rfl
    | _ => exact no h rfl
  | .and x y, a, _, _, _, _, _, o, h => by
    cases a with
    | BoolOp op vs p =>
      match op, vs, h with
      | .And, a' :: b' :: r, h =>
        obtain ⟨h1, h2⟩ := and2 h
        exact e_and o.hK (okE x a' o h1) (okE y _ o h2)
      | .Or, _, h => exact no h rfl
      | .And, [], h => exact no h rfl
      | .And, [_], h => exact no h rfl
    | _ => exact no h rfl
  | .or x y, a, _, _, _, _, _, o, h => by
    cases a with
    | BoolOp op vs p =>
      match op, vs, h with
      | .Or, a' :: b' :: r, h =>
        obtain ⟨h1, h2⟩ := and2 h
        exact e_or o.hK (okE x a' o h1) (okE y _ o h2)
      | .And, _, h => exact no h rfl
      | .Or, [], h => exact no h rfl
      | .Or, [_], h => exact no h rfl
    | _ => exact no h rfl
  | .one x, a, _, _, _, _, _, o, h => by
    cases a with
    | BoolOp op vs p =>
      match vs, h with
      | [a'], h => exact pe_one (okE x a' o h)
      | [], h => exact no h rfl
      | _ :: _ :: _, h => exact no h rfl
    | _ => exact no h rfl
  | .hp x, a, _, _, _, _, _, o, h => by
    have h' : chkE tc N _ x _ a = true := (and2 h).2
    exact e_hp (okE x a o h')
  | .not x, a, _, _, _, _, _, o, h => by
    cases a with
    | UnaryOp op a' p =>
      cases op with
      | Not => exact e_not o.hK (okE x a' o h)
      | _ => exact no h rfl
    | _ => exact no h rfl
  | .ite c x y, a, _, _, _, _, _, o, h => by
    cases a with
    | IfExp c' a' b' p =>
      obtain ⟨h1, h2, h3⟩ := and3 h
      exact e_ite (okT c c' o h1).1 (okE x a' o h2) (okE y b' o h3)
    | _ => exact no h rfl
  | .tup es, a, _, _, _, _, _, o, h => by
    cases a with
    | Tuple es' k p => exact e_tup (okP es es' o h)
    | _ => exact no h rfl
  | .lst es, a, _, _, _, _, _, o, h => by
    cases a with
    | List es' p => exact e_lst (okP es es' o h)
    | _ => exact no h rfl
  | .idx x y, a, _, _, _, _, _, o, h => by
    cases a with
    | Subscript a' b' p =>
      have h' : (chkE tc N _ x _ a' && chkE tc N _ y _ b') = true := h
      obtain ⟨h1, h2⟩ := and2 h'
      exact e_idx o.hK (by have := o.un; omega) (okE x a' o h1) (okE y b' o h2) (plainIx_of h2)
    | _ => exact no h rfl
  | .slc x lo hi, a, _, _, _, _, _, o, h => by
    cases a with
    | Subscript a' b' p =>
      cases b' with
      | Slice l u s q =>
        cases s with
        | none =>
          obtain ⟨h1, h2, h3⟩ := and3 h
          exact e_slc o.hK (okE x a' o h1) (okO lo l o h2) (okO hi u o h3)
        | some _ => exact no h rfl
      | _ => exact no h rfl
    | _ => exact no h rfl
  | .call f es, a, _, _, _, _, _, o, h => by
    cases a with
    | Call fn es' kw p =>
      cases fn with
      | Name x q =>
        cases kw with
        | nil =>
          obtain ⟨h1, h2, h3⟩ := and3 h
          exact ok_call o h1 h2 h3 (okA es es' o h3)
        | cons => exact no h rfl
      | _ => exact no h rfl
    | _ => exact no h rfl
  | .mk c f es, a, _, _, _, _, _, o, h => by
    cases a with
    | Call fn es' kw p =>
      cases fn with
      | Name x q =>
        cases kw with
        | nil =>
          obtain ⟨h0, h1, h2, h3⟩ := and4 h
          exact ok_mk o (not_f h0) h1 h2 h3 (okA es es' o h3)
        | cons => exact no h rfl
      | _ => exact no h rfl
    | _ => exact no h rfl
  | .blt b es, a, _, _, _, _, _, o, h => by
    cases a with
    | Call fn es' kw p =>
      cases fn with
      | Name x q =>
        match es', kw, h with
        | e' :: es', [], h =>
          obtain ⟨h0, h1, h2, h3⟩ := and4 h
          have e : bltN b = x := of_decide_eq_true h2
          subst e
          exact ok_blt o h0 h1 h3 (okB es _ o h3)
        | [], _, h => exact no h rfl
        | _ :: _, _ :: _, h => exact no h rfl
      | _ => exact no h rfl
    | _ => exact no h rfl
  | .isi x ts, a, _, _, _, _, _, o, h => by
    cases a with
    | Call fn es' kw p =>
      cases fn with
      | Name nm q =>
        match es', kw, h with
        | [a', t'], [], h =>
          obtain ⟨h1, h2, h3, h4⟩ := and4 h
          have e : nm = ("isinstance" : Str) := of_decide_eq_true h2
          subst e
          exact ok_isi o h1 h4 (okE x a' o h3) (star_cons h3)
        | [], _, h => exact no h rfl
        | [_], _, h => exact no h rfl
        | _ :: _ :: _ :: _, _, h => exact no h rfl
        | [_, _], _ :: _, h => exact no h rfl
      | _ => exact no h rfl
    | _ => exact no h rfl
  | .fld x f, a, _, _, _, _, _, o, h => by
    cases a with
    | Attribute a' f' p =>
      obtain ⟨h1, h2, h3⟩ := and3 h
      have e : f = f' := of_decide_eq_true h1
      subst e
      exact e_fld (fun c hc => o.fl c f hc) (okE x a' o h2) (base_of h3)
    | _ => exact no h rfl
  | .prp c f x, a, _, _, _, _, _, o, h => by
    cases a with
    | Attribute a' f' p =>
      obtain ⟨h0, h1, h2, h3⟩ := and4 h
      exact ok_prp o (not_f h0) h1 (okE x a' o h2) h3
    | _ => exact no h rfl
  | .pmt c f m x es, a, _, _, _, _, _, o, h => by
    cases a with
    | Call fn es' kw p =>
      cases fn with
      | Attribute o' m' ap =>
        cases kw with
        | nil =>
          obtain ⟨h0, h⟩ := and8 h
          obtain ⟨h1, h2, h3, h4, h5, h6, h7⟩ := h
          have e : m = m' := of_decide_eq_true h1
          subst e
          exact ok_pmt o (not_f h0) h2 h4 h7 h5 (of_decide_eq_true h6) (okE x o' o h3) (okA es es' o h5)
        | cons => exact no h rfl
      | _ => exact no h rfl
    | _ => exact no h rfl
  | .mth m x es, a, _, _, _, _, _, o, h => by
    cases a with
    | Call fn es' kw p =>
      cases fn with
      | Attribute o' m' ap =>
        cases kw with
        | nil =>
          obtain ⟨h1, h2, h3, h4, h5, h6⟩ := and6 h
          have e : mtName m = m' := of_decide_eq_true h1
          subst e
          obtain ⟨s1, s2, s3⟩ := mt_slot m
          exact e_mth o.hK (by have := o.un; omega) (okE x o' o h2) (okP es es' o h4) fun hm ho ha => ok_bm s1 s2 s3 h3 h6 h4 (of_decide_eq_true h5) hm ho ha
        | cons => exact no h rfl
      | _ => exact no h rfl
    | _ => exact no h rfl
  | .mut m x es, a, _, _, _, _, _, o, h => by
    cases a with
    | Call fn es' kw p =>
      cases fn with
      | Attribute o' m' ap =>
        cases kw with
        | nil =>
          obtain ⟨h1, h2, h3, h4, h5, h6⟩ := and6 h
          have e : muName m = m' := of_decide_eq_true h1
          subst e
          obtain ⟨s1, s2, s3⟩ := mu_slot m
          exact e_mut (by have := o.un; omega) (okE x o' o h2) (okP es es' o h4) fun hm ho ha => ok_bm s1 s2 s3 h3 h6 h4 (of_decide_eq_true h5) hm ho ha
        | cons => exact no h rfl
      | _ => exact no h rfl
    | _ => exact no h rfl
  | .lc src tg cond elt, a, _, _, _, _, _, o, h => by
    cases a with
    | ListComp elt' gens scope p =>
      match gens, h with
      | [⟨tg', iter', ifs', as'⟩], h =>
        obtain ⟨hh, h0, h1, h2, h3, h4, h5⟩ := and7 h
        have e0 : as' = 0 := of_decide_eq_true h0
        subst e0
        have hc := o.calm (not_f hh)
        cases not_f hh
        have hi := okI src iter' tg' o h2
        have fs : ∀ {env : Env} x, foldedSetIterable iter' env x = pure x := fun {env} => foldS_of (env := env) (chkI_set h2)
        exact e_lc o.nd hi (by have := blkOk_by h1; rw [← o.hN, ← o.sc] at this; exact this) ownOf_snd (lcg_ok o h3)
          (fun s H Ca cl fp => okTs cond ifs' (o.blk s H scope Ca cl fp) h4) (fun s H Ca cl fp => okE elt elt' (o.blk s H scope Ca cl fp) h5)
          (T := fun t => PE _ _ t) (pe_lc hc o.nd hi (by have := blkOk_by h1; rw [← o.hN, ← o.sc] at this; exact this) (lcg_ok o h3)
          (fun s H Ca cl fp => okTs cond ifs' (o.blk s H scope Ca cl fp) h4) (fun s H Ca cl fp => okE elt elt' (o.blk s H scope Ca cl fp) h5) (fun x => fs x)) fun hh ww => hh.weak ww
      | [], h => exact no h rfl
      | _ :: _ :: _, h => exact no h rfl
    | _ => exact no h rfl
  | .dc _ _ _ _ _, a, _, _, _, _, _, o, h => no h (by cases a <;> rfl)
  | .dis _ _, a, _, _, _, _, _, o, h => no h (by cases a <;> rfl)
  | .xf i f, a, _, _, _, _, _, o, h => by
    cases a with
    | Attribute a' f' p =>
      cases a' with
      | Name x q =>
        obtain ⟨h1, h2, h3⟩ := and3 h
        have e : f = f' := of_decide_eq_true h3
        subst e
        exact e_xf o (by rw [o.hN]; exact of_decide_eq_true h1) h2
      | _ => exact no h rfl
    | _ => exact no h rfl
  | .xi i ts, a, _, _, _, _, _, o, h => by
    cases a with
    | Call fn es' kw p =>
      cases fn with
      | Name nm q =>
        match es', kw, h with
        | [a', t'], [], h =>
          obtain ⟨h1, h2, h3, h4⟩ := and4 h
          have e : nm = ("isinstance" : Str) := of_decide_eq_true h2
          subst e
          cases a' with
          | Name y q2 =>
            obtain ⟨h5, h6⟩ := and2 h3
            match ts, h4 with
            | [t], h4 => exact e_xi o h1 (by rw [o.hN]; exact of_decide_eq_true h5) h6 h4
            | [], h4 => cases h4
            | _ :: _ :: _, h4 => cases h4
          | _ => exact no h3 rfl
        | [], _, h => exact no h rfl
        | [_], _, h => exact no h rfl
        | _ :: _ :: _ :: _, _, h => exact no h rfl
        | [_, _], _ :: _, h => exact no h rfl
      | _ => exact no h rfl
    | _ => exact no h rfl
theorem okP : ∀ (es : List E) (as : List Expr) {hot : Bool} {W : WX} {X : Cx} {sc : Scope} {fnb : Str → Bool}, Okx g W G C tc X N hot sc fnb → chkEs tc N hot es sc as = true → PA X as (tAr g W (relP g.toGc) (evs C G es))
  | [], [], _, _, _, _, _, o, h => a_nil (fun _ _ => rfl) fun _ _ => .nil
  | e :: es, a :: as, _, _, _, _, _, o, h => a_consP (okE e a o (and2 h).1) (okP es as o (and2 h).2) (star_cons (and2 h).1)
  | [], _ :: _, _, _, _, _, _, o, h => no h rfl
  | _ :: _, [], _, _, _, _, _, o, h => no h rfl
theorem okA : ∀ (es : List E) (as : List Expr) {hot : Bool} {W : WX} {X : Cx} {sc : Scope} {fnb : Str → Bool}, Okx g W G C tc X N hot sc fnb → chkEs tc N hot es sc as = true → PA X as (tAr g W (relA g.toGc) (evA C G es))
  | [], [], _, _, _, _, _, o, h => a_nil (fun _ _ => rfl) fun _ _ => trivial
  | e :: es, a :: as, _, _, _, _, _, o, h => a_consA (okE e a o (and2 h).1) (okA es as o (and2 h).2) (star_cons (and2 h).1)
  | [], _ :: _, _, _, _, _, _, o, h => no h rfl
  | _ :: _, [], _, _, _, _, _, o, h => no h rfl
theorem okB : ∀ (es : List E) (as : List Expr) {hot : Bool} {W : WX} {X : Cx} {sc : Scope} {fnb : Str → Bool}, Okx g W G C tc X N hot sc fnb → chkEs tc N hot es sc as = true → PA X as (tAr g W (relB g.toGc) (evB C G es))
  | [], [], _, _, _, _, _, o, h => a_nil (fun _ _ => rfl) fun _ _ => trivial
  | e :: es, a :: as, _, _, _, _, _, o, h => a_consB (okE e a o (and2 h).1) (okB es as o (and2 h).2) (star_cons (and2 h).1)
  | [], _ :: _, _, _, _, _, _, o, h => no h rfl
  | _ :: _, [], _, _, _, _, _, o, h => no h rfl
theorem okO : ∀ (eo : Option E) (ao : Option Expr) {hot : Bool} {W : WX} {X : Cx} {sc : Scope} {fnb : Str → Bool}, Okx g W G C tc X N hot sc fnb → chkO tc N hot eo sc ao = true → PO X ao (tOi g W (evO C G eo))
  | none, none, _, _, _, _, _, o, h => o_none
  | some e, some a, _, _, _, _, _, o, h => o_some (okE e a o h)
  | none, some _, _, _, _, _, _, o, h => no h rfl
  | some _, none, _, _, _, _, _, o, h => no h rfl
theorem okT : ∀ (t : T), OkT g G C tc N t
  | .v e, a, _, _, _, _, _, o, h => by
    have h' : (plainTest a && chkE tc N _ e _ a) = true := h
    obtain ⟨h1, h2⟩ := and2 h'
    refine ⟨t_val o.hK (okE e a o h2) (isTrue_of h1), fun ⟨op, vs, p, ea⟩ => ?_⟩
    subst ea
    cases h1
  | .cmp op x y, a, _, _, _, _, _, o, h => by
    cases a with
    | Compare a' ops bs p =>
      match ops, bs, h with
      | [op'], [b'], h =>
        obtain ⟨h1, h2, h3, h4⟩ := and4 h
        have e : op = op' := of_decide_eq_true h1
        subst e
        exact ⟨t_cmp o.hK o.un (okE x a' o h2) (okE y b' o h3) (not_f h4), fun ⟨_, _, _, ea⟩ => by cases ea⟩
      | [], _, h => exact no h rfl
      | _ :: _ :: _, _, h => exact no h rfl
      | [_], [], h => exact no h rfl
      | [_], _ :: _ :: _, h => exact no h rfl
    | _ => exact no h rfl
  | .chn op1 op2 x y z, a, _, _, _, _, _, o, h => by
    cases a with
    | Compare a' ops bs p =>
      match ops, bs, h with
      | [o1, o2], [b', c'], h =>
        obtain ⟨h1, h2, h3, h4, h5, h6⟩ := and6 h
        have e : op1 = o1 := of_decide_eq_true h1
        have e2 : op2 = o2 := of_decide_eq_true h2
        subst e e2
        exact ⟨t_chn o.hK o.un (okE x a' o h3) (okE y b' o h4) (okE z c' o h5) (not_f h6), fun ⟨_, _, _, ea⟩ => by cases ea⟩
      | [], _, h => exact no h rfl
      | [_], _, h => exact no h rfl
      | _ :: _ :: _ :: _, _, h => exact no h rfl
      | [_, _], [], h => exact no h rfl
      | [_, _], [_], h => exact no h rfl
      | [_, _], _ :: _ :: _ :: _, h => exact no h rfl
    | _ => exact no h rfl
  | .and x y, a, _, _, _, _, _, o, h => by
    cases a with
    | BoolOp op vs p =>
      match op, vs, h with
      | .And, a' :: b' :: r, h =>
        obtain ⟨h1, h2⟩ := and2 h
        have q := tw_and (okT x a' o h1).1 ((okT y _ o h2).2 ⟨_, _, _, rfl⟩)
        exact ⟨q.pt, fun _ => q⟩
      | .Or, _, h => exact no h rfl
      | .And, [], h => exact no h rfl
      | .And, [_], h => exact no h rfl
    | _ => exact no h rfl
  | .or x y, a, _, _, _, _, _, o, h => by
    cases a with
    | BoolOp op vs p =>
      match op, vs, h with
      | .Or, a' :: b' :: r, h =>
        obtain ⟨h1, h2⟩ := and2 h
        have q := tw_or (okT x a' o h1).1 ((okT y _ o h2).2 ⟨_, _, _, rfl⟩)
        exact ⟨q.pt, fun _ => q⟩
      | .And, _, h => exact no h rfl
      | .Or, [], h => exact no h rfl
      | .Or, [_], h => exact no h rfl
    | _ => exact no h rfl
  | .one x, a, _, _, _, _, _, o, h => by
    cases a with
    | BoolOp op vs p =>
      match op, vs, h with
      | .And, [a'], h =>
        have q := pw_and1 (pos := p) (okT x a' o h).1
        exact ⟨q.pt, fun _ => q⟩
      | .Or, [a'], h =>
        have q := pw_or1 (pos := p) (okT x a' o h).1
        exact ⟨q.pt, fun _ => q⟩
      | _, [], h => exact no h (by rename_i op; cases op <;> rfl)
      | _, _ :: _ :: _, h => exact no h (by rename_i op; cases op <;> rfl)
    | _ => exact no h rfl
  | .not x, a, _, _, _, _, _, o, h => by
    cases a with
    | UnaryOp op a' p =>
      cases op with
      | Not => exact ⟨t_not (okT x a' o h).1, fun ⟨_, _, _, ea⟩ => by cases ea⟩
      | _ => exact no h rfl
    | _ => exact no h rfl
theorem okTs : ∀ (ts : List T) (as : List Expr) {hot : Bool} {W : WX} {X : Cx} {sc : Scope} {fnb : Str → Bool}, Okx g W G C tc X N hot sc fnb → chkTs tc N hot ts sc as = true → PTs X as (tTp g W (evTs C G ts))
  | [], [], _, _, _, _, _, o, h => pts_nil.weak fun σ H Q ⟨M, env, hh, re, rh, w⟩ => by
    rw [evTs] at w
    exact w M H Sx.refl rh
  | [t], [a], _, _, _, _, _, o, h => pts_one ((okT t a o h).1)
  | [], _ :: _, _, _, _, _, _, o, h => no h rfl
  | _ :: _ :: _, _, _, _, _, _, _, o, h => no h rfl
  | [_], [], _, _, _, _, _, o, h => no h rfl
  | [_], _ :: _ :: _, _, _, _, _, _, o, h => no h rfl
theorem okI : ∀ (i : I) (a tg : Expr) {hot : Bool} {W : WX} {X : Cx} {sc : Scope} {fnb : Str → Bool}, Okx g W G C tc X N hot sc fnb → chkI tc N hot i sc a tg = true → PI X tg a (tIt g W (evI C G i))
  | .e x, a, tg, _, _, _, _, _, o, h => i_e o.hK (okE x a o (and2 h).1)
  | .rng1 x, a, tg, _, _, _, _, _, o, h => by
    cases a with
    | Call fn es' kw p =>
      cases fn with
      | Name nm q =>
        match es', kw, h with
        | [a'], [], h =>
          obtain ⟨h1, h2, h3⟩ := and3 h
          have e : nm = ("range" : Str) := of_decide_eq_true h2
          subst e
          obtain ⟨g1, g2, g3⟩ := gl_of o h1
          exact i_rng1 g1 (o.bl _ (by decide)) (okE x a' o h3) (star_cons h3)
        | [], _, h => exact no h rfl
        | _ :: _ :: _, _, h => exact no h rfl
        | [_], _ :: _, h => exact no h rfl
      | _ => exact no h rfl
    | _ => exact no h rfl
  | .rng2 x y, a, tg, _, _, _, _, _, o, h => by
    cases a with
    | Call fn es' kw p =>
      cases fn with
      | Name nm q =>
        match es', kw, h with
        | [a', b'], [], h =>
          obtain ⟨h1, h2, h3, h4⟩ := and4 h
          have e : nm = ("range" : Str) := of_decide_eq_true h2
          subst e
          obtain ⟨g1, g2, g3⟩ := gl_of o h1
          exact i_rng2 g1 (o.bl _ (by decide)) (okE x a' o h3) (okE y b' o h4) (by rw [star_cons h3, star_cons h4]; rfl) (star_cons h4)
        | [], _, h => exact no h rfl
        | [_], _, h => exact no h rfl
        | _ :: _ :: _ :: _, _, h => exact no h rfl
        | [_, _], _ :: _, h => exact no h rfl
      | _ => exact no h rfl
    | _ => exact no h rfl
  | .zip x y, a, tg, _, _, _, _, _, o, h => by
    cases a with
    | Call fn es' kw p =>
      cases fn with
      | Name nm q =>
        match es', kw, h with
        | [a', b'], [], h =>
          cases tg with
          | Tuple els kk tp =>
          obtain ⟨h1, h2, h3, h4⟩ := and4 h
          have e : nm = ("zip" : Str) := of_decide_eq_true h2
          subst e
          obtain ⟨g1, g2, g3⟩ := gl_of o h1
          exact i_zip o.hK g1 (o.bl _ (by decide)) (okE x a' o h3) (okE y b' o h4) (star_cons h3) (star_cons h4) (by rw [star_cons h4]; rfl)
          | _ => exact no h rfl
        | [], _, h => exact no h rfl
        | [_], _, h => exact no h rfl
        | _ :: _ :: _ :: _, _, h => exact no h rfl
        | [_, _], _ :: _, h => exact no h rfl
      | _ => exact no h rfl
    | _ => exact no h rfl
  | .enum x, a, tg, _, _, _, _, _, o, h => by
    cases a with
    | Call fn es' kw p =>
      cases fn with
      | Name nm q =>
        match es', kw, h with
        | [a'], [], h =>
          cases tg with
          | Tuple els kk tp =>
            obtain ⟨h1, h2, h3⟩ := and3 h
            have e : nm = ("enumerate" : Str) := of_decide_eq_true h2
            subst e
            obtain ⟨g1, g2, g3⟩ := gl_of o h1
            exact i_enum o.hK g1 (o.bl _ (by decide)) (okE x a' o h3) (star_cons h3)
          | _ => exact no h rfl
        | [], _, h => exact no h rfl
        | _ :: _ :: _, _, h => exact no h rfl
        | [_], _ :: _, h => exact no h rfl
      | _ => exact no h rfl
    | _ => exact no h rfl
end
end
end EV

set_option Elab.async false
set_option linter.all false
set_option maxRecDepth 100000
set_option maxHeartbeats 2000000
/-! EvT: statements that are checked -/
namespace EV
open PySem PySem.Spec PyProof.Rows L2

/-- what may be stored in a name -/
def setB : E → Expr → Bool
  | .lc .., .ListComp .. => true
  | _, a => notComp a
section
variable (tc : Tc) (N : List Str) (sc : Scope) (fnb : Str → Bool)
def isRng1 : I → Bool
  | .rng1 _ => true
  | _ => false
def chkSet (hot : Bool) (i : Nat) (e : E) (x : Str) (a : Expr) : Bool := decide (N[i]? = some x) && locB sc fnb x && chkE tc N hot e sc a && setB e a
/-- the one target -/
def asgN : List Expr → Option Str
  | [.Name x _] => some x
  | _ => none
def asgSub : List Expr → Option (Expr × Expr)
  | [.Subscript a b _] => some (a, b)
  | _ => none
def asgAtt : List Expr → Option (Expr × Str)
  | [.Attribute a f _] => some (a, f)
  | _ => none
def rCall : Stmt → Option (Str × Expr × List Expr)
  | .Raise (some (.Call (.Name x _) (e :: es) [] _)) none _ => some (x, e, es)
  | _ => none
def tryOf : Stmt → Option (List Stmt × Str × Str × Stmt × List Stmt)
  | .Try b [.ExceptHandler (some (.Name x _)) (some n) (b0 :: s) _] [] [] _ => some (b, x, n, b0, s)
  | _ => none
theorem rCall_ok {st : Stmt} {x : Str} {e : Expr} {es : List Expr} (h : rCall st = some (x, e, es)) : ∃ p1 p2 p3, st = .Raise (some (.Call (.Name x p1) (e :: es) [] p2)) none p3 := by
  unfold rCall at h
  split at h
  · cases h; exact ⟨_, _, _, rfl⟩
  · cases h
theorem tryOf_ok {st : Stmt} {b : List Stmt} {x n : Str} {b0 : Stmt} {s : List Stmt} (h : tryOf st = some (b, x, n, b0, s)) : ∃ p1 p2 p3, st = .Try b [.ExceptHandler (some (.Name x p1)) (some n) (b0 :: s) p2] [] [] p3 := by
  unfold tryOf at h
  split at h
  · cases h; exact ⟨_, _, _, rfl⟩
  · cases h
mutual
def chkS : Bool → S → Stmt → Bool
  | hot, .bad, _ => true
  | hot, .set i e, .Assign ts a _ => (match asgN ts with | some x => chkSet tc N sc fnb hot i e x a | none => false)
  | hot, .new i e, .Assign ts a _ => (match asgN ts with | some x => chkSet tc N sc fnb hot i e x a | none => false)
  | hot, .ren i e, .Assign ts a _ => (match asgN ts with | some x => chkSet tc N sc fnb hot i e x a | none => false)
  | hot, .put o i e, .Assign ts c _ => (match asgSub ts with | some (a, b) => chkE tc N hot e sc c && chkE tc N hot o sc a && chkE tc N hot i sc b | none => false)
  | hot, .fset o f e, .Assign ts c _ => (match asgAtt ts with | some (a, f') => decide (f = f') && chkE tc N hot e sc c && chkE tc N hot o sc a && notComp c | none => false)
  | hot, .ex e, .Expr a _ => chkE tc N hot e sc a && notComp a
  | hot, .ret e, .Return (some a) _ => chkE tc N hot e sc a
  | hot, .ret0, .Return none _ => true
  | hot, .iff c a b, .If c' a' b' _ => chkT tc N hot c sc c' && chkSs hot a a' && chkSs hot b b'
  | hot, .for_ src tg b, .For tg' it' b' [] _ => (!hot || isRng1 src) && chkI tc N hot src sc it' tg' && chkTg N hot sc fnb tg tg' && chkSs hot b b'
  | hot, .brk, .Break _ => true
  | hot, .cont, .Continue _ => true
  | hot, .pass, .Pass _ => true
  | hot, .pass, .Expr (.Constant (.str _) _ _) _ => true
  | hot, .rai c _ es, st => (match rCall st with | some (x, e', es') => !hot && decide (tc.cn[c]? = some x) && glB sc x && decide (c ∈ tc.xb) && chkEs tc N hot es sc (e' :: es') | none => false)
  | hot, .tra b c i s, st => (match tryOf st with | some (b', x, n, b0, s') => !hot && decide (tc.cn[c]? = some x) && glB sc x && decide (N[i]? = some n) && decide (sc.names.lookup n = some .local) && chkSs false b b' && chkSs true s (b0 :: s') | none => false)
  | _, _, _ => false
def chkSs : Bool → List S → List Stmt → Bool
  | hot, [], [] => true
  | hot, .frz _ :: cs, sts => chkSs hot cs sts
  | hot, c :: cs, st :: sts => chkS hot c st && chkSs hot cs sts
  | _, _, _ => false
end
end
section
variable {G : Tb} {C : Cl} {tc : Tc} {N : List Str} {n0 : Nat}
theorem swap_lc {elt : Expr} {gens : List Comprehension} {scope : Scope} {cp p : Pos} {x : Str} {l : Nat} {env : Env} : ∃ b : Bool, swapsWith (.ListComp elt gens scope cp) (some (.Name x p)) l env = pure b ∧ (b = true → env.kindOf x = some .local) :=
  ⟨env.blockKind == .function && env.kindOf x == some .local && p.line == cp.line && !(scope.names.any fun (n, k) => n == x && (k == .local || k == .cell)), rfl, fun h => by
    simp only [Bool.and_eq_true, beq_iff_eq] at h
    exact h.1.1.2⟩
theorem ok_set {g : Gx} {hot : Bool} {W : WX} {X : Cx} {sc : Scope} {fnb : Str → Bool} (o : Okx g W G C tc X N hot sc fnb) {i : Nat} {e : E} {x : Str} {a : Expr} {p pos : Pos} (h : chkSet tc N sc fnb hot i e x a = true) :
    PS X (.Assign [.Name x p] a pos) (tAsg (tE g W (ev C G e)) (gName i)) := by
  obtain ⟨h1, h2, h3, h4⟩ := and4 h
  have hi : X.N[i]? = some x := by rw [o.hN]; exact of_decide_eq_true h1
  obtain ⟨l1, l2⟩ := loc_of o h2
  by_cases nc : notComp a = true
  · exact ps_set o.nd hi l1 (okE e a o h3) (swap_of nc) l2
  · cases e with
    | lc src tg cond elt =>
      cases a with
      | ListComp elt' gens scope cp =>
        obtain ⟨b, hb, hloc⟩ := swap_lc (elt := elt') (gens := gens) (scope := scope) (cp := cp) (p := p) (x := x) (l := pos.line) (env := X.env)
        cases b with
        | false => exact ps_set o.nd hi l1 (okE _ _ o h3) hb l2
        | true =>
          match gens, h3, hb with
          | [⟨tg', iter', ifs', as'⟩], h3, hb =>
            obtain ⟨hh, g0, g1, g2, g3, g4, g5⟩ := and7 h3
            have e0 : as' = 0 := of_decide_eq_true g0
            subst e0
            have hc := o.calm (not_f hh)
            cases not_f hh
            have it := okI src iter' tg' o g2
            have bk : BlkOk X.N X.env.scope scope (ownOf X.N tg.slots) := by have := blkOk_by g1; rw [← o.hN, ← o.sc] at this; exact this
            have fs : ∀ {env : Env} x, foldedSetIterable iter' env x = pure x := fun {env} => foldS_of (env := env) (chkI_set g2)
            exact e_lc o.nd it bk ownOf_snd (lcg_ok o g3)
              (fun s H Ca cl fp => okTs cond ifs' (o.blk s H scope Ca cl fp) g4) (fun s H Ca cl fp => okE elt elt' (o.blk s H scope Ca cl fp) g5)
              (T := fun t => PS X (.Assign [.Name x p] (.ListComp elt' [⟨tg', iter', ifs', 0⟩] scope cp) pos) (tAsg t (gName i)))
              (ps_setLc hc o.nd hi (hloc rfl) hb it bk (lcg_ok o g3) (fun s H Ca cl fp => okTs cond ifs' (o.blk s H scope Ca cl fp) g4) (fun s H Ca cl fp => okE elt elt' (o.blk s H scope Ca cl fp) g5) (fun x => fs x))
              fun hh ww => hh.weak fun D σ H q => ww _ _ _ q
          | [], h3, _ => exact no h3 rfl
          | _ :: _ :: _, h3, _ => exact no h3 rfl
      | _ => exact absurd h4 nc
    | _ => exact absurd h4 (by cases a <;> exact nc)
theorem s_docP {g : Gx} {W : WX} {X : Cx} {x : Str} {j : Nat} {p p' : Pos} : PS X (.Expr (.Constant (.str x) j p) p') (tSp g W n0 (evS C G n0 .pass)) := ps_doc.weak fun D σ H ⟨M, env, hh, re, rh, hn, w⟩ => by
  rw [evS] at w
  exact w M σ H (.refl hn) .refl re rh
theorem asgN_ok {ts : List Expr} {k : Str → Bool} (h : (match asgN ts with | some x => k x | none => false) = true) : ∃ x p, ts = [.Name x p] ∧ k x = true := by
  match ts, h with
  | [], h => cases h
  | [t], h => cases t <;> first | exact ⟨_, _, rfl, h⟩ | cases h
  | t :: _ :: _, h =>
    have e : ∀ u r, asgN (t :: u :: r) = none := fun u r => by cases t <;> rfl
    rw [e] at h; cases h
theorem asgSub_ok {ts : List Expr} {k : Expr → Expr → Bool} (h : (match asgSub ts with | some (a, b) => k a b | none => false) = true) : ∃ a b p, ts = [.Subscript a b p] ∧ k a b = true := by
  match ts, h with
  | [], h => cases h
  | [t], h => cases t <;> first | exact ⟨_, _, _, rfl, h⟩ | cases h
  | t :: _ :: _, h =>
    have e : ∀ u r, asgSub (t :: u :: r) = none := fun u r => by cases t <;> rfl
    rw [e] at h; cases h
theorem asgAtt_ok {ts : List Expr} {k : Expr → Str → Bool} (h : (match asgAtt ts with | some (a, b) => k a b | none => false) = true) : ∃ a b p, ts = [.Attribute a b p] ∧ k a b = true := by
  match ts, h with
  | [], h => cases h
  | [t], h => cases t <;> first | exact ⟨_, _, _, rfl, h⟩ | cases h
  | t :: _ :: _, h =>
    have e : ∀ u r, asgAtt (t :: u :: r) = none := fun u r => by cases t <;> rfl
    rw [e] at h; cases h
theorem ok_for {g : Gx} {hot : Bool} {W : WX} {X : Cx} {sc : Scope} {fnb : Str → Bool} (o : Okx g W G C tc X N hot sc fnb) (po : PassesOwn (model X.prog X.w) X.A X.env X.xe) {src : I} {tg : Tg} {b : List S} {tg' it' : Expr} {b' : List Stmt} {pos : Pos} (h0 : (!hot || isRng1 src) = true) (h1 : chkI tc N hot src sc it' tg' = true) (h2 : chkTg N hot sc fnb tg tg' = true)
    (bd : PSs X b' (tSp g W n0 (evSs C G n0 b))) : PS X (.For tg' it' b' [] pos) (tSp g W n0 (evS C G n0 (.for_ src tg b))) := by
  have fs : ∀ x, foldedSetIterable it' X.env x = pure x := foldS_of (chkI_set h1)
  cases hh : hot with
  | false => exact s_for (ps_for po (o.calm hh) (okI src it' tg' o h1) (g_ok o h2) bd fs)
  | true =>
    rw [hh] at h0
    cases src with
    | rng1 x =>
      cases it' with
      | Call fn es' kw p =>
        cases fn with
        | Name nm q =>
          match es', kw, h1 with
          | [a'], [], h =>
            obtain ⟨h1, h2', h3⟩ := and3 h
            have e : nm = ("range" : Str) := of_decide_eq_true h2'
            subst e
            obtain ⟨g1, g2, g3⟩ := gl_of o h1
            exact s_for (L2H.ps_forH po (o.hotc hh) (i_rng1H g1 (o.bl _ (by decide)) (okE x a' o h3) (star_cons h3)) (g_ok o h2) bd fs)
          | [], _, h => exact no h rfl
          | _ :: _ :: _, _, h => exact no h rfl
          | [_], _ :: _, h => exact no h rfl
        | _ => exact no h1 rfl
      | _ => exact no h1 rfl
    | _ => exact no h0 rfl
theorem noXc_get {env : Fr} (h : noXc env = true) {i : Nat} {c : Nat} {l : List (Str × P)} (e : env[i]? = some (some (.xc c l))) : False := by
  unfold noXc at h
  rw [List.all_eq_true] at h
  have := h _ (List.mem_of_getElem? e)
  cases this
theorem REnv.cur {g : Gx} {cu : Option (Addr × Nat × Option Addr)} {M : Mp} {H : Hp} {σ : L2.St} {env : Fr} (r : REnv g M H σ env) (h : noXc env = true) : REnv ⟨g.toGc, cu⟩ M H σ env :=
  ⟨r.len, fun i s e => by
    obtain ⟨v, e1, e2⟩ := r.sl i s e
    refine ⟨v, e1, ?_⟩
    cases s with
    | p q => exact e2
    | rf k => exact e2
    | xc c l => exact (noXc_get h e).elim⟩
theorem REnv.drop {g : Gx} {M : Mp} {H : Hp} {σ : L2.St} {env : Fr} (r : REnv g M H σ env) (i : Nat) : REnv g M H (σ.set i none) (env.set i none) :=
  ⟨by simp [r.len], fun j s e => by
    by_cases hj : i = j
    · subst hj
      by_cases hi : i < env.length
      · rw [List.getElem?_set_self hi] at e; cases e
      · rw [List.getElem?_eq_none (by simpa using hi)] at e; cases e
    · rw [List.getElem?_set_ne hj] at e
      obtain ⟨v, e1, e2⟩ := r.sl j s e
      exact ⟨v, by rw [List.getElem?_set_ne hj]; exact e1, e2⟩⟩
theorem s_tra {g : Gx} {W : WX} {X : Cx} {sc : Scope} {fnb : Str → Bool} (o : Okx g W G C tc X N false sc fnb) (k : Oks X) {b : List S} {c i : Nat} {s : List S} {b' : List Stmt} {x n : Str} {b0 : Stmt} {s' : List Stmt} {p1 p2 pos : Pos} (hx : tc.cn[c]? = some x) (hg : glB sc x = true) (hi : N[i]? = some n) (hl : sc.names.lookup n = some .local)
    (hb : ∀ (W' : WX) (pn : List (Addr × Obj)) (xe : Value → Shared → Prop), L2N.Takes (X.tr pn xe) W' → PassesOwn (model X.prog X.w) X.A X.env xe → PSs (X.tr pn xe) b' (tSp g W' n0 (evSs C G n0 b)))
    (hsu : ∀ (a : Addr) (oe : Obj) (c : Nat) (d : Option Addr) (pn : List (Addr × Obj)), L2N.Zn (.ref (g.ca c)) d oe → (∃ vs, oe.data = .fields vs) → PSs (X.suite a ((a, oe) :: pn)) (b0 :: s') (tSp ⟨g.toGc, some (a, c, d)⟩ WF n0 (evSs C G n0 s))) :
    PS X (.Try b' [.ExceptHandler (some (.Name x p1)) (some n) (b0 :: s') p2] [] [] pos) (tSp g W n0 (evS C G n0 (.tra b c i s))) := by
  obtain ⟨g1, g2, g3⟩ := gl_of o hg
  have hXi : X.N[i]? = some n := by rw [o.hN]; exact hi
  refine (L2N.ps_try_as (tb := fun W' => tSp g W' n0 (evSs C G n0 b)) (ts := fun a cls d D σ H => ∃ c', cls = .ref (g.ca c') ∧ tSp ⟨g.toGc, some (a, c', d)⟩ WF n0 (evSs C G n0 s) D σ H) (Wout := W) k.stk k.frm o.nd hXi (by show X.env.scope.names.lookup n = _; rw [o.sc]; exact hl) ⟨g1, g2, .inl (o.cn c x hx)⟩ o.tk hb
    (fun a oe cls d pn hz hv => ⟨fun pins s σ H D I ⟨c', e, q⟩ => by subst e; exact (hsu a oe c' d pn hz hv).run pins s σ H D I q⟩)).weak fun D σ H ⟨M, env, h, re, rh, hn, w⟩ => ?_
  rw [evS] at w
  refine ⟨M, env, h, re, rh, hn, wq_mono (wq_bind w) (fun p w => ?_) fun _ _ z => z⟩
  obtain ⟨o1, env1, h1⟩ := p
  cases o1 with
  | nx => exact w
  | bk => exact w
  | ct => exact w
  | rt r => exact w
  | ex e =>
    intro M1 σ1 H1 d m1 st re1 rh1 rx
    obtain ⟨t, et, w⟩ := wq_of w
    refine ⟨t, o.xs e.c c t et, fun ht a na => ?_, fun ht => ?_⟩
    · rw [if_pos ht] at w
      split at w
      · rename_i hc
        have w := wq_bind w
        refine ⟨e.c, rfl, M1, env1.set i (some (.xc e.c e.l)), h1, (re1.cur hc.1).set i ⟨a, d, rfl, rfl, rx⟩, rh1, m1.le, wq_mono w (fun p w => ?_) fun _ _ z => z⟩
        obtain ⟨o2, env2, h2⟩ := p
        dsimp only at w
        split at w
        · rename_i hx2
          cases o2 with
          | nx => exact fun M2 σ2 H2 m2 s2 re2 rh2 => wq_ok w M2 _ H2 (m1.trans m2) (st.trans s2) ((re2.drop i).cur (g := ⟨g.toGc, _⟩) hx2) rh2
          | bk => exact fun M2 σ2 H2 m2 s2 re2 rh2 => wq_ok w M2 _ H2 (m1.trans m2) (st.trans s2) ((re2.drop i).cur (g := ⟨g.toGc, _⟩) hx2) rh2
          | ct => exact fun M2 σ2 H2 m2 s2 re2 rh2 => wq_ok w M2 _ H2 (m1.trans m2) (st.trans s2) ((re2.drop i).cur (g := ⟨g.toGc, _⟩) hx2) rh2
          | rt r => exact fun M2 v H2 m2 o2 => wq_ok w M2 v H2 (m1.trans m2) (o2.before st)
          | ex e2 => exact w.elim
        · exact w.elim
      · exact w.elim
    · subst ht
      rw [if_neg (by decide)] at w
      exact wq_ok w M1 σ1 H1 d m1 st re1 rh1 rx
mutual
theorem okS : ∀ (c : S) (st : Stmt) {hot : Bool} {g : Gx} {W : WX} {X : Cx} {sc : Scope} {fnb : Str → Bool}, Okx g W G C tc X N hot sc fnb → Oks X → chkS tc N sc fnb hot c st = true → PS X st (tSp g W n0 (evS C G n0 c))
  | .bad, _, _, _, _, _, _, _, o, po, h => s_bad
  | .set i e, st, _, _, _, _, _, _, o, po, h => by
    cases st with
    | Assign ts a pos =>
      obtain ⟨x, p, rfl, h⟩ := asgN_ok h
      exact s_set (ok_set o h)
    | _ => exact no h rfl
  | .new i e, st, _, _, _, _, _, _, o, po, h => by
    cases st with
    | Assign ts a pos =>
      obtain ⟨x, p, rfl, h⟩ := asgN_ok h
      exact s_new (ok_set o h)
    | _ => exact no h rfl
  | .ren i e, st, _, _, _, _, _, _, o, po, h => by
    cases st with
    | Assign ts a pos =>
      obtain ⟨x, p, rfl, h⟩ := asgN_ok h
      exact s_ren (ok_set o h)
    | _ => exact no h rfl
  | .put oo i e, st, _, _, _, X, _, _, o, po, h => by
    cases st with
    | Assign ts a pos =>
      obtain ⟨x, y, p, rfl, h⟩ := asgSub_ok h
      obtain ⟨h1, h2, h3⟩ := and3 h
      refine s_put (by have := o.un; omega) (okE e a o h1) (okE oo x o h2) (okE i y o h3) fun hc ha hb hp => ps_asg hc (pg_sub ha hb hp ?_) ?_ rfl rfl
      · intro v
        cases y <;> first | rfl | (rw [chkE_slice] at h3; cases h3)
      · show swapsWith a (some (.Subscript x y p)) pos.line X.env = pure false
        cases a <;> rfl
    | _ => exact no h rfl
  | .fset oo f e, st, _, _, _, _, _, _, o, po, h => by
    cases st with
    | Assign ts a pos =>
      obtain ⟨x, y, p, rfl, h⟩ := asgAtt_ok h
      obtain ⟨h1, h2, h3, h4⟩ := and4 h
      have ef : f = y := of_decide_eq_true h1
      subst ef
      exact s_fset (fun c hc => o.fl c f hc) (okE e a o h2) (okE oo x o h3) (swap_of h4)
    | _ => exact no h rfl
  | .ex e, st, _, _, _, _, _, _, o, po, h => by
    cases st with
    | Expr a pos =>
      obtain ⟨h1, h2⟩ := and2 h
      exact s_ex (okE e a o h1) (swap_of h2)
    | _ => exact no h rfl
  | .ret e, st, _, _, _, _, _, _, o, po, h => by
    cases st with
    | Return a pos =>
      cases a with
      | some a => exact s_ret (okE e a o h)
      | none => exact no h rfl
    | _ => exact no h rfl
  | .ret0, st, _, _, _, _, _, _, o, po, h => by
    cases st with
    | Return a pos =>
      cases a with
      | some a => exact no h rfl
      | none => exact s_ret0
    | _ => exact no h rfl
  | .iff c a b, st, _, _, _, _, _, _, o, po, h => by
    cases st with
    | If c' a' b' pos =>
      obtain ⟨h1, h2, h3⟩ := and3 h
      exact s_iff (okT c c' o h1).1 (okSs a a' o po h2) (okSs b b' o po h3)
    | _ => exact no h rfl
  | .for_ src tg b, st, _, _, _, _, _, _, o, po, h => by
    cases st with
    | For tg' it' b' els pos =>
      cases els with
      | nil =>
        obtain ⟨h0, h1, h2, h3⟩ := and4 h
        have bd := okSs b b' o po h3
        exact ok_for o po.po h0 h1 h2 bd
      | cons => exact no h rfl
    | _ => exact no h rfl
  | .brk, st, _, _, _, _, _, _, o, po, h => by
    cases st with
    | Break pos => exact s_brk
    | _ => exact no h rfl
  | .cont, st, _, _, _, _, _, _, o, po, h => by
    cases st with
    | Continue pos => exact s_cont
    | _ => exact no h rfl
  | .pass, st, _, _, _, _, _, _, o, po, h => by
    cases st with
    | Pass pos => exact s_pass
    | Expr a pos =>
      cases a with
      | Constant c j p =>
        cases c with
        | str x => exact s_docP
        | _ => exact no h rfl
      | _ => exact no h rfl
    | _ => exact no h rfl
  | .frz _, st, _, _, _, _, _, _, o, po, h => no h (by cases st <;> rfl)
  | .rai c f es, st, hot, _, _, _, sc, _, o, po, h => by
    have h' : (match rCall st with | some (x, e', es') => !hot && decide (tc.cn[c]? = some x) && glB sc x && decide (c ∈ tc.xb) && chkEs tc N hot es sc (e' :: es') | none => false) = true := h
    cases e : rCall st with
    | none => rw [e] at h'; cases h'
    | some t =>
      obtain ⟨x, e', es'⟩ := t
      rw [e] at h'
      obtain ⟨p1, p2, p3, rfl⟩ := rCall_ok e
      obtain ⟨h1, h2, h3, h4, h5⟩ := and5 h'
      exact s_rai o (not_f h1) (of_decide_eq_true h4) (of_decide_eq_true h2) h3 h5 (okP es _ o h5)
  | .tra b c i s, st, hot, g, _, _, sc, fnb, o, po, h => by
    have h' : (match tryOf st with | some (b', x, n, b0, s') => !hot && decide (tc.cn[c]? = some x) && glB sc x && decide (N[i]? = some n) && decide (sc.names.lookup n = some .local) && chkSs tc N sc fnb false b b' && chkSs tc N sc fnb true s (b0 :: s') | none => false) = true := h
    cases e : tryOf st with
    | none => rw [e] at h'; cases h'
    | some t =>
      obtain ⟨b', x, n, b0, s'⟩ := t
      rw [e] at h'
      obtain ⟨p1, p2, p3, rfl⟩ := tryOf_ok e
      obtain ⟨h1, h2, h3, h4, h5, h6, h7⟩ := and7 h'
      have hf := not_f h1
      subst hf
      exact s_tra o po (of_decide_eq_true h2) h3 (of_decide_eq_true h4) (of_decide_eq_true h5)
        (fun W' pn xe tk pw => okSs b b' (o.tr tk) ⟨pw, po.stk, po.frm⟩ h6)
        fun a oe c d pn hz hv => okSs s (b0 :: s') (o.suite hz hv) ⟨PassesOwn.never, po.stk, po.frm⟩ h7
theorem okSs : ∀ (cs : List S) (sts : List Stmt) {hot : Bool} {g : Gx} {W : WX} {X : Cx} {sc : Scope} {fnb : Str → Bool}, Okx g W G C tc X N hot sc fnb → Oks X → chkSs tc N sc fnb hot cs sts = true → PSs X sts (tSp g W n0 (evSs C G n0 cs))
  | [], [], _, _, _, _, _, _, o, po, h => s_nil
  | [], _ :: _, _, _, _, _, _, _, o, po, h => no h rfl
  | c :: cs, sts, _, _, _, _, _, _, o, po, h => by
    cases c with
    | frz i => exact s_frz (okSs cs sts o po h)
    | _ =>
      cases sts with
      | nil => exact no h rfl
      | cons st sts =>
        obtain ⟨h1, h2⟩ := and2 h
        exact s_cons (okS _ st o po h1) (okSs cs sts o po h2)
end
end
end EV

set_option Elab.async false
set_option linter.all false
set_option maxRecDepth 100000
set_option maxHeartbeats 2000000
/-! EvU: defs -/
namespace EV
open PySem PySem.Spec PyProof.Rows L2

structure Fd where
  np : Nat
  N : List Str
  body : List S
def frame (d : Fd) (as : List Sl) : Fr := as.map some ++ List.replicate (d.N.length - as.length) none
/-- what a def hands back -/
def fnEnd (n0 : Nat) : Rq (Oc × Fr × Hh) → Rq (R × Hh)
  | .no => .no
  | .ex _ _ => .no
  | .ok (o, _, h) =>
    match o with
    | .nx => .ok (.p .non, h.cut n0)
    | .rt (.p v) => .ok (.p v, h.cut n0)
    | .rt (.fr v) => .ok (.fr v, h.cut n0)
    | .rt (.rf k) => if k < n0 then .ok (.rf k, h.cut n0) else
      match h.s[k]? with
      | some q => if isNonP q = true then .no else .ok (.fr q, h.cut n0)
      | none => .no
    | .ex e => .ex e (h.cut n0)
    | .bk => .no
    | .ct => .no
def runF (C : Cl) (G : Tb) (d : Fd) (as : List Sl) (h : Hh) : Rq (R × Hh) := if as.length = d.np then fnEnd h.s.length (evSs C G h.s.length d.body (frame d as) h) else .no
def run (tb : List (Option Fd)) (nat : Nat → List Sl → Hh → Rq (R × Hh)) (G : Tb) : Nat → Cl
  | 0, _, _, _ => .no
  | n + 1, f, as, h => match tb[f]? with
    | some (some d) => runF (run tb nat G n) G d as h
    | some none => nat f as h
    | none => .no

section
variable {g : Gc} {G : Tb} {C : Cl} {tc : Tc}
theorem start_env {M : Mp} {H : Hp} {d : Fd} : ∀ {vs : List V} {as : List Sl}, RSls g M H vs as → REnv ⟨g, none⟩ M H (L2.start d.N vs) (frame d as) := fun {vs as} r => by
  have key : ∀ {vs : List V} {as : List Sl}, RSls g M H vs as → ∀ (i : Nat) (s : Sl), as[i]? = some s → ∃ v, vs[i]? = some v ∧ RSa g M H v s := by
    intro vs
    induction vs with
    | nil => intro as r i s e; cases as with
      | nil => simp at e
      | cons => exact r.elim
    | cons v vs ih =>
      intro as r i s e
      cases as with
      | nil => exact r.elim
      | cons a as =>
        cases i with
        | zero => simp at e; subst e; exact ⟨v, rfl, r.1⟩
        | succ i => obtain ⟨w, e1, e2⟩ := ih r.2 i s (by simpa using e); exact ⟨w, by simpa using e1, e2⟩
  have hl := r.length
  refine ⟨by unfold frame L2.start; simp [hl], fun i s e => ?_⟩
  unfold frame at e
  by_cases hi : i < as.length
  · rw [List.getElem?_append_left (by simpa using hi), List.getElem?_map] at e
    cases q : as[i]? with
    | none => rw [q] at e; cases e
    | some a =>
      rw [q] at e
      cases e
      obtain ⟨v, e1, e2⟩ := key r i _ q
      refine ⟨v, ?_, RSa.sl (g := ⟨g, none⟩) e2⟩
      unfold L2.start
      rw [List.getElem?_append_left (by rw [List.length_map, hl]; exact hi), List.getElem?_map, e1]; rfl
  · rw [List.getElem?_append_right (by simpa using hi), List.getElem?_replicate] at e
    split at e <;> cases e
/-- the places of the callee are taken back -/
theorem cut_at {M M' : Mp} {n0 : Nat} (hn : n0 = M.pl.length) (m : Mx n0 M M') {r : Pl} {a : Addr} (e : (⟨M.pl, M'.pm, M.av⟩ : Mp).at r = some a) : M'.at r = some a ∧ ∀ i, r = .s i → i < n0 := by
  cases r with
  | s i =>
    have e := at_s.mp e
    have hi : i < n0 := by rw [hn]; exact (List.getElem?_eq_some_iff.mp e).1
    refine ⟨at_s.mpr ?_, fun j z => by cases z; exact hi⟩
    have tk := m.tk
    have z : (M'.pl.take n0)[i]? = (M.pl.take n0)[i]? := by rw [tk]
    rw [List.getElem?_take, List.getElem?_take, if_pos hi, if_pos hi] at z
    rw [z]; exact e
  | p k => exact ⟨e, fun j z => nomatch z⟩
theorem cut_all {M M' : Mp} {H H' : Hp} {h' : Hh} {n0 : Nat} (hn : n0 = M.pl.length) (m : Mx n0 M M') (st : Stp M H M' H') (rh : RH g M' h' H') :
    Sx M H ⟨M.pl, M'.pm, M.av⟩ H' ∧ RH g ⟨M.pl, M'.pm, M.av⟩ (h'.cut n0) H' ∧ Stp M' H' ⟨M.pl, M'.pm, M.av⟩ H' := by
  have wr : ∀ a, Wr ⟨M.pl, M'.pm, M.av⟩ a → Wr M' a := fun a ⟨r, e⟩ => ⟨r, (cut_at hn m e).1⟩
  have nm : ∀ a, NM ⟨M.pl, M'.pm, M.av⟩ a → NM M' a := fun a z => z.imp (wr a) fun z => by rw [m.av]; exact z
  refine ⟨⟨st.less nm wr rfl, rfl, rfl⟩, rh.cut ?_ rfl (fun a z => nm a (.inr z)) (fun a z w => rh.sep a (by rw [m.av]; exact z) (wr a w)), Stp.same nm wr rfl⟩
  rw [m.tk, hn, List.take_length]
theorem fn_out {M : Mp} {H : Hp} {h h' : Hh} {n0 : Nat} {o : Oc} {env' : Fr} {Q : VK} {E : XK} (hn : n0 = M.pl.length) (rh0 : RH g M h H)
    (w : wq (fnEnd n0 (.ok (o, env', h'))) (fun p => ∀ M' v H', Out g M H M' p.2 v H' p.1 → Q v H') (fun e h' => ∀ M' H' d, Sx M H M' H' → RH g M' h' H' → RX g M' H' d e.l → E (.ref (g.ca e.c)) d H')) :
    EndOk ⟨g, none⟩ (fun cls d _ H => E cls d H) n0 M H { nx := fun _ H' => Q .non H', rt := Q } env' h' o := by
  unfold fnEnd at w
  cases o with
  | nx =>
    intro M' σ' H' m st re rh
    obtain ⟨s1, rh1, _⟩ := cut_all hn m st rh
    exact w _ _ _ ⟨s1, rh1, .non⟩
  | bk => exact w.elim
  | ct => exact w.elim
  | ex e =>
    intro M' σ' H' d m st re rh rx
    obtain ⟨s1, rh1, s2⟩ := cut_all hn m st rh
    exact w _ H' d s1 rh1 (rx.step s2)
  | rt r =>
    intro M' v H' m o
    cases r with
    | p q =>
      obtain ⟨st, rh, rp⟩ := o
      obtain ⟨s1, rh1, s2⟩ := cut_all hn m st rh
      exact w _ _ _ ⟨s1, rh1, rp.step s2⟩
    | fr q =>
      obtain ⟨a, rfl, na, ha, st, rh, rt⟩ := o
      have m' : Mx n0 (MA M a) (MA M' a) := ⟨m.tk, by show (fun b => b = a ∨ M'.av b) = fun b => b = a ∨ M.av b; rw [m.av], m.le⟩
      have wr : ∀ b, Wr ⟨M.pl, M'.pm, M.av⟩ b → Wr M' b := fun b ⟨r, e⟩ => ⟨r, (cut_at hn m e).1⟩
      have nm : ∀ b, NM (MA ⟨M.pl, M'.pm, M.av⟩ a) b → NM (MA M' a) b := fun b z => by
        rcases z with z | z | z
        · exact .inl (wr b z)
        · exact .inr (.inl z)
        · exact .inr (.inr (by rw [m.av]; exact z))
      refine w ⟨M.pl, M'.pm, M.av⟩ (.ref a) H' ⟨a, rfl, fun z => na (z.imp (wr a) fun z => by rw [m.av]; exact z), ha, st.less nm wr rfl, rfl, rfl, rh.cut (M2 := MA ⟨M.pl, M'.pm, M.av⟩ a) ?_ rfl (fun b z => nm b (.inr z)) (fun b z u => rh.sep b ?_ (wr b u)), rt.step (Stp.same nm wr rfl) fun _ z => z⟩
      · show M'.pl.take n0 = M.pl; rw [m.tk, hn, List.take_length]
      · rcases z with z | z
        · exact .inl z
        · exact .inr (by rw [m.av]; exact z)
    | rf k =>
      obtain ⟨st, rh, a, rfl, ea⟩ := o
      obtain ⟨s1, rh1, s2⟩ := cut_all hn m st rh
      dsimp only at w
      by_cases hk : k < n0
      · rw [if_pos hk] at w
        refine w _ _ _ ⟨s1, rh1, a, rfl, at_s.mpr ?_⟩
        have z : (M'.pl.take n0)[k]? = (M.pl.take n0)[k]? := by rw [m.tk]
        rw [List.getElem?_take, List.getElem?_take, if_pos hk, if_pos hk] at z
        show M.pl[k]? = _
        rw [← z]; exact at_s.mp ea
      · rw [if_neg hk] at w
        cases hq : h'.s[k]? with
        | none => rw [hq] at w; exact w.elim
        | some q =>
          rw [hq] at w
          dsimp only at w
          by_cases hnq : isNonP q = true
          · rw [if_pos hnq] at w; exact w.elim
          · rw [if_neg hnq] at w
            have nw : ¬ Wr ⟨M.pl, M'.pm, M.av⟩ a := fun ⟨r, e⟩ => by
              obtain ⟨e1, e2⟩ := cut_at hn m e
              have z := rh.nd r (.s k) a e1 ea
              subst z
              exact hk (e2 k rfl)
            have nav : ¬ M.av a := fun z => rh.sep a (by rw [m.av]; exact z) ⟨_, ea⟩
            have wr : ∀ b, Wr ⟨M.pl, M'.pm, M.av⟩ b → Wr M' b := fun b ⟨r, e⟩ => ⟨r, (cut_at hn m e).1⟩
            have nm : ∀ b, NM (MA ⟨M.pl, M'.pm, M.av⟩ a) b → NM M' b := fun b z => by
              rcases z with z | rfl | z
              · exact .inl (wr b z)
              · exact .inl ⟨_, ea⟩
              · exact .inr (by rw [m.av]; exact z)
            have ha : H a = none := by
              rcases st.wr a ⟨_, ea⟩ with ⟨r, e⟩ | z
              · exfalso
                have e' : M'.at r = some a := by
                  cases r with
                  | s i =>
                    have e0 := at_s.mp e
                    have hi : i < n0 := by rw [hn]; exact (List.getElem?_eq_some_iff.mp e0).1
                    exact (cut_at (r := .s i) hn m e).1
                  | p j => exact st.pm j a e
                have z := rh.nd r (.s k) a e' ea
                subst z
                exact hk (by rw [hn]; exact at_lt e)
              · exact z
            refine w ⟨M.pl, M'.pm, M.av⟩ (.ref a) H' ⟨a, rfl, fun z => z.elim nw nav, ha, st.less nm wr rfl, rfl, rfl, rh.cut (M2 := MA ⟨M.pl, M'.pm, M.av⟩ a) ?_ rfl (fun b z => nm b (.inr z)) (fun b z u => ?_), ?_⟩
            · show M'.pl.take n0 = M.pl; rw [m.tk, hn, List.take_length]
            · rcases z with rfl | z
              · exact nw u
              · exact rh.sep b (by rw [m.av]; exact z) (wr b u)
            · rcases rh.ob (.s k) q a hq ea with z | z
              · subst z; exact absurd rfl hnq
              · exact z.step (Stp.same nm wr rfl) fun _ z => z
/-- a promise kept by the plain run of the body -/
theorem fn_read {d : Fd} {ps : List Str} {vs : List V} {H : Hp} {Q : VK} {E : XK} (hp : ps.length = d.np) (hsp : spF g ps.length (runF C G d) vs H Q E) :
    ∃ n0, tSp ⟨g, none⟩ (fun cls d _ H => E cls d H) n0 (evSs C G n0 d.body) { nx := fun _ H' => Q .non H', rt := Q } (L2.start d.N vs) H := by
  obtain ⟨hl, M, args, h, rs, rh, wr⟩ := hsp
  have hnp : args.length = d.np := by rw [← rs.length, hl, hp]
  unfold runF at wr
  rw [if_pos hnp] at wr
  refine ⟨h.s.length, M, frame d args, h, start_env rs, rh, Nat.le_of_eq rh.ls, ?_⟩
  cases e : evSs C G h.s.length d.body (frame d args) h with
  | no => rw [e] at wr; exact wr.elim
  | ex e1 h1 => rw [e] at wr; exact wr.elim
  | ok p =>
    obtain ⟨o1, env1, h1⟩ := p
    rw [e] at wr
    exact fn_out rh.ls rh wr
theorem fn_body {P : Program} {w : World} {K : PySem.W.Frag} {mg : Str → Option Value} {base : Heap} {k : Nat} {st : Stmt} {qual : Str} {fa : Addr} {fd : FuncData} {d : Fd} {ps : List Str} (D : DfOk K st qual fa fd) (S : FnScope d.N ps (defScope st)) (hp : ps.length = d.np)
    (chk : chkSs tc d.N (defScope st) (fun _ => true) false d.body (defBody st) = true)
    (ctx : ∀ (X : Cx) (W : WX), X.prog = P → X.w = w → X.K = K → X.mg = mg → X.base = base → X.N = d.N → X.env.scope = defScope st → X.fn = (fun _ => true) → X.calm = true → Room k X.A → L2N.Takes X W → Okx ⟨g, none⟩ W G C tc X d.N false (defScope st) (fun _ => true)) :
    FnOk P w K mg base (L2N.CX P w) (k + 1) fa fd ps (spF g ps.length (runF C G d)) := by
  obtain ⟨name, oc, od, dV, kV, doc, pm, an, cdv, ct, osl, rfl, lk, hcd⟩ := D.ex
  refine fn_of lk hcd S (fun vs H Q E h => h.1) fun A outer s H vs Q E hr hsp => ?_
  have tk : L2N.Takes (cxOf (L2N.CX P w) P w K mg base d.N qual (defScope st) fa cdv A outer s H E) (fun cls d _ H => E cls d H) := L2N.takes_of rfl rfl rfl rfl
  have po : PassesOwn (model P w) (cxOf (L2N.CX P w) P w K mg base d.N qual (defScope st) fa cdv A outer s H E).A (cxOf (L2N.CX P w) P w K mg base d.N qual (defScope st) fa cdv A outer s H E).env (cxOf (L2N.CX P w) P w K mg base d.N qual (defScope st) fa cdv A outer s H E).xe := passes_of rfl
  have o := ctx _ _ rfl rfl rfl rfl rfl rfl rfl rfl rfl hr tk
  obtain ⟨n0, q⟩ := fn_read hp hsp
  exact ⟨_, okSs d.body (defBody st) o ⟨po, rfl, rfl⟩ chk, q⟩
theorem fn_bodyH {P : Program} {w : World} {K : PySem.W.Frag} {mg : Str → Option Value} {base : Heap} {k : Nat} {st : Stmt} {qual : Str} {fa : Addr} {fd : FuncData} {d : Fd} {ps : List Str} (D : DfOk K st qual fa fd) (S : FnScope d.N ps (defScope st)) (hp : ps.length = d.np)
    (chk : chkSs tc d.N (defScope st) (fun _ => true) true d.body (defBody st) = true)
    (ctx : ∀ (X : Cx) (W : WX), X.prog = P → X.w = w → X.K = K → X.mg = mg → X.base = base → X.N = d.N → X.env.scope = defScope st → X.fn = (fun _ => true) → L2H.HotC X → L2H.RoomH k X.A → L2N.Takes X W → Okx ⟨g, none⟩ W G C tc X d.N true (defScope st) (fun _ => true)) :
    L2H.FnH P w K mg base (L2N.CX P w) (k + 1) fa fd ps (spF g ps.length (runF C G d)) := by
  obtain ⟨name, oc, od, dV, kV, doc, pm, an, cdv, ct, osl, rfl, lk, hcd⟩ := D.ex
  refine L2H.fn_ofH lk hcd S (fun vs H Q E h => h.1) fun A outer s H vs Q E p hot hr hsp => ?_
  have tk : L2N.Takes (L2H.cxH (L2N.CX P w) P w K mg base d.N qual (defScope st) fa cdv A outer s H E p) (fun cls d _ H => E cls d H) := L2N.takes_of rfl rfl rfl rfl
  have po : PassesOwn (model P w) (L2H.cxH (L2N.CX P w) P w K mg base d.N qual (defScope st) fa cdv A outer s H E p).A (L2H.cxH (L2N.CX P w) P w K mg base d.N qual (defScope st) fa cdv A outer s H E p).env (L2H.cxH (L2N.CX P w) P w K mg base d.N qual (defScope st) fa cdv A outer s H E p).xe := passes_of rfl
  have o := ctx _ _ rfl rfl rfl rfl rfl rfl rfl rfl ⟨p, hot, by show p ∈ [p]; simp⟩ hr tk
  obtain ⟨n0, q⟩ := fn_read hp hsp
  exact ⟨_, okSs d.body (defBody st) o ⟨po, rfl, rfl⟩ chk, q⟩
end
end EV

set_option Elab.async false
set_option linter.all false
set_option maxRecDepth 100000
set_option maxHeartbeats 2000000
/-! EvV: the whole text -/
namespace EV
open PySem PySem.Spec PyProof.Rows L2

/-- what the text says of a def's place -/
def KdOk (g : Gc) (K : PySem.W.Frag) (mg : Str → Option Value) (fa : Addr) : Kd → Prop
  | .def_ x => mg x = some (.ref fa) ∧ PySem.W.keepIn K (.ref fa) = true
  | .init c x => mg x = some (.ref (g.ca c)) ∧ Mk K (g.ca c) fa
  | .meth c m => Cls K (g.ca c) ∧ Meth K (g.ca c) m fa
  | .prop c f => Cls K (g.ca c) ∧ ∃ pr, PropOf K (g.ca c) f pr fa
structure Prg (g : Gc) (G : Tb) (tc : Tc) (K : PySem.W.Frag) (mg : Str → Option Value) : Prop where
  hK : g.K = K
  bl : ∀ x ∈ bNames, mg x = none
  gv : ∀ (i : Nat) x, tc.gv[i]? = some x → ∃ v u p, G.gv[i]? = some p ∧ mg x = some u ∧ RelV v u ∧ ∀ N H, RP g N H v p
  cn : ∀ (n : Nat) x, tc.cn[n]? = some x → mg x = some (.ref (g.ca n))
  fl : ∀ c f, f ∈ G.fl c → Cls K (g.ca c) ∧ NoAttr K (g.ca c) f
  ck : CkOk g K G.ck G.cb
  xi : ∀ c fs, G.xi c = some fs → fs ≠ [] ∧ fs.length < 100 ∧ XcC K (g.ca c) ∧ ∃ fI fd N ps st qual, PySem.W.findIn K (.ref (g.ca c)) "__init__" = some (some (.ref fI)) ∧ PySem.W.typeIn K (.ref fI) = some (.type "function") ∧ DfOk K st qual fI fd ∧ FnScope N ps (defScope st) ∧ ps.length = fs.length + 1 ∧ N.length = fs.length + 1 ∧
    (∀ f ∈ fs, PySem.W.findIn K (.ref (g.ca c)) f = some none) ∧ chkX N (defScope st) fs 1 (defBody st) = true ∧ Binds K fd ps []
  xs : ∀ c c' b, G.xs c c' = some b → PySem.W.exmOne K (.ref (g.ca c)) (.ref (g.ca c')) = some b
  xg : ∀ c f, f ∈ G.xg c → XfC K (g.ca c) ∧ PySem.W.findIn K (.ref (g.ca c)) f = some none
  xb : ∀ c ∈ tc.xb, ∃ fs, G.xi c = some fs
  xt : ∀ c t b, G.xt c t = some b → PySem.W.kitOne K (.ref (g.ca c)) (tyT g t) = some b ∧ ExcC K (g.ca c)
theorem Prg.xi' {P : Program} {w : World} {base : Heap} {g : Gc} {G : Tb} {tc : Tc} {K : PySem.W.Frag} {mg : Str → Option Value} (pr : Prg g G tc K mg) : ∀ c fs, G.xi c = some fs → fs ≠ [] ∧ fs.length < 100 ∧ XcC K (g.ca c) ∧ ∃ fI fd ps, PySem.W.findIn K (.ref (g.ca c)) "__init__" = some (some (.ref fI)) ∧ PySem.W.typeIn K (.ref fI) = some (.type "function") ∧ FnOk P w K mg base (L2N.CX P w) 1 fI fd ps (spX (g.ca c) fs) ∧ Binds K fd ps [] := fun c fs e => by
  obtain ⟨h1, h2, h3, fI, fd, N, ps, st, qual, h4, h5, h6, h7, h8, h9, h10, h11, h12⟩ := pr.xi c fs e
  exact ⟨h1, h2, h3, fI, fd, ps, h4, h5, fn_init (k := 0) h6 h7 h3 h1 (by omega) h8 h9 h10 h11, h12⟩
/-- a def of the table -/
def DefI (g : Gc) (tc : Tc) (K : PySem.W.Frag) (mg : Str → Option Value) (s : FnS) (d : Fd) : Prop :=
  ∃ (fa : Addr) (fd : FuncData) (ps : List Str) (st : Stmt) (qual : Str), ps.length = s.np ∧ Binds K fd ps [] ∧ KdOk g K mg fa s.kd ∧ d.np = s.np ∧ DfOk K st qual fa fd ∧ FnScope d.N ps (defScope st) ∧ chkSs tc d.N (defScope st) (fun _ => true) false d.body (defBody st) = true ∧ (s.hot = true → chkSs tc d.N (defScope st) (fun _ => true) true d.body (defBody st) = true)
/-- .. done by hand -/
def NatI (g : Gc) (K : PySem.W.Frag) (mg : Str → Option Value) (s : FnS) (φ : List Sl → Hh → Rq (R × Hh)) : Prop :=
  ∃ (fa : Addr) (fd : FuncData) (ps : List Str), s.hot = false ∧ ps.length = s.np ∧ Binds K fd ps [] ∧ KdOk g K mg fa s.kd ∧ (∀ as h, φ as h ≠ .no → as.length = ps.length) ∧ ∀ P w base, FnOk P w K mg base (L2N.CX P w) 1 fa fd ps (spF g ps.length φ)
def AllI (g : Gc) (tc : Tc) (tb : List (Option Fd)) (nat : Nat → List Sl → Hh → Rq (R × Hh)) (K : PySem.W.Frag) (mg : Str → Option Value) : Prop :=
  ∀ (f : Nat) s, tc.fn[f]? = some s → (∃ d, tb[f]? = some (some d) ∧ DefI g tc K mg s d) ∨ (tb[f]? = some none ∧ NatI g K mg s (nat f))
theorem own {K : PySem.W.Frag} {tb : List (Option Fd)} {f : Nat} {d : Fd} {st : Stmt} {qual : Str} {fa : Addr} {fd : FuncData} {ps : List Str} (e : tb[f]? = some (some d)) (h5 : DfOk K st qual fa fd) (h6 : FnScope d.N ps (defScope st)) :
    ∀ d', tb[f]? = some (some d') → (∃ oc od osl, K.lookup fa = some ⟨oc, od, .func fd, osl⟩) ∧ d'.N.take ps.length = ps := fun d' z => by
  rw [e] at z
  cases z
  obtain ⟨name, oc, od, dV, kV, doc, pm, an, cdv, ct, osl, _, lk, _⟩ := h5.ex
  exact ⟨⟨oc, od, osl, lk⟩, h6.pre⟩
theorem fns_all {P : Program} {w : World} {base : Heap} {g : Gc} {G : Tb} {tc : Tc} {tb : List (Option Fd)} {nat : Nat → List Sl → Hh → Rq (R × Hh)} {K : PySem.W.Frag} {mg : Str → Option Value} (pr : Prg g G tc K mg) (al : AllI g tc tb nat K mg) :
    ∀ (n : Nat) (f : Nat) s, tc.fn[f]? = some s → ∃ (fa : Addr) (fd : FuncData) (ps : List Str), ps.length = s.np ∧ (∀ as h, run tb nat G n f as h ≠ .no → as.length = ps.length) ∧ FnOk P w K mg base (L2N.CX P w) (2 * n + 1) fa fd ps (spF g ps.length (run tb nat G n f)) ∧ (s.hot = true → L2H.FnH P w K mg base (L2N.CX P w) (2 * n + 1) fa fd ps (spF g ps.length (run tb nat G n f))) ∧ Binds K fd ps [] ∧ KdOk g K mg fa s.kd ∧ (∀ d, tb[f]? = some (some d) → (∃ oc od osl, K.lookup fa = some ⟨oc, od, .func fd, osl⟩) ∧ d.N.take ps.length = ps)
  | 0, f, s, e => by
    have triv : ∀ {fa : Addr} {fd : FuncData} {ps : List Str}, FnOk P w K mg base (L2N.CX P w) 1 fa fd ps (spF g ps.length (run tb nat G 0 f)) := fun {fa fd ps} =>
      ⟨fun vs H Q E h => h.1, fun A outer s H args us vs Q E hr he hb hv hs => by
        obtain ⟨_, M, as, h, _, _, w⟩ := hs
        exact w.elim⟩
    have trivH : ∀ {fa : Addr} {fd : FuncData} {ps : List Str}, L2H.FnH P w K mg base (L2N.CX P w) 1 fa fd ps (spF g ps.length (run tb nat G 0 f)) := fun {fa fd ps} =>
      ⟨fun vs H Q E h => h.1, fun A outer s H args us vs Q E p hr hot hp he hb hv hs => by
        obtain ⟨_, M, as, h, _, _, w⟩ := hs
        exact w.elim⟩
    rcases al f s e with ⟨d, e1, fa, fd, ps, st, qual, h1, h2, h3, h4, h5, h6, h7, h8⟩ | ⟨e1, fa, fd, ps, h0, h1, h2, h3, h4, h5⟩
    · exact ⟨fa, fd, ps, h1, fun as h z => absurd rfl z, triv, fun _ => trivH, h2, h3, own e1 h5 h6⟩
    · exact ⟨fa, fd, ps, h1, fun as h z => absurd rfl z, triv, fun _ => trivH, h2, h3, fun d z => by rw [e1] at z; cases z⟩
  | n + 1, f, s, e => by
    rcases al f s e with ⟨d, e1, fa, fd, ps, st, qual, h1, h2, h3, h4, h5, h6, h7, h8⟩ | ⟨e1, fa, fd, ps, h0, h1, h2, h3, h4, h5⟩
    · have er : run tb nat G (n + 1) f = runF (run tb nat G n) G d := by funext as h; show (match tb[f]? with | some (some d) => runF (run tb nat G n) G d as h | some none => nat f as h | none => .no) = _; rw [e1]
      have fns : ∀ (X : Cx), X.prog = P → X.w = w → X.K = K → X.mg = mg → X.base = base → ∀ (hot : Bool), (hot = false → Room (2 * n + 2) X.A) → L2H.RoomH (2 * n + 2) X.A → ∀ (f : Nat) s, tc.fn[f]? = some s → ∃ k fa fd ps, ps.length = s.np ∧ (∀ as h, run tb nat G n f as h ≠ .no → as.length = ps.length) ∧ (hot = false → FnOk X.prog X.w X.K X.mg X.base (L2N.CX X.prog X.w) k fa fd ps (spF g ps.length (run tb nat G n f)) ∧ Room (k + 1) X.A) ∧
          (s.hot = true → L2H.FnH X.prog X.w X.K X.mg X.base (L2N.CX X.prog X.w) k fa fd ps (spF g ps.length (run tb nat G n f)) ∧ L2H.RoomH (k + 1) X.A) ∧ Binds X.K fd ps [] ∧
          (match s.kd with
          | .def_ x => X.mg x = some (.ref fa) ∧ PySem.W.keepIn X.K (.ref fa) = true
          | .init c x => X.mg x = some (.ref (g.ca c)) ∧ Mk X.K (g.ca c) fa
          | .meth c m => Cls X.K (g.ca c) ∧ Meth X.K (g.ca c) m fa
          | .prop c f => Cls X.K (g.ca c) ∧ ∃ pr, PropOf X.K (g.ca c) f pr fa) := fun X x1 x2 x3 x4 x5 hot r0 r1 f' s' e' => by
        subst x1 x2 x3 x4 x5
        obtain ⟨fa', fd', ps', q1, q2, q3, qh, q4, q5, _⟩ := fns_all (P := X.prog) (w := X.w) (base := X.base) pr al n f' s' e'
        refine ⟨2 * n + 1, fa', fd', ps', q1, q2, fun z => ⟨q3, r0 z⟩, fun z2 => ⟨qh z2, r1⟩, q4, ?_⟩
        cases hk : s'.kd with
        | def_ x => rw [hk] at q5; exact q5
        | init c x => rw [hk] at q5; exact q5
        | meth c x => rw [hk] at q5; exact q5
        | prop c x => rw [hk] at q5; exact q5
      refine ⟨fa, fd, ps, h1, fun as h z => ?_, ?_, fun hh => ?_, h2, h3, own e1 h5 h6⟩
      · rw [er] at z
        unfold runF at z
        by_cases hl : as.length = d.np
        · rw [hl, h4, h1]
        · rw [if_neg hl] at z; exact absurd rfl z
      · rw [er]
        refine fn_body (k := 2 * n + 2) h5 h6 (by rw [h1, h4]) h7 fun X W x1 x2 x3 x4 x5 x6 x7 x8 x9 hr tk => ?_
        have fn' := fns X x1 x2 x3 x4 x5 false (fun _ => hr) ⟨hr.dp, hr.un⟩
        subst x1 x2 x3 x4 x5
        exact { hK := pr.hK, hN := x6, nd := (by rw [x6]; exact h6.nd), sc := x7, fn := x8, calm := fun _ => x9, hotc := fun z => (by cases z), un := (by have := hr.un; omega), tk := tk, bl := pr.bl, gv := pr.gv, cn := pr.cn, fns := fn', fl := pr.fl, ck := pr.ck, rm := (fun _ => hr.mono (by omega)), xi := pr.xi', xs := pr.xs, xg := pr.xg, xt := pr.xt, cur := (fun a c d e => by cases e), cur0 := (fun _ => rfl), xb := pr.xb }
      · rw [er]
        refine fn_bodyH (k := 2 * n + 2) h5 h6 (by rw [h1, h4]) (h8 hh) fun X W x1 x2 x3 x4 x5 x6 x7 x8 x9 hr tk => ?_
        have fn' := fns X x1 x2 x3 x4 x5 true (fun z => by cases z) hr
        subst x1 x2 x3 x4 x5
        exact { hK := pr.hK, hN := x6, nd := (by rw [x6]; exact h6.nd), sc := x7, fn := x8, calm := fun z => (by cases z), hotc := fun _ => x9, un := (by have := hr.un; omega), tk := tk, bl := pr.bl, gv := pr.gv, cn := pr.cn, fns := fn', fl := pr.fl, ck := pr.ck, rm := (fun z => by cases z), xi := pr.xi', xs := pr.xs, xg := pr.xg, xt := pr.xt, cur := (fun a c d e => by cases e), cur0 := (fun _ => rfl), xb := pr.xb }
    · have er : run tb nat G (n + 1) f = nat f := by funext as h; show (match tb[f]? with | some (some d) => runF (run tb nat G n) G d as h | some none => nat f as h | none => .no) = _; rw [e1]
      refine ⟨fa, fd, ps, h1, fun as h z => h4 as h (by rw [← er]; exact z), ?_, fun z => (by rw [h0] at z; cases z), h2, h3, fun d z => (by rw [e1] at z; cases z)⟩
      rw [er]
      exact (h5 P w base).mono (by omega)
/-- the law's promise -/
def spLaw (K : PySem.W.Frag) : Sp := fun vs H Q _ => ∃ (a : Addr) (ns : List Int), vs = [.ref a] ∧ SqL K H a (ns.map V.int) ∧ ns.length ≤ 63 ∧ ∀ H', Q (.bl true) H'
theorem law_ok {P : Program} {w : World} {base : Heap} {g : Gc} {G : Tb} {tc : Tc} {tb : List (Option Fd)} {nat : Nat → List Sl → Hh → Rq (R × Hh)} {K : PySem.W.Frag} {mg : Str → Option Value} (pr : Prg g G tc K mg) (al : AllI g tc tb nat K mg) {n L : Nat} {fa : Addr}
    (hL : tc.fn[L]? = some ⟨.def_ "law", 1, false⟩) (hm : mg "law" = some (.ref fa)) {d : Fd} {x : Str} (hd : tb[L]? = some (some d)) (hx : d.N.take 1 = [x]) {fd : FuncData} {oc : Value} {od : Option Addr} {osl : Array (Option Value)} (lk : K.lookup fa = some ⟨oc, od, .func fd, osl⟩)
    (plain : ∀ ns : List Int, ns.length ≤ 63 → ∃ h', run tb nat G n L [.p (.flst (ns.map .int))] ⟨[], []⟩ = .ok (.p (.bl true), h')) :
    FnOk P w K mg base (L2N.CX P w) (2 * n + 1) fa fd [x] (spLaw K) := by
  obtain ⟨fa', fd', ps, q1, q2, q3, _, q4, q5, q6⟩ := fns_all (P := P) (w := w) (base := base) pr al n L _ hL
  have e : fa' = fa := by
    have := q5.1.symm.trans hm
    cases this; rfl
  subst e
  obtain ⟨⟨oc', od', osl', lk'⟩, hps⟩ := q6 d hd
  rw [q1] at hps
  have hps : [x] = ps := hx.symm.trans hps
  subst hps
  rw [lk] at lk'
  cases lk'
  refine q3.imp fun vs H Q E ⟨a, ns, ev, sq, hl, k⟩ => ?_
  subst ev
  obtain ⟨h', er⟩ := plain ns hl
  have nm : ∀ a, ¬ NM ⟨[], [], fun _ => False⟩ a := fun a z => by
    rcases z with ⟨r, e⟩ | z
    · cases r with
      | s i => have := at_s.mp e; simp at this
      | p i => have e : ([] : List Addr)[i]? = some a := e; simp at e
    · exact z
  refine ⟨rfl, ⟨[], [], fun _ => False⟩, [.p (.flst (ns.map .int))], ⟨[], []⟩, ⟨.flst ?_ (ints_RPs ns), trivial⟩, ⟨rfl, rfl, fun r p a e => ?_, fun i j a e => ?_, fun a z => absurd z (nm a), fun a z => z.elim⟩, ?_⟩
  · rw [pr.hK]
    rcases sq with sq | sq
    · exact .inl ⟨nm _, sq⟩
    · exact .inr sq
  · cases r with
    | s i => have e : ([] : List EV.P)[i]? = some p := e; simp at e
    | p i => have e : ([] : List EV.P)[i]? = some p := e; simp at e
  · exact absurd (.inl ⟨i, e⟩) (nm a)
  · rw [er]
    intro M' v H' o
    obtain ⟨_, _, rp⟩ := o
    cases rp
    exact k _
end EV

set_option Elab.async false
set_option linter.all false
set_option maxRecDepth 100000
namespace K00
open PySem PySem.Spec PyProof.Rows L2 EV
/-! ### the small form (printed by wip/gen.py) -/
def d0 : Fd := ⟨2, ["found", "meant", "k"], [.iff (.cmp .Is (.var 1) .non) [.ret (.cmp .Is (.var 0) .non)] [], .iff (.v (.isi (.var 1) [.tuple])) [.iff (.or (.not (.v (.isi (.var 0) [.tuple]))) (.one (.cmp .NotEq (.blt .len [.var 0]) (.blt .len [.var 1])))) [.ret (.bl false)] [], .for_ (.rng1 (.blt .len [.var 1])) (.n 2) [.iff (.not (.v (.call 0 [.idx (.var 0) (.var 2), .idx (.var 1) (.var 2)]))) [.ret (.bl false)] []], .ret (.bl true)] [], .iff (.or (.v (.isi (.var 1) [.bool])) (.one (.v (.isi (.var 0) [.bool])))) [.ret (.and (.isi (.var 1) [.bool]) (.and (.isi (.var 0) [.bool]) (.one (.cmp .Eq (.var 0) (.var 1)))))] [], .iff (.v (.isi (.var 1) [.int])) [.ret (.and (.isi (.var 0) [.int]) (.one (.cmp .Eq (.var 0) (.var 1))))] [], .ret (.and (.isi (.var 1) [.str]) (.and (.isi (.var 0) [.str]) (.one (.cmp .Eq (.var 0) (.var 1)))))]⟩ -- _law_so
def d1 : Fd := ⟨1, ["script", "row", "cell", "left", "k", "mixed"], [.new 1 (.lst []), .for_ (.e (.slc (.var 0) none (some (.int 63)))) (.n 2) [.iff (.cmp .GtE (.var 2) (.bin .Pow (.int 10) (.int 18))) [.set 3 (.var 2), .for_ (.rng1 (.int 60)) (.n 4) [.iff (.cmp .Eq (.var 3) (.int 0)) [.brk] [], .ex (.mut .lAppend (.var 1) [.bin .Mod (.blt .int [.var 3]) (.int 997)]), .set 3 (.bin .FloorDiv (.var 3) (.int 997))]] [.for_ (.rng1 (.int 4)) (.n 4) [.set 5 (.bin .Mod (.blt .int [.bin .Add (.bin .Add (.bin .Mult (.var 2) (.int 48271)) (.bin .Mult (.var 4) (.int 69621))) (.int 11)]) (.int 2147483647)), .ex (.mut .lAppend (.var 1) [.bin .Mod (.blt .int [.bin .Add (.bin .Mult (.var 5) (.int 16807)) (.var 4)]) (.int 2147483629)])]]], .iff (.cmp .Eq (.blt .len [.var 1]) (.int 0)) [.ex (.mut .lAppend (.var 1) [.int 0])] [], .ret (.var 1)]⟩ -- _law_numbers
def d2 : Fd := ⟨3, ["row", "at", "limit", "mixed"], [.iff (.cmp .Lt (.var 1) (.blt .len [.var 0])) [.ret (.bin .Mod (.blt .int [.idx (.var 0) (.var 1)]) (.var 2))] [], .set 3 (.bin .Mod (.blt .int [.bin .Add (.bin .Add (.bin .Mult (.idx (.var 0) (.bin .Mod (.blt .int [.var 1]) (.blt .len [.var 0]))) (.int 40692)) (.bin .Mult (.var 1) (.int 7919))) (.int 3)]) (.int 2147483399)), .ret (.bin .Mod (.blt .int [.bin .Mod (.blt .int [.bin .Add (.bin .Mult (.var 3) (.int 48271)) (.var 1)]) (.int 2147483647)]) (.var 2))]⟩ -- _law_draw
def d3 : Fd := ⟨3, ["row", "spot", "limit"], [.put (.var 1) (.int 0) (.bin .Add (.idx (.var 1) (.int 0)) (.int 1)), .ret (.call 2 [.var 0, .bin .Sub (.idx (.var 1) (.int 0)) (.int 1), .var 2])]⟩ -- _law_take
def d4 : Fd := ⟨3, ["row", "spot", "limit", "first", "second", "third"], [.set 3 (.call 3 [.var 0, .var 1, .int 997]), .set 4 (.call 3 [.var 0, .var 1, .int 997]), .set 5 (.call 3 [.var 0, .var 1, .int 997]), .ret (.bin .Mod (.blt .int [.bin .Add (.bin .Add (.bin .Mult (.var 3) (.int 994009)) (.bin .Mult (.var 4) (.int 997))) (.var 5)]) (.var 2))]⟩ -- _law_wide
def d5 : Fd := ⟨2, ["kind", "value"], [.iff (.cmp .Eq (.var 0) (.int 0)) [.rai 1 0 [.var 1]] [], .iff (.cmp .Eq (.var 0) (.int 1)) [.rai 2 0 [.str "set/a", .var 1]] [], .iff (.cmp .Eq (.var 0) (.int 2)) [.rai 3 0 [.tup [.str "pick", .str "a", .tup []]]] [], .rai 4 0 [.var 1]]⟩ -- _law_raised
def d6 : Fd := ⟨1, ["script", "row", "spot", "kind", "value", "error", "own", "k"], [.set 1 (.call 1 [.var 0]), .new 2 (.lst [.int 0]), .set 3 (.call 3 [.var 1, .var 2, .int 4]), .set 4 (.bin .Add (.int 1) (.call 4 [.var 1, .var 2, .bin .Pow (.int 10) (.int 9)])), .tra [.ex (.call 5 [.var 3, .var 4])] 0 5 [.set 6 (.lst [.xi 5 [.cls 1], .xi 5 [.cls 2], .xi 5 [.cls 3], .xi 5 [.cls 4]]), .for_ (.rng1 (.int 4)) (.n 7) [.iff (.cmp .NotEq (.idx (.var 6) (.var 7)) (.cmp .Eq (.var 7) (.var 3))) [.ret (.bl false)] []], .iff (.or (.v (.xi 5 [.exc 0])) (.or (.v (.xi 5 [.exc 1])) (.one (.v (.xi 5 [.exc 2]))))) [.ret (.bl false)] [], .iff (.cmp .Eq (.var 3) (.int 2)) [.ret (.call 0 [.xf 5 "paper", .tup [.str "pick", .str "a", .tup []]])] [], .ret (.and (.call 0 [.xf 5 "at", .var 4]) (.one (.or (.cmp .NotEq (.var 3) (.int 1)) (.one (.cmp .Eq (.xf 5 "path") (.str "set/a"))))))], .ret (.bl false)]⟩ -- law
def tb : List (Option Fd) := [some d0, some d1, some d2, some d3, some d4, some d5, some d6]
def tc : Tc := ⟨[], [⟨.def_ "_law_so", 2, true⟩, ⟨.def_ "_law_numbers", 1, false⟩, ⟨.def_ "_law_draw", 3, false⟩, ⟨.def_ "_law_take", 3, false⟩, ⟨.def_ "_law_wide", 3, false⟩, ⟨.def_ "_law_raised", 2, false⟩, ⟨.def_ "law", 1, false⟩], ["HouseError", "BadValue", "BadFile", "NoSolution", "BadSyntax"], [1, 2, 3, 4]⟩
def top (i : Nat) : Stmt := PySem.Challenge.pw_releasehouse_k00_errors.main.body.getD i (.Pass ⟨0, 0, 0, 0⟩)
abbrev s0 : Stmt := top 7
abbrev s1 : Stmt := top 8
abbrev s2 : Stmt := top 9
abbrev s3 : Stmt := top 10
abbrev s4 : Stmt := top 11
abbrev s5 : Stmt := top 12
abbrev s6 : Stmt := top 13
abbrev s11 : Stmt := inClass (top 2) 0
abbrev s12 : Stmt := inClass (top 3) 0
abbrev s13 : Stmt := inClass (top 4) 0
abbrev s14 : Stmt := inClass (top 5) 0
def G : Tb := {
  gv := []
  fl := fun _ => []
  ck := fun _ _ => none
  cb := fun _ => none
  xi := fun c => match c with | 1 => some ["at"] | 2 => some ["path", "at"] | 3 => some ["paper"] | 4 => some ["at"] | _ => none
  xs := fun c c' => match c, c' with | 1, 0 => some true | 2, 0 => some true | 3, 0 => some true | 4, 0 => some true | _, _ => none
  xt := fun c t => match c, t with
    | 1, .cls 1 => some true
    | 1, .cls 2 => some false
    | 1, .cls 3 => some false
    | 1, .cls 4 => some false
    | 1, .exc 0 => some false
    | 1, .exc 1 => some false
    | 1, .exc 2 => some false
    | 2, .cls 1 => some false
    | 2, .cls 2 => some true
    | 2, .cls 3 => some false
    | 2, .cls 4 => some false
    | 2, .exc 0 => some false
    | 2, .exc 1 => some false
    | 2, .exc 2 => some false
    | 3, .cls 1 => some false
    | 3, .cls 2 => some false
    | 3, .cls 3 => some true
    | 3, .cls 4 => some false
    | 3, .exc 0 => some false
    | 3, .exc 1 => some false
    | 3, .exc 2 => some false
    | 4, .cls 1 => some false
    | 4, .cls 2 => some false
    | 4, .cls 3 => some false
    | 4, .cls 4 => some true
    | 4, .exc 0 => some false
    | 4, .exc 1 => some false
    | 4, .exc 2 => some false
    | _, _ => none
  xg := fun c => match c with | 1 => ["at"] | 2 => ["path", "at"] | 3 => ["paper"] | 4 => ["at"] | _ => [] }
def nat : Nat → List Sl → Hh → Rq (R × Hh) := fun _ _ _ => .no
theorem sc0 : FnScope d0.N ["found", "meant"] (defScope s0) := ⟨rfl, rfl, rfl, by decide +kernel, rfl, by decide +kernel, by decide +kernel⟩
theorem ch0 : chkSs tc d0.N (defScope s0) (fun _ => true) false d0.body (defBody s0) = true := by decide +kernel
theorem sc1 : FnScope d1.N ["script"] (defScope s1) := ⟨rfl, rfl, rfl, by decide +kernel, rfl, by decide +kernel, by decide +kernel⟩
theorem ch1 : chkSs tc d1.N (defScope s1) (fun _ => true) false d1.body (defBody s1) = true := by decide +kernel
theorem sc2 : FnScope d2.N ["row", "at", "limit"] (defScope s2) := ⟨rfl, rfl, rfl, by decide +kernel, rfl, by decide +kernel, by decide +kernel⟩
theorem ch2 : chkSs tc d2.N (defScope s2) (fun _ => true) false d2.body (defBody s2) = true := by decide +kernel
theorem sc3 : FnScope d3.N ["row", "spot", "limit"] (defScope s3) := ⟨rfl, rfl, rfl, by decide +kernel, rfl, by decide +kernel, by decide +kernel⟩
theorem ch3 : chkSs tc d3.N (defScope s3) (fun _ => true) false d3.body (defBody s3) = true := by decide +kernel
theorem sc4 : FnScope d4.N ["row", "spot", "limit"] (defScope s4) := ⟨rfl, rfl, rfl, by decide +kernel, rfl, by decide +kernel, by decide +kernel⟩
theorem ch4 : chkSs tc d4.N (defScope s4) (fun _ => true) false d4.body (defBody s4) = true := by decide +kernel
theorem sc5 : FnScope d5.N ["kind", "value"] (defScope s5) := ⟨rfl, rfl, rfl, by decide +kernel, rfl, by decide +kernel, by decide +kernel⟩
theorem ch5 : chkSs tc d5.N (defScope s5) (fun _ => true) false d5.body (defBody s5) = true := by decide +kernel
theorem sc6 : FnScope d6.N ["script"] (defScope s6) := ⟨rfl, rfl, rfl, by decide +kernel, rfl, by decide +kernel, by decide +kernel⟩
theorem ch6 : chkSs tc d6.N (defScope s6) (fun _ => true) false d6.body (defBody s6) = true := by decide +kernel
theorem ch0h : chkSs tc d0.N (defScope s0) (fun _ => true) true d0.body (defBody s0) = true := by decide +kernel
theorem sc11 : FnScope ["self", "at"] ["self", "at"] (defScope s11) := ⟨rfl, rfl, rfl, by decide +kernel, rfl, by decide +kernel, by decide +kernel⟩
theorem ch11 : chkX ["self", "at"] (defScope s11) ["at"] 1 (defBody s11) = true := by decide +kernel
theorem sc12 : FnScope ["self", "path", "at"] ["self", "path", "at"] (defScope s12) := ⟨rfl, rfl, rfl, by decide +kernel, rfl, by decide +kernel, by decide +kernel⟩
theorem ch12 : chkX ["self", "path", "at"] (defScope s12) ["path", "at"] 1 (defBody s12) = true := by decide +kernel
theorem sc13 : FnScope ["self", "paper"] ["self", "paper"] (defScope s13) := ⟨rfl, rfl, rfl, by decide +kernel, rfl, by decide +kernel, by decide +kernel⟩
theorem ch13 : chkX ["self", "paper"] (defScope s13) ["paper"] 1 (defBody s13) = true := by decide +kernel
theorem sc14 : FnScope ["self", "at"] ["self", "at"] (defScope s14) := ⟨rfl, rfl, rfl, by decide +kernel, rfl, by decide +kernel, by decide +kernel⟩
theorem ch14 : chkX ["self", "at"] (defScope s14) ["at"] 1 (defBody s14) = true := by decide +kernel
theorem run_s {n f : Nat} {d : Fd} (e : tb[f]? = some (some d)) (as : List Sl) (h : Hh) : run tb nat G (n + 1) f as h = runF (run tb nat G n) G d as h := by
  show (match tb[f]? with | some (some d) => runF (run tb nat G n) G d as h | some none => nat f as h | none => .no) = _
  rw [e]
theorem bind_ok {α β : Type} (a : α) (f : α → Rq β) : (Rq.ok a >>= f) = f a := rfl
theorem pure_ok {α : Type} (a : α) : (pure a : Rq α) = Rq.ok a := rfl
theorem of_some {α : Type} (a : α) : Rq.of (some a) = Rq.ok a := rfl
theorem inS_ok {α : Type} (a : α) (env : Fr) (f : α → Rq (Oc × Fr × Hh)) : inS (Rq.ok a) env f = f a := rfl
theorem atI_map {l : List Int} {i : Int} (h : 0 ≤ i) (h2 : i < (l.length : Int)) : atI (l.map EV.P.int) i = some (.int (l.getD i.toNat 0)) := by
  unfold atI ixN
  have h3 : i.toNat < l.length := by omega
  simp [h, h2, h3, List.getD, List.getElem?_eq_getElem h3]
/-- _law_draw -/
theorem draw_ok {n : Nat} {l : List Int} {at_ limit : Int} {h : Hh} (h1 : l ≠ []) (h2 : 0 ≤ at_) (h3 : 0 < limit) : ∃ r, run tb nat G (n + 1) 2 [.p (.lst (l.map .int)), .p (.int at_), .p (.int limit)] h = .ok (.p (.int r), h) ∧ 0 ≤ r ∧ r < limit := by
  rw [run_s (d := d2) rfl]
  have hl : 0 < l.length := List.length_pos_iff.mpr h1
  have hl' : (0 : Int) < l.length := by omega
  have m1 : 0 ≤ at_ % (l.length : Int) := Int.emod_nonneg _ (by omega)
  have m2 : at_ % (l.length : Int) < l.length := Int.emod_lt_of_pos _ hl'
  by_cases hlt : at_ < (l.length : Int)
  · simp [runF, evSs, evS, evT, ev, evB, evA, evs, frame, sget, Sl.r, R.sl, R.val, R.pl, rdv, live, bltP, opCmp, opBin, idxP, bind_ok, pure_ok, of_some, inS_ok, fnEnd, Hh.cut, isNonP, d2, hlt, atI_map h2 hlt, h3]
    exact ⟨Int.emod_nonneg _ (by omega), Int.emod_lt_of_pos _ h3⟩
  · simp [runF, evSs, evS, evT, ev, evB, evA, evs, frame, sget, Sl.r, R.sl, R.val, R.pl, rdv, live, bltP, opCmp, opBin, idxP, bind_ok, pure_ok, of_some, inS_ok, fnEnd, Hh.cut, isNonP, d2, hlt, hl, atI_map m1 m2, h3]
    exact ⟨Int.emod_nonneg _ (by omega), Int.emod_lt_of_pos _ h3⟩
/-- _law_take -/
theorem take_ok {n k : Nat} {l : List Int} {m limit : Int} {h : Hh} (h1 : l ≠ []) (h2 : 0 ≤ m) (h3 : 0 < limit) (hk : h.s[k]? = some (.lst [.int m])) : ∃ r, run tb nat G (n + 2) 3 [.p (.lst (l.map .int)), .rf k, .p (.int limit)] h = .ok (.p (.int r), ⟨h.s.set k (.lst [.int (m + 1)]), h.p⟩) ∧ 0 ≤ r ∧ r < limit := by
  rw [run_s (d := d3) rfl]
  have hk' : k < h.s.length := (List.getElem?_eq_some_iff.mp hk).1
  obtain ⟨r, e, e2⟩ := draw_ok (n := n) (l := l) (at_ := m) (limit := limit) (h := ⟨h.s.set k (.lst [.int (m + 1)]), h.p⟩) h1 h2 h3
  have hs : (h.s.set k (.lst [.int (m + 1)]))[k]? = some (.lst [.int (m + 1)]) := by rw [List.getElem?_set_self hk']
  have ht : (h.s.set k (.lst [.int (m + 1)])).take h.s.length = h.s.set k (.lst [.int (m + 1)]) := List.take_of_length_le (by simp)
  have em : m + 1 - 1 = m := by omega
  have i0 : atI [EV.P.int m] 0 = some (.int m) := rfl
  have i1 : atI [EV.P.int (m + 1)] 0 = some (.int (m + 1)) := rfl
  have p0 : ixN 1 0 = some 0 := rfl
  refine ⟨r, ?_, e2⟩
  simp [runF, evSs, evS, evT, ev, evB, evA, evs, frame, sget, Sl.r, R.sl, R.val, R.pl, rdv, live, bltP, opCmp, opBin, idxP, bind_ok, pure_ok, of_some, inS_ok, fnEnd, Hh.cut, isNonP, d3, hk, i0, atPl, Hh.get, Hh.put, EV.putAt, hs, i1, em, p0, e]
  exact ht
/-- _law_wide -/
theorem wide_ok {n k : Nat} {l : List Int} {m limit : Int} {h : Hh} (h1 : l ≠ []) (h2 : 0 ≤ m) (h3 : 0 < limit) (hk : h.s[k]? = some (.lst [.int m])) : ∃ r, run tb nat G (n + 3) 4 [.p (.lst (l.map .int)), .rf k, .p (.int limit)] h = .ok (.p (.int r), ⟨h.s.set k (.lst [.int (m + 3)]), h.p⟩) ∧ 0 ≤ r ∧ r < limit := by
  rw [run_s (d := d4) rfl]
  have hk' : k < h.s.length := (List.getElem?_eq_some_iff.mp hk).1
  obtain ⟨r1, e1, _⟩ := take_ok (n := n) (l := l) (m := m) (limit := 997) (h := h) h1 h2 (by omega) hk
  obtain ⟨r2, e2, _⟩ := take_ok (n := n) (l := l) (m := m + 1) (limit := 997) (h := ⟨h.s.set k (.lst [.int (m + 1)]), h.p⟩) h1 (by omega) (by omega) (by show (h.s.set k _)[k]? = _; rw [List.getElem?_set_self hk'])
  obtain ⟨r3, e3, _⟩ := take_ok (n := n) (l := l) (m := m + 1 + 1) (limit := 997) (h := ⟨h.s.set k (.lst [.int (m + 1 + 1)]), h.p⟩) h1 (by omega) (by omega) (by show (h.s.set k _)[k]? = _; rw [List.getElem?_set_self hk'])
  simp only [List.set_set] at e2 e3
  have ht : ∀ x : EV.P, (h.s.set k x).take h.s.length = h.s.set k x := fun x => List.take_of_length_le (by simp)
  have em : m + 1 + 1 + 1 = m + 3 := by omega
  rw [em] at e3
  refine ⟨(r1 * 994009 + r2 * 997 + r3) % limit, ?_, Int.emod_nonneg _ (by omega), Int.emod_lt_of_pos _ h3⟩
  simp [runF, evSs, evS, evT, ev, evB, evA, evs, frame, sget, Sl.r, R.sl, R.val, R.pl, rdv, live, bltP, opCmp, opBin, idxP, bind_ok, pure_ok, of_some, inS_ok, fnEnd, Hh.cut, isNonP, d4, e1, e2, e3, h3, ht]
theorem raised_ok {n : Nat} {kind value : Int} {h : Hh} (h1 : 0 ≤ kind) (h2 : kind < 4) : run tb nat G (n + 1) 5 [.p (.int kind), .p (.int value)] h =
    .ex (if kind = 0 then ⟨1, [("at", .int value)]⟩ else if kind = 1 then ⟨2, [("at", .int value), ("path", .str "set/a")]⟩ else if kind = 2 then ⟨3, [("paper", .tup [.str "pick", .str "a", .tup []])]⟩ else ⟨4, [("at", .int value)]⟩) h := by
  rw [run_s (d := d5) rfl]
  have c : kind = 0 ∨ kind = 1 ∨ kind = 2 ∨ kind = 3 := by omega
  have ht : h.s.take h.s.length = h.s := List.take_length
  rcases c with rfl | rfl | rfl | rfl <;> simp [runF, evSs, evS, evT, ev, evB, evA, evs, frame, sget, Sl.r, R.sl, R.val, R.pl, rdv, live, bltP, opCmp, opBin, idxP, bind_ok, pure_ok, of_some, inS_ok, fnEnd, Hh.cut, isNonP, d5, eqP, eqF, G, okLe, sizeLine_eq, ht]
theorem so_int {n : Nat} {v : Int} {h : Hh} : run tb nat G (n + 1) 0 [.p (.int v), .p (.int v)] h = .ok (.p (.bl true), h) := by
  rw [run_s (d := d0) rfl]
  have ht : h.s.take h.s.length = h.s := List.take_length
  simp [runF, evSs, evS, evT, ev, evB, evA, evs, frame, sget, Sl.r, R.sl, R.val, R.pl, rdv, live, bltP, opCmp, opBin, idxP, bind_ok, pure_ok, of_some, inS_ok, fnEnd, Hh.cut, isNonP, d0, eqP, eqF, isNonP, isiPs, isiP, truP, ht, R.frz]
theorem so_str {n : Nat} {v : Str} {h : Hh} : run tb nat G (n + 1) 0 [.p (.str v), .p (.str v)] h = .ok (.p (.bl true), h) := by
  rw [run_s (d := d0) rfl]
  have ht : h.s.take h.s.length = h.s := List.take_length
  simp [runF, evSs, evS, evT, ev, evB, evA, evs, frame, sget, Sl.r, R.sl, R.val, R.pl, rdv, live, bltP, opCmp, opBin, idxP, bind_ok, pure_ok, of_some, inS_ok, fnEnd, Hh.cut, isNonP, d0, eqP, eqF, isNonP, isiPs, isiP, truP, ht, R.frz]
theorem so_nil {n : Nat} {h : Hh} : run tb nat G (n + 1) 0 [.p (.tup []), .p (.tup [])] h = .ok (.p (.bl true), h) := by
  rw [run_s (d := d0) rfl]
  have ht : h.s.take h.s.length = h.s := List.take_length
  simp [runF, evSs, evS, evT, ev, evB, evA, evs, frame, sget, Sl.r, R.sl, R.val, R.pl, rdv, live, bltP, opCmp, opBin, idxP, bind_ok, pure_ok, of_some, inS_ok, fnEnd, Hh.cut, isNonP, d0, eqP, eqF, isNonP, isiPs, isiP, truP, ht, R.frz, evI, intP, forGo]
theorem so_paper {n : Nat} {h : Hh} : run tb nat G (n + 2) 0 [.p (.tup [.str "pick", .str "a", .tup []]), .p (.tup [.str "pick", .str "a", .tup []])] h = .ok (.p (.bl true), h) := by
  rw [run_s (d := d0) rfl]
  have ht : h.s.take h.s.length = h.s := List.take_length
  have e1 := so_str (n := n) (v := "pick") (h := h)
  have e2 := so_str (n := n) (v := "a") (h := h)
  have e3 := so_nil (n := n) (h := h)
  have rg : List.range 3 = [0, 1, 2] := rfl
  simp [runF, evSs, evS, evT, ev, evB, evA, evs, frame, sget, Sl.r, R.sl, R.val, R.pl, rdv, live, bltP, opCmp, opBin, idxP, bind_ok, pure_ok, of_some, inS_ok, fnEnd, Hh.cut, isNonP, d0, eqP, eqF, isNonP, isiPs, isiP, truP, ht, R.frz, evI, intP, forGo, rg, bindT, e1, e2, e3, atI, ixN]

def b60 : List S := [.iff (.cmp .Eq (.var 3) (.int 0)) [.brk] [], .ex (.mut .lAppend (.var 1) [.bin .Mod (.blt .int [.var 3]) (.int 997)]), .set 3 (.bin .FloorDiv (.var 3) (.int 997))]
theorem get_last {s : List EV.P} {q : EV.P} : (s ++ [q])[s.length]? = some q := by simp
theorem set_last {s : List EV.P} {q r : EV.P} : (s ++ [q]).set s.length r = s ++ [r] := by simp
theorem inner60 {C : Cl} {n0 : Nat} {s p : List EV.P} {a0 a2 : Option Sl} : ∀ (xs : List EV.P) (x4 x5 : Option Sl) (left : Int) (l : List Int), l.length + xs.length ≤ 10000 →
    ∃ (x4' : Option Sl) (left' : Int) (l' : List Int), forGo (fun x env => bindT (.n 4) x env) (evSs C G n0 b60) xs [a0, some (.rf s.length), a2, some (.p (.int left)), x4, x5] ⟨s ++ [.lst (l.map .int)], p⟩ =
      .ok (.nx, [a0, some (.rf s.length), a2, some (.p (.int left')), x4', x5], ⟨s ++ [.lst (l'.map .int)], p⟩) ∧ l.length ≤ l'.length ∧ l'.length ≤ l.length + xs.length
  | [], x4, x5, left, l, _ => ⟨x4, left, l, rfl, Nat.le_refl _, by simp⟩
  | x :: xs, x4, x5, left, l, h => by
    simp only [List.length_cons] at h
    by_cases hz : left = 0
    · refine ⟨some (.p x), left, l, ?_, Nat.le_refl _, by simp⟩
      subst hz
      simp [forGo, bindT, b60, evSs, evS, evT, ev, inS_ok, bind_ok, pure_ok, of_some, sget, Sl.r, rdv, opCmp, eqP, eqF]
    · obtain ⟨x4', left', l', e, e1, e2⟩ := inner60 (C := C) (n0 := n0) (s := s) (p := p) (a0 := a0) (a2 := a2) xs (some (.p x)) x5 (left / 997) (l ++ [left % 997]) (by simp; omega)
      refine ⟨x4', left', l', ?_, by simp at e1; omega, by simp at e2 ⊢; omega⟩
      have hlen : l.length < sizeLine := by rw [sizeLine_eq]; omega
      have e' := e
      simp only [List.map_append, List.map_cons, List.map_nil] at e'
      rw [← e']
      simp [forGo, bindT, b60, evSs, evS, evT, evB, evs, ev, inS_ok, bind_ok, pure_ok, of_some, sget, Sl.r, R.sl, R.val, R.pl, rdv, live, opCmp, opBin, eqP, eqF, bltP, hz, muTy, muAt, muP, Hh.get, Hh.put, hlen]
def b4 : List S := [.set 5 (.bin .Mod (.blt .int [.bin .Add (.bin .Add (.bin .Mult (.var 2) (.int 48271)) (.bin .Mult (.var 4) (.int 69621))) (.int 11)]) (.int 2147483647)), .ex (.mut .lAppend (.var 1) [.bin .Mod (.blt .int [.bin .Add (.bin .Mult (.var 5) (.int 16807)) (.var 4)]) (.int 2147483629)])]
def bo : List S := [.iff (.cmp .GtE (.var 2) (.bin .Pow (.int 10) (.int 18))) [.set 3 (.var 2), .for_ (.rng1 (.int 60)) (.n 4) b60] [.for_ (.rng1 (.int 4)) (.n 4) b4]]
theorem inner4 {C : Cl} {n0 : Nat} {s p : List EV.P} {a0 x3 : Option Sl} {cell : Int} : ∀ (xs : List Int) (x4 x5 : Option Sl) (l : List Int), l.length + xs.length ≤ 10000 →
    ∃ (x4' x5' : Option Sl) (l' : List Int), forGo (fun x env => bindT (.n 4) x env) (evSs C G n0 b4) (xs.map .int) [a0, some (.rf s.length), some (.p (.int cell)), x3, x4, x5] ⟨s ++ [.lst (l.map .int)], p⟩ =
      .ok (.nx, [a0, some (.rf s.length), some (.p (.int cell)), x3, x4', x5'], ⟨s ++ [.lst (l'.map .int)], p⟩) ∧ l.length ≤ l'.length ∧ l'.length ≤ l.length + xs.length
  | [], x4, x5, l, _ => ⟨x4, x5, l, rfl, Nat.le_refl _, by simp⟩
  | x :: xs, x4, x5, l, h => by
    simp only [List.length_cons] at h
    obtain ⟨x4', x5', l', e, e1, e2⟩ := inner4 (C := C) (n0 := n0) (s := s) (p := p) (a0 := a0) (x3 := x3) (cell := cell) xs (some (.p (.int x))) (some (.p (.int ((cell * 48271 + x * 69621 + 11) % 2147483647)))) (l ++ [((cell * 48271 + x * 69621 + 11) % 2147483647 * 16807 + x) % 2147483629]) (by simp; omega)
    refine ⟨x4', x5', l', ?_, by simp at e1; omega, by simp at e2 ⊢; omega⟩
    have hlen : l.length < sizeLine := by rw [sizeLine_eq]; omega
    have e' := e
    simp only [List.map_append, List.map_cons, List.map_nil] at e'
    rw [← e']
    simp [forGo, bindT, b4, evSs, evS, evT, evB, evs, ev, inS_ok, bind_ok, pure_ok, of_some, sget, Sl.r, R.sl, R.val, R.pl, rdv, live, opBin, bltP, muTy, muAt, muP, Hh.get, Hh.put, hlen]
theorem forGo_nx {bnd : EV.P → Fr → Option Fr} {bd : EV.Run} {x : EV.P} {xs : List EV.P} {env env1 env2 : Fr} {h h2 : Hh} (e1 : bnd x env = some env1) (e2 : bd env1 h = .ok (.nx, env2, h2)) : forGo bnd bd (x :: xs) env h = forGo bnd bd xs env2 h2 := by
  simp [forGo, e1, e2, of_some, bind_ok]
theorem for_hi {C : Cl} {n0 : Nat} {env : Fr} {h h' : Hh} {k : Nat} {w : Int} {b : List S} {env' : Fr} (w1 : -4611686018427387904 ≤ w) (w2 : w < 4611686018427387904) (hw : (List.range w.toNat).map (fun k => EV.P.int (k : Nat)) = (List.range k).map (fun k => EV.P.int (k : Nat))) (e : forGo (fun x env => bindT (.n 4) x env) (evSs C G n0 b) ((List.range k).map fun k => EV.P.int (k : Nat)) env h = .ok (.nx, env', h')) : evS C G n0 (.for_ (.rng1 (.int w)) (.n 4) b) env h = .ok (.nx, env', h') := by
  rw [← hw] at e
  simp [evS, evI, ev, inS_ok, bind_ok, pure_ok, of_some, intP, R.val, rdv, w1, w2]
  exact e
theorem seq_nx {C : Cl} {n0 : Nat} {x : S} {xs : List S} {env env1 : Fr} {h h1 : Hh} (e : evS C G n0 x env h = .ok (.nx, env1, h1)) : evSs C G n0 (x :: xs) env h = evSs C G n0 xs env1 h1 := by
  simp [evSs, e, bind_ok]
theorem seq_nil {C : Cl} {n0 : Nat} {env : Fr} {h : Hh} : evSs C G n0 [] env h = .ok (.nx, env, h) := by
  simp [evSs, pure_ok]
theorem iff_b {C : Cl} {n0 : Nat} {c : T} {a b : List S} {v : Bool} {env : Fr} {h h1 : Hh} (e : evT C G c env h = .ok (v, h1)) : evS C G n0 (.iff c a b) env h = evSs C G n0 (if v then a else b) env h1 := by
  cases v <;> simp [evS, e, inS_ok]
set_option maxHeartbeats 800000 in
theorem outer {C : Cl} {n0 : Nat} {s p : List EV.P} {a0 : Option Sl} : ∀ (ms : List Int) (x2 x3 x4 x5 : Option Sl) (l : List Int), l.length + 60 * ms.length ≤ 10000 →
    ∃ (x2' x3' x4' x5' : Option Sl) (l' : List Int), forGo (fun x env => bindT (.n 2) x env) (evSs C G n0 bo) (ms.map .int) [a0, some (.rf s.length), x2, x3, x4, x5] ⟨s ++ [.lst (l.map .int)], p⟩ =
      .ok (.nx, [a0, some (.rf s.length), x2', x3', x4', x5'], ⟨s ++ [.lst (l'.map .int)], p⟩) ∧ l'.length ≤ 10000
  | [], x2, x3, x4, x5, l, h => ⟨x2, x3, x4, x5, l, rfl, by omega⟩
  | m :: ms, x2, x3, x4, x5, l, h => by
    simp only [List.length_cons] at h
    by_cases hc : (10 : Int) ^ 18 ≤ m
    · obtain ⟨y4, left', l1, e, e1, e2⟩ := inner60 (C := C) (n0 := n0) (s := s) (p := p) (a0 := a0) (a2 := some (.p (.int m))) ((List.range 60).map fun k => .int (k : Nat)) x4 x5 m l (by simp; omega)
      obtain ⟨z2, z3, z4, z5, l2, e', e3⟩ := outer (C := C) (n0 := n0) (s := s) (p := p) (a0 := a0) ms (some (.p (.int m))) (some (.p (.int left'))) y4 x5 l1 (by simp at e2; omega)
      refine ⟨z2, z3, z4, z5, l2, ?_, e3⟩
      rw [← e']
      have ef := for_hi (k := 60) (w := 60) (by omega) (by omega) rfl e
      have hc' : (1000000000000000000 : Int) ≤ m := hc
      refine forGo_nx (env1 := [a0, some (.rf s.length), some (.p (.int m)), x3, x4, x5]) rfl ?_
      have ec : evT C G (.cmp .GtE (.var 2) (.bin .Pow (.int 10) (.int 18))) [a0, some (.rf s.length), some (.p (.int m)), x3, x4, x5] ⟨s ++ [.lst (l.map .int)], p⟩ = .ok (true, ⟨s ++ [.lst (l.map .int)], p⟩) := by
        simp [evT, ev, bind_ok, pure_ok, of_some, sget, Sl.r, R.val, R.sl, rdv, live, opCmp, opBin, hc']
      unfold bo
      suffices hh : evS C G n0 (.iff (.cmp .GtE (.var 2) (.bin .Pow (.int 10) (.int 18))) [.set 3 (.var 2), .for_ (.rng1 (.int 60)) (.n 4) b60] [.for_ (.rng1 (.int 4)) (.n 4) b4]) [a0, some (.rf s.length), some (.p (.int m)), x3, x4, x5] ⟨s ++ [.lst (l.map .int)], p⟩ = .ok (.nx, [a0, some (.rf s.length), some (.p (.int m)), some (.p (.int left')), y4, x5], ⟨s ++ [.lst (l1.map .int)], p⟩) by rw [seq_nx hh, seq_nil]
      rw [iff_b ec]
      simp only [if_true]
      have e0 : evS C G n0 (.set 3 (.var 2)) [a0, some (.rf s.length), some (.p (.int m)), x3, x4, x5] ⟨s ++ [.lst (l.map .int)], p⟩ = .ok (.nx, [a0, some (.rf s.length), some (.p (.int m)), some (.p (.int m)), x4, x5], ⟨s ++ [.lst (l.map .int)], p⟩) := by
        simp [evS, ev, inS_ok, bind_ok, pure_ok, of_some, sget, Sl.r, R.sl]
      rw [seq_nx e0, seq_nx ef, seq_nil]
    · obtain ⟨y4, y5, l1, e, e1, e2⟩ := inner4 (C := C) (n0 := n0) (s := s) (p := p) (a0 := a0) (x3 := x3) (cell := m) [0, 1, 2, 3] x4 x5 l (by simp; omega)
      obtain ⟨z2, z3, z4, z5, l2, e', e3⟩ := outer (C := C) (n0 := n0) (s := s) (p := p) (a0 := a0) ms (some (.p (.int m))) x3 y4 y5 l1 (by simp at e2; omega)
      refine ⟨z2, z3, z4, z5, l2, ?_, e3⟩
      rw [← e']
      have ef := for_hi (k := 4) (w := 4) (by omega) (by omega) rfl e
      have hc' : ¬ (1000000000000000000 : Int) ≤ m := hc
      refine forGo_nx (env1 := [a0, some (.rf s.length), some (.p (.int m)), x3, x4, x5]) rfl ?_
      have ec : evT C G (.cmp .GtE (.var 2) (.bin .Pow (.int 10) (.int 18))) [a0, some (.rf s.length), some (.p (.int m)), x3, x4, x5] ⟨s ++ [.lst (l.map .int)], p⟩ = .ok (false, ⟨s ++ [.lst (l.map .int)], p⟩) := by
        simp [evT, ev, bind_ok, pure_ok, of_some, sget, Sl.r, R.val, R.sl, rdv, live, opCmp, opBin]
        exact Int.not_le.mp hc'
      unfold bo
      suffices hh : evS C G n0 (.iff (.cmp .GtE (.var 2) (.bin .Pow (.int 10) (.int 18))) [.set 3 (.var 2), .for_ (.rng1 (.int 60)) (.n 4) b60] [.for_ (.rng1 (.int 4)) (.n 4) b4]) [a0, some (.rf s.length), some (.p (.int m)), x3, x4, x5] ⟨s ++ [.lst (l.map .int)], p⟩ = .ok (.nx, [a0, some (.rf s.length), some (.p (.int m)), x3, y4, y5], ⟨s ++ [.lst (l1.map .int)], p⟩) by rw [seq_nx hh, seq_nil]
      rw [iff_b ec]
      simp only [Bool.false_eq_true, if_false]
      rw [seq_nx ef, seq_nil]

theorem cut63 {ns : List Int} (hn : ns.length ≤ 63) : cutP (ns.map .int) none (some 63) = ns.map .int := by
  have h0 : HT.sIx (ns.map EV.P.int).length 0 none = 0 := by simp [HT.sIx]
  have h1 : ns.length ≤ HT.sIx (ns.map EV.P.int).length (ns.map EV.P.int).length (some 63) := by simp [HT.sIx]; omega
  unfold cutP
  rw [h0]
  simp only [List.drop_zero, Nat.sub_zero]
  exact List.take_of_length_le (by simpa using h1)
/-- _law_numbers -/
theorem numbers_ok {n : Nat} {ns : List Int} {s p : List EV.P} (hn : ns.length ≤ 63) : ∃ l : List Int, l ≠ [] ∧ run tb nat G (n + 1) 1 [.p (.flst (ns.map .int))] ⟨s, p⟩ = .ok (.fr (.lst (l.map .int)), ⟨s, p⟩) := by
  obtain ⟨z2, z3, z4, z5, l2, e, e3⟩ := outer (C := run tb nat G n) (n0 := s.length) (s := s) (p := p) (a0 := some (.p (.flst (ns.map .int)))) ns none none none none [] (by simp; omega)
  refine ⟨if l2 = [] then [0] else l2, by split <;> simp_all, ?_⟩
  rw [run_s (d := d1) rfl]
  have es : evS (run tb nat G n) G s.length (.for_ (.e (.slc (.var 0) none (some (.int 63)))) (.n 2) bo) [some (.p (.flst (ns.map .int))), some (.rf s.length), none, none, none, none] ⟨s ++ [.lst []], p⟩ = .ok (.nx, [some (.p (.flst (ns.map .int))), some (.rf s.length), z2, z3, z4, z5], ⟨s ++ [.lst (l2.map .int)], p⟩) := by
    simp [evS, evI, ev, evO, inS_ok, bind_ok, pure_ok, of_some, sget, Sl.r, R.val, rdv, live, slcP, seqP, intP, cut63 hn]
    exact e
  have hl : l2.length < sizeLine := by rw [sizeLine_eq]; omega
  have en : evS (run tb nat G n) G s.length (.new 1 (.lst [])) (frame d1 [.p (.flst (ns.map .int))]) ⟨s, p⟩ = .ok (.nx, [some (.p (.flst (ns.map .int))), some (.rf s.length), none, none, none, none], ⟨s ++ [.lst []], p⟩) := by
    simp [evS, ev, evs, inS_ok, bind_ok, pure_ok, of_some, frame, d1, okLe, sizeLine_eq]
  have er : evSs (run tb nat G n) G s.length [.iff (.cmp .Eq (.blt .len [.var 1]) (.int 0)) [.ex (.mut .lAppend (.var 1) [.int 0])] [], .ret (.var 1)] [some (.p (.flst (ns.map .int))), some (.rf s.length), z2, z3, z4, z5] ⟨s ++ [.lst (l2.map .int)], p⟩ = .ok (.rt (.rf s.length), [some (.p (.flst (ns.map .int))), some (.rf s.length), z2, z3, z4, z5], ⟨s ++ [.lst ((if l2 = [] then [0] else l2).map .int)], p⟩) := by
    by_cases hz : l2 = []
    · subst hz
      simp [evSs, evS, evT, evB, evs, ev, inS_ok, bind_ok, pure_ok, of_some, sget, Sl.r, R.sl, R.val, R.pl, rdv, live, opCmp, eqP, eqF, bltP, muTy, muAt, muP, Hh.get, Hh.put, sizeLine_eq]
    · have hz' : ¬ l2.length = 0 := by simpa using hz
      simp [evSs, evS, evT, evB, evs, ev, inS_ok, bind_ok, pure_ok, of_some, sget, Sl.r, R.sl, R.val, R.pl, rdv, live, opCmp, eqP, eqF, bltP, hz]
  unfold runF
  rw [if_pos (show ([Sl.p (.flst (ns.map .int))] : List Sl).length = d1.np from rfl)]
  show fnEnd s.length (evSs (run tb nat G n) G s.length (.new 1 (.lst []) :: .for_ (.e (.slc (.var 0) none (some (.int 63)))) (.n 2) bo :: _) (frame d1 _) _) = _
  rw [seq_nx en, seq_nx es, er]
  simp [fnEnd, Hh.get, Hh.cut, isNonP]

def sB : List S := [.set 6 (.lst [.xi 5 [.cls 1], .xi 5 [.cls 2], .xi 5 [.cls 3], .xi 5 [.cls 4]]), .for_ (.rng1 (.int 4)) (.n 7) [.iff (.cmp .NotEq (.idx (.var 6) (.var 7)) (.cmp .Eq (.var 7) (.var 3))) [.ret (.bl false)] []], .iff (.or (.v (.xi 5 [.exc 0])) (.or (.v (.xi 5 [.exc 1])) (.one (.v (.xi 5 [.exc 2]))))) [.ret (.bl false)] [], .iff (.cmp .Eq (.var 3) (.int 2)) [.ret (.call 0 [.xf 5 "paper", .tup [.str "pick", .str "a", .tup []]])] [], .ret (.and (.call 0 [.xf 5 "at", .var 4]) (.one (.or (.cmp .NotEq (.var 3) (.int 1)) (.one (.cmp .Eq (.xf 5 "path") (.str "set/a"))))))]
theorem xs1 : G.xs 1 0 = some true := rfl
theorem xs2 : G.xs 2 0 = some true := rfl
theorem xs3 : G.xs 3 0 = some true := rfl
theorem xs4 : G.xs 4 0 = some true := rfl
theorem xt11 : xtAny G 1 [.cls 1] = some true := rfl
theorem xt12 : xtAny G 1 [.cls 2] = some false := rfl
theorem xt13 : xtAny G 1 [.cls 3] = some false := rfl
theorem xt14 : xtAny G 1 [.cls 4] = some false := rfl
theorem xe10 : xtAny G 1 [.exc 0] = some false := rfl
theorem xe11 : xtAny G 1 [.exc 1] = some false := rfl
theorem xe12 : xtAny G 1 [.exc 2] = some false := rfl
theorem xt21 : xtAny G 2 [.cls 1] = some false := rfl
theorem xt22 : xtAny G 2 [.cls 2] = some true := rfl
theorem xt23 : xtAny G 2 [.cls 3] = some false := rfl
theorem xt24 : xtAny G 2 [.cls 4] = some false := rfl
theorem xe20 : xtAny G 2 [.exc 0] = some false := rfl
theorem xe21 : xtAny G 2 [.exc 1] = some false := rfl
theorem xe22 : xtAny G 2 [.exc 2] = some false := rfl
theorem xt31 : xtAny G 3 [.cls 1] = some false := rfl
theorem xt32 : xtAny G 3 [.cls 2] = some false := rfl
theorem xt33 : xtAny G 3 [.cls 3] = some true := rfl
theorem xt34 : xtAny G 3 [.cls 4] = some false := rfl
theorem xe30 : xtAny G 3 [.exc 0] = some false := rfl
theorem xe31 : xtAny G 3 [.exc 1] = some false := rfl
theorem xe32 : xtAny G 3 [.exc 2] = some false := rfl
theorem xt41 : xtAny G 4 [.cls 1] = some false := rfl
theorem xt42 : xtAny G 4 [.cls 2] = some false := rfl
theorem xt43 : xtAny G 4 [.cls 3] = some false := rfl
theorem xt44 : xtAny G 4 [.cls 4] = some true := rfl
theorem xe40 : xtAny G 4 [.exc 0] = some false := rfl
theorem xe41 : xtAny G 4 [.exc 1] = some false := rfl
theorem xe42 : xtAny G 4 [.exc 2] = some false := rfl
theorem pa_ne : (("path" : Str) == ("at" : Str)) = false := by decide +kernel
theorem xg1at : (("at" : Str) ∈ G.xg 1) = True := by simp [G]
theorem xg2at : (("at" : Str) ∈ G.xg 2) = True := by simp [G]
theorem xg2path : (("path" : Str) ∈ G.xg 2) = True := by simp [G]
theorem xg3paper : (("paper" : Str) ∈ G.xg 3) = True := by simp [G]
theorem xg4at : (("at" : Str) ∈ G.xg 4) = True := by simp [G]
set_option maxHeartbeats 4000000 in
theorem suite_ok {n n0 : Nat} {s p : List EV.P} {kind value : Int} {a0 a1 a2 : Option Sl} (ha : noXc [a0, a1, a2] = true) (h1 : 0 ≤ kind) (h2 : kind < 4) : ∃ env', evSs (run tb nat G (n + 2)) G n0 sB [a0, a1, a2, some (.p (.int kind)), some (.p (.int value)),
    some (if kind = 0 then .xc 1 [("at", .int value)] else if kind = 1 then .xc 2 [("at", .int value), ("path", .str "set/a")] else if kind = 2 then .xc 3 [("paper", .tup [.str "pick", .str "a", .tup []])] else .xc 4 [("at", .int value)]), none, none] ⟨s, p⟩ = .ok (.rt (.p (.bl true)), env', ⟨s, p⟩) ∧ noXc (env'.set 5 none) = true := by
  have c : kind = 0 ∨ kind = 1 ∨ kind = 2 ∨ kind = 3 := by omega
  have rg : List.range 4 = [0, 1, 2, 3] := rfl
  have q1 := so_int (n := n + 1) (v := value) (h := ⟨s, p⟩)
  have q2 := so_paper (n := n) (h := ⟨s, p⟩)
  rcases c with rfl | rfl | rfl | rfl
  all_goals
    simp only [noXc, List.all_cons, List.all_nil, Bool.and_true, Bool.and_eq_true] at ha
    simp [noXc, ha, sB, evSs, evS, evT, evI, ev, evs, evA, inS_ok, bind_ok, pure_ok, of_some, sget, Sl.r, R.sl, R.val, rdv, live, intP, opCmp, eqP, eqF, truP, okLe, sizeLine_eq, idxP, atI, ixN, forGo, bindT, rg, q1, q2, R.frz, List.lookup, pa_ne, xt11, xt12, xt13, xt14, xe10, xe11, xe12, xt21, xt22, xt23, xt24, xe20, xe21, xe22, xt31, xt32, xt33, xt34, xe30, xe31, xe32, xt41, xt42, xt43, xt44, xe40, xe41, xe42, xg1at, xg2at, xg2path, xg3paper, xg4at]

theorem tra_ok {C : Cl} {n0 : Nat} {b s : List S} {c i : Nat} {env env1 env2 : Fr} {h h1 h2 : Hh} {e : EV.Ex} {r : R} (e1 : evSs C G n0 b env h = .ok (.ex e, env1, h1)) (hx : G.xs e.c c = some true) (hn : noXc env1 = true) (hi : i < env1.length)
    (e2 : evSs C G n0 s (env1.set i (some (.xc e.c e.l))) h1 = .ok (.rt r, env2, h2)) (hn2 : noXc (env2.set i none) = true) : evS C G n0 (.tra b c i s) env h = .ok (.rt r, env2.set i none, h2) := by
  simp [evS, e1, hx, hn, hi, e2, hn2, bind_ok, pure_ok, of_some]
theorem seq_rt {C : Cl} {n0 : Nat} {x : S} {xs : List S} {env env1 : Fr} {h h1 : Hh} {r : R} (e : evS C G n0 x env h = .ok (.rt r, env1, h1)) : evSs C G n0 (x :: xs) env h = .ok (.rt r, env1, h1) := by
  simp [evSs, e, bind_ok, pure_ok]
theorem law_ok' {n : Nat} {ns : List Int} (hn : ns.length ≤ 63) : ∃ h', run tb nat G (n + 5) 6 [.p (.flst (ns.map .int))] ⟨[], []⟩ = .ok (.p (.bl true), h') := by
  obtain ⟨l, hl, e1⟩ := numbers_ok (n := n + 3) (ns := ns) (s := []) (p := []) hn
  rw [run_s (d := d6) rfl]
  obtain ⟨kind, e2, k1, k2⟩ := take_ok (n := n + 2) (k := 0) (l := l) (m := 0) (limit := 4) (h := ⟨[.lst [.int 0]], []⟩) hl (by omega) (by omega) rfl
  obtain ⟨value, e3, v1, v2⟩ := wide_ok (n := n + 1) (k := 0) (l := l) (m := 1) (limit := 1000000000) (h := ⟨[.lst [.int 1]], []⟩) hl (by omega) (by omega) rfl
  have e4 := raised_ok (n := n + 3) (kind := kind) (value := 1 + value) (h := ⟨[.lst [.int (1 + 3)]], []⟩) k1 k2
  simp only [Int.zero_add, List.set_cons_zero] at e2 e3
  obtain ⟨env2, es, en⟩ := suite_ok (n := n + 2) (n0 := 0) (s := [.lst [.int (1 + 3)]]) (p := []) (kind := kind) (value := 1 + value) (a0 := some (.p (.flst (ns.map .int)))) (a1 := some (.p (.lst (l.map .int)))) (a2 := some (.rf 0)) rfl k1 k2
  let ex : EV.Ex := if kind = 0 then ⟨1, [("at", .int (1 + value))]⟩ else if kind = 1 then ⟨2, [("at", .int (1 + value)), ("path", .str "set/a")]⟩ else if kind = 2 then ⟨3, [("paper", .tup [.str "pick", .str "a", .tup []])]⟩ else ⟨4, [("at", .int (1 + value))]⟩
  have hex : Sl.xc ex.c ex.l = if kind = 0 then .xc 1 [("at", .int (1 + value))] else if kind = 1 then .xc 2 [("at", .int (1 + value)), ("path", .str "set/a")] else if kind = 2 then .xc 3 [("paper", .tup [.str "pick", .str "a", .tup []])] else .xc 4 [("at", .int (1 + value))] := by
    show Sl.xc (ite _ _ _ : EV.Ex).c (ite _ _ _ : EV.Ex).l = _
    repeat' split
    all_goals rfl
  have hxs : G.xs ex.c 0 = some true := by
    show G.xs (ite _ _ _ : EV.Ex).c 0 = _
    repeat' split
    all_goals rfl
  have s1 : evS (run tb nat G (n + 4)) G 0 (.set 1 (.call 1 [.var 0])) (frame d6 [.p (.flst (ns.map .int))]) ⟨[], []⟩ = .ok (.nx, [some (.p (.flst (ns.map .int))), some (.p (.lst (l.map .int))), none, none, none, none, none, none], ⟨[], []⟩) := by
    simp [frame, d6, evS, ev, evA, inS_ok, bind_ok, pure_ok, of_some, sget, Sl.r, R.sl, e1]
  have s2 : evS (run tb nat G (n + 4)) G 0 (.new 2 (.lst [.int 0])) [some (.p (.flst (ns.map .int))), some (.p (.lst (l.map .int))), none, none, none, none, none, none] ⟨[], []⟩ = .ok (.nx, [some (.p (.flst (ns.map .int))), some (.p (.lst (l.map .int))), some (.rf 0), none, none, none, none, none], ⟨[.lst [.int 0]], []⟩) := by
    simp [evS, ev, evs, inS_ok, bind_ok, pure_ok, of_some, R.val, okLe, sizeLine_eq]
  have s3 : evS (run tb nat G (n + 4)) G 0 (.set 3 (.call 3 [.var 1, .var 2, .int 4])) [some (.p (.flst (ns.map .int))), some (.p (.lst (l.map .int))), some (.rf 0), none, none, none, none, none] ⟨[.lst [.int 0]], []⟩ = .ok (.nx, [some (.p (.flst (ns.map .int))), some (.p (.lst (l.map .int))), some (.rf 0), some (.p (.int kind)), none, none, none, none], ⟨[.lst [.int 1]], []⟩) := by
    simp [evS, ev, evA, inS_ok, bind_ok, pure_ok, of_some, sget, Sl.r, R.sl, e2]
  have s4 : evS (run tb nat G (n + 4)) G 0 (.set 4 (.bin .Add (.int 1) (.call 4 [.var 1, .var 2, .bin .Pow (.int 10) (.int 9)]))) [some (.p (.flst (ns.map .int))), some (.p (.lst (l.map .int))), some (.rf 0), some (.p (.int kind)), none, none, none, none] ⟨[.lst [.int 1]], []⟩ = .ok (.nx, [some (.p (.flst (ns.map .int))), some (.p (.lst (l.map .int))), some (.rf 0), some (.p (.int kind)), some (.p (.int (1 + value))), none, none, none], ⟨[.lst [.int (1 + 3)]], []⟩) := by
    simp [evS, ev, evA, inS_ok, bind_ok, pure_ok, of_some, sget, Sl.r, R.sl, opBin, rdv, e3]
  have s5 : evSs (run tb nat G (n + 4)) G 0 [.ex (.call 5 [.var 3, .var 4])] [some (.p (.flst (ns.map .int))), some (.p (.lst (l.map .int))), some (.rf 0), some (.p (.int kind)), some (.p (.int (1 + value))), none, none, none] ⟨[.lst [.int (1 + 3)]], []⟩ = .ok (.ex ex, [some (.p (.flst (ns.map .int))), some (.p (.lst (l.map .int))), some (.rf 0), some (.p (.int kind)), some (.p (.int (1 + value))), none, none, none], ⟨[.lst [.int (1 + 3)]], []⟩) := by
    simp only [evSs, evS, ev, evA, bind_ok, pure_ok, of_some, sget, Sl.r, R.sl, List.getElem?_cons_succ, List.getElem?_cons_zero, Option.bind_some, id, e4]
    rfl
  have s6 := tra_ok (C := run tb nat G (n + 4)) (n0 := 0) (b := [.ex (.call 5 [.var 3, .var 4])]) (s := sB) (c := 0) (i := 5) s5 hxs rfl (by simp) (by rw [hex]; exact es) en
  show ∃ h', fnEnd _ (evSs _ _ _ (.set 1 (.call 1 [.var 0]) :: .new 2 (.lst [.int 0]) :: .set 3 (.call 3 [.var 1, .var 2, .int 4]) :: .set 4 (.bin .Add (.int 1) (.call 4 [.var 1, .var 2, .bin .Pow (.int 10) (.int 9)])) :: .tra [.ex (.call 5 [.var 3, .var 4])] 0 5 sB :: [.ret (.bl false)]) _ _) = _
  refine ⟨⟨[], []⟩, ?_⟩
  show fnEnd 0 (evSs _ _ 0 _ _ _) = _
  rw [seq_nx s1, seq_nx s2, seq_nx s3, seq_nx s4]
  rw [seq_rt s6]
  rfl
theorem plain : ∀ ns : List Int, ns.length ≤ 63 → ∃ h', run tb nat G 20 6 [.p (.flst (ns.map .int))] ⟨[], []⟩ = .ok (.p (.bl true), h') := fun ns hn => law_ok' (n := 15) hn
section
variable {l : PySem.W.OpenLaw} {w : World} {K : PySem.W.Frag} {h : Heap} {mg : Str → Option Value} {fa C0 C1 C2 C3 C4 f0 f1 f2 f3 f4 f5 f6 f11 f12 f13 f14 : Addr}
  {od0 an0 od1 an1 od2 an2 od3 an3 od4 an4 od5 an5 od6 an6 od11 an11 od12 an12 od13 an13 od14 an14 : Option Addr} {sl0 sl1 sl2 sl3 sl4 sl5 sl6 sl11 sl12 sl13 sl14 : Array (Option Value)} {oc0 kV0 dc0 pm0 cd0 ct0 oc1 kV1 dc1 pm1 cd1 ct1 oc2 kV2 dc2 pm2 cd2 ct2 oc3 kV3 dc3 pm3 cd3 ct3 oc4 kV4 dc4 pm4 cd4 ct4 oc5 kV5 dc5 pm5 cd5 ct5 oc6 kV6 dc6 pm6 cd6 ct6 oc11 kV11 dc11 pm11 cd11 ct11 oc12 kV12 dc12 pm12 cd12 ct12 oc13 kV13 dc13 pm13 cd13 ct13 oc14 kV14 dc14 pm14 cd14 ct14 : Value}
set_option maxHeartbeats 0 in
theorem all_mk (X : K.In h) (Gh : h.Ns mainGlobals mg) (hfa : mg "law" = some (.ref fa))
    (a0 : PySem.W.nsIn K mainGlobals "_law_so" = some (some (.ref f0)))
    (l0 : K.lookup f0 = some ⟨oc0, od0, .func (PySem.W.fnOf "_law_so" "_law_so" (defArgs s0) (defBody s0) (defScope s0) .none kV0 dc0 pm0 an0 cd0 ct0), sl0⟩)
    (c0 : PySem.W.codeIn K cd0 "_law_so" = true)
    (k0 : PySem.W.keepIn K (.ref f0) = true)
    (a1 : PySem.W.nsIn K mainGlobals "_law_numbers" = some (some (.ref f1)))
    (l1 : K.lookup f1 = some ⟨oc1, od1, .func (PySem.W.fnOf "_law_numbers" "_law_numbers" (defArgs s1) (defBody s1) (defScope s1) .none kV1 dc1 pm1 an1 cd1 ct1), sl1⟩)
    (c1 : PySem.W.codeIn K cd1 "_law_numbers" = true)
    (k1 : PySem.W.keepIn K (.ref f1) = true)
    (a2 : PySem.W.nsIn K mainGlobals "_law_draw" = some (some (.ref f2)))
    (l2 : K.lookup f2 = some ⟨oc2, od2, .func (PySem.W.fnOf "_law_draw" "_law_draw" (defArgs s2) (defBody s2) (defScope s2) .none kV2 dc2 pm2 an2 cd2 ct2), sl2⟩)
    (c2 : PySem.W.codeIn K cd2 "_law_draw" = true)
    (k2 : PySem.W.keepIn K (.ref f2) = true)
    (a3 : PySem.W.nsIn K mainGlobals "_law_take" = some (some (.ref f3)))
    (l3 : K.lookup f3 = some ⟨oc3, od3, .func (PySem.W.fnOf "_law_take" "_law_take" (defArgs s3) (defBody s3) (defScope s3) .none kV3 dc3 pm3 an3 cd3 ct3), sl3⟩)
    (c3 : PySem.W.codeIn K cd3 "_law_take" = true)
    (k3 : PySem.W.keepIn K (.ref f3) = true)
    (a4 : PySem.W.nsIn K mainGlobals "_law_wide" = some (some (.ref f4)))
    (l4 : K.lookup f4 = some ⟨oc4, od4, .func (PySem.W.fnOf "_law_wide" "_law_wide" (defArgs s4) (defBody s4) (defScope s4) .none kV4 dc4 pm4 an4 cd4 ct4), sl4⟩)
    (c4 : PySem.W.codeIn K cd4 "_law_wide" = true)
    (k4 : PySem.W.keepIn K (.ref f4) = true)
    (a5 : PySem.W.nsIn K mainGlobals "_law_raised" = some (some (.ref f5)))
    (l5 : K.lookup f5 = some ⟨oc5, od5, .func (PySem.W.fnOf "_law_raised" "_law_raised" (defArgs s5) (defBody s5) (defScope s5) .none kV5 dc5 pm5 an5 cd5 ct5), sl5⟩)
    (c5 : PySem.W.codeIn K cd5 "_law_raised" = true)
    (k5 : PySem.W.keepIn K (.ref f5) = true)
    (a6 : PySem.W.nsIn K mainGlobals "law" = some (some (.ref f6)))
    (l6 : K.lookup f6 = some ⟨oc6, od6, .func (PySem.W.fnOf "law" "law" (defArgs s6) (defBody s6) (defScope s6) .none kV6 dc6 pm6 an6 cd6 ct6), sl6⟩)
    (c6 : PySem.W.codeIn K cd6 "law" = true)
    (k6 : PySem.W.keepIn K (.ref f6) = true)
    (aC0 : PySem.W.nsIn K mainGlobals "HouseError" = some (some (.ref C0)))
    (aC1 : PySem.W.nsIn K mainGlobals "BadValue" = some (some (.ref C1)))
    (aC2 : PySem.W.nsIn K mainGlobals "BadFile" = some (some (.ref C2)))
    (aC3 : PySem.W.nsIn K mainGlobals "NoSolution" = some (some (.ref C3)))
    (aC4 : PySem.W.nsIn K mainGlobals "BadSyntax" = some (some (.ref C4)))
    (h0a : PySem.W.subIn K (.ref C0) (.type "BaseException") = some true)
    (h0b : PySem.W.hasDictIn K C0 = true)
    (h0c : PySem.W.typeIn K (.ref C0) = some (.type "type"))
    (q1 : PySem.W.excInitIn K C1 bmE "Exception.__new__" = true)
    (ov1 : PySem.W.excOver K C1 bmE = true)
    (hd1 : PySem.W.hasDictIn K C1 = true)
    (sa1 : PySem.W.findIn K (.ref C1) "__setattr__" = some (some (.builtin "object.__setattr__")))
    (ex1 : PySem.W.subIn K (.ref C1) (.type "BaseException") = some true)
    (ty1 : PySem.W.typeIn K (.ref C1) = some (.type "type"))
    (kp1 : PySem.W.keepIn K (.ref C1) = true)
    (ga1 : PySem.W.findIn K (.ref C1) "__getattribute__" = some (some (.builtin "BaseException.__getattribute__")))
    (gg1 : PySem.W.findIn K (.ref C1) "__getattr__" = some none)
    (gc1 : PySem.W.findIn K (.ref C1) "__class__" = some (some (.builtin "object.__class__")))
    (mo1 : PySem.W.mroIn K C1 (.type "object") = some true)
    (su1 : PySem.W.subIn K (.ref C1) (.ref C0) = some true)
    (in1 : PySem.W.findIn K (.ref C1) "__init__" = some (some (.ref f11)))
    (ti1 : PySem.W.typeIn K (.ref f11) = some (.type "function"))
    (li1 : K.lookup f11 = some ⟨oc11, od11, .func (PySem.W.fnOf "__init__" "BadValue.__init__" (defArgs s11) (defBody s11) (defScope s11) .none kV11 dc11 pm11 an11 cd11 ct11), sl11⟩)
    (ci1 : PySem.W.codeIn K cd11 "BadValue.__init__" = true)
    (nf1at : PySem.W.findIn K (.ref C1) "at" = some none)
    (ki1_1 : PySem.W.kitOne K (.ref C1) (.ref C1) = some true)
    (ki1_2 : PySem.W.kitOne K (.ref C1) (.ref C2) = some false)
    (ki1_3 : PySem.W.kitOne K (.ref C1) (.ref C3) = some false)
    (ki1_4 : PySem.W.kitOne K (.ref C1) (.ref C4) = some false)
    (kx1_0 : PySem.W.kitOne K (.ref C1) (.type "ValueError") = some false)
    (kx1_1 : PySem.W.kitOne K (.ref C1) (.type "LookupError") = some false)
    (kx1_2 : PySem.W.kitOne K (.ref C1) (.type "ArithmeticError") = some false)
    (q2 : PySem.W.excInitIn K C2 bmE "Exception.__new__" = true)
    (ov2 : PySem.W.excOver K C2 bmE = true)
    (hd2 : PySem.W.hasDictIn K C2 = true)
    (sa2 : PySem.W.findIn K (.ref C2) "__setattr__" = some (some (.builtin "object.__setattr__")))
    (ex2 : PySem.W.subIn K (.ref C2) (.type "BaseException") = some true)
    (ty2 : PySem.W.typeIn K (.ref C2) = some (.type "type"))
    (kp2 : PySem.W.keepIn K (.ref C2) = true)
    (ga2 : PySem.W.findIn K (.ref C2) "__getattribute__" = some (some (.builtin "BaseException.__getattribute__")))
    (gg2 : PySem.W.findIn K (.ref C2) "__getattr__" = some none)
    (gc2 : PySem.W.findIn K (.ref C2) "__class__" = some (some (.builtin "object.__class__")))
    (mo2 : PySem.W.mroIn K C2 (.type "object") = some true)
    (su2 : PySem.W.subIn K (.ref C2) (.ref C0) = some true)
    (in2 : PySem.W.findIn K (.ref C2) "__init__" = some (some (.ref f12)))
    (ti2 : PySem.W.typeIn K (.ref f12) = some (.type "function"))
    (li2 : K.lookup f12 = some ⟨oc12, od12, .func (PySem.W.fnOf "__init__" "BadFile.__init__" (defArgs s12) (defBody s12) (defScope s12) .none kV12 dc12 pm12 an12 cd12 ct12), sl12⟩)
    (ci2 : PySem.W.codeIn K cd12 "BadFile.__init__" = true)
    (nf2path : PySem.W.findIn K (.ref C2) "path" = some none)
    (nf2at : PySem.W.findIn K (.ref C2) "at" = some none)
    (ki2_1 : PySem.W.kitOne K (.ref C2) (.ref C1) = some false)
    (ki2_2 : PySem.W.kitOne K (.ref C2) (.ref C2) = some true)
    (ki2_3 : PySem.W.kitOne K (.ref C2) (.ref C3) = some false)
    (ki2_4 : PySem.W.kitOne K (.ref C2) (.ref C4) = some false)
    (kx2_0 : PySem.W.kitOne K (.ref C2) (.type "ValueError") = some false)
    (kx2_1 : PySem.W.kitOne K (.ref C2) (.type "LookupError") = some false)
    (kx2_2 : PySem.W.kitOne K (.ref C2) (.type "ArithmeticError") = some false)
    (q3 : PySem.W.excInitIn K C3 bmE "Exception.__new__" = true)
    (ov3 : PySem.W.excOver K C3 bmE = true)
    (hd3 : PySem.W.hasDictIn K C3 = true)
    (sa3 : PySem.W.findIn K (.ref C3) "__setattr__" = some (some (.builtin "object.__setattr__")))
    (ex3 : PySem.W.subIn K (.ref C3) (.type "BaseException") = some true)
    (ty3 : PySem.W.typeIn K (.ref C3) = some (.type "type"))
    (kp3 : PySem.W.keepIn K (.ref C3) = true)
    (ga3 : PySem.W.findIn K (.ref C3) "__getattribute__" = some (some (.builtin "BaseException.__getattribute__")))
    (gg3 : PySem.W.findIn K (.ref C3) "__getattr__" = some none)
    (gc3 : PySem.W.findIn K (.ref C3) "__class__" = some (some (.builtin "object.__class__")))
    (mo3 : PySem.W.mroIn K C3 (.type "object") = some true)
    (su3 : PySem.W.subIn K (.ref C3) (.ref C0) = some true)
    (in3 : PySem.W.findIn K (.ref C3) "__init__" = some (some (.ref f13)))
    (ti3 : PySem.W.typeIn K (.ref f13) = some (.type "function"))
    (li3 : K.lookup f13 = some ⟨oc13, od13, .func (PySem.W.fnOf "__init__" "NoSolution.__init__" (defArgs s13) (defBody s13) (defScope s13) .none kV13 dc13 pm13 an13 cd13 ct13), sl13⟩)
    (ci3 : PySem.W.codeIn K cd13 "NoSolution.__init__" = true)
    (nf3paper : PySem.W.findIn K (.ref C3) "paper" = some none)
    (ki3_1 : PySem.W.kitOne K (.ref C3) (.ref C1) = some false)
    (ki3_2 : PySem.W.kitOne K (.ref C3) (.ref C2) = some false)
    (ki3_3 : PySem.W.kitOne K (.ref C3) (.ref C3) = some true)
    (ki3_4 : PySem.W.kitOne K (.ref C3) (.ref C4) = some false)
    (kx3_0 : PySem.W.kitOne K (.ref C3) (.type "ValueError") = some false)
    (kx3_1 : PySem.W.kitOne K (.ref C3) (.type "LookupError") = some false)
    (kx3_2 : PySem.W.kitOne K (.ref C3) (.type "ArithmeticError") = some false)
    (q4 : PySem.W.excInitIn K C4 bmE "Exception.__new__" = true)
    (ov4 : PySem.W.excOver K C4 bmE = true)
    (hd4 : PySem.W.hasDictIn K C4 = true)
    (sa4 : PySem.W.findIn K (.ref C4) "__setattr__" = some (some (.builtin "object.__setattr__")))
    (ex4 : PySem.W.subIn K (.ref C4) (.type "BaseException") = some true)
    (ty4 : PySem.W.typeIn K (.ref C4) = some (.type "type"))
    (kp4 : PySem.W.keepIn K (.ref C4) = true)
    (ga4 : PySem.W.findIn K (.ref C4) "__getattribute__" = some (some (.builtin "BaseException.__getattribute__")))
    (gg4 : PySem.W.findIn K (.ref C4) "__getattr__" = some none)
    (gc4 : PySem.W.findIn K (.ref C4) "__class__" = some (some (.builtin "object.__class__")))
    (mo4 : PySem.W.mroIn K C4 (.type "object") = some true)
    (su4 : PySem.W.subIn K (.ref C4) (.ref C0) = some true)
    (in4 : PySem.W.findIn K (.ref C4) "__init__" = some (some (.ref f14)))
    (ti4 : PySem.W.typeIn K (.ref f14) = some (.type "function"))
    (li4 : K.lookup f14 = some ⟨oc14, od14, .func (PySem.W.fnOf "__init__" "BadSyntax.__init__" (defArgs s14) (defBody s14) (defScope s14) .none kV14 dc14 pm14 an14 cd14 ct14), sl14⟩)
    (ci4 : PySem.W.codeIn K cd14 "BadSyntax.__init__" = true)
    (nf4at : PySem.W.findIn K (.ref C4) "at" = some none)
    (ki4_1 : PySem.W.kitOne K (.ref C4) (.ref C1) = some false)
    (ki4_2 : PySem.W.kitOne K (.ref C4) (.ref C2) = some false)
    (ki4_3 : PySem.W.kitOne K (.ref C4) (.ref C3) = some false)
    (ki4_4 : PySem.W.kitOne K (.ref C4) (.ref C4) = some true)
    (kx4_0 : PySem.W.kitOne K (.ref C4) (.type "ValueError") = some false)
    (kx4_1 : PySem.W.kitOne K (.ref C4) (.type "LookupError") = some false)
    (kx4_2 : PySem.W.kitOne K (.ref C4) (.type "ArithmeticError") = some false)
    (oc : PySem.W.specialIn K (.builtin "object.__class__") "__get__" = some (some (.builtin "getset_descriptor.__get__")))
    (ot : PySem.W.takesIn K (.builtin "object.__class__") = some true)
    (z0 : PySem.W.nsIn K mainGlobals "len" = some none)
    (z1 : PySem.W.nsIn K mainGlobals "int" = some none)
    (z2 : PySem.W.nsIn K mainGlobals "str" = some none)
    (z3 : PySem.W.nsIn K mainGlobals "list" = some none)
    (z4 : PySem.W.nsIn K mainGlobals "tuple" = some none)
    (z5 : PySem.W.nsIn K mainGlobals "all" = some none)
    (z6 : PySem.W.nsIn K mainGlobals "any" = some none)
    (z7 : PySem.W.nsIn K mainGlobals "sorted" = some none)
    (z8 : PySem.W.nsIn K mainGlobals "max" = some none)
    (z9 : PySem.W.nsIn K mainGlobals "min" = some none)
    (z10 : PySem.W.nsIn K mainGlobals "ord" = some none)
    (z11 : PySem.W.nsIn K mainGlobals "dict" = some none)
    (z12 : PySem.W.nsIn K mainGlobals "range" = some none)
    (z13 : PySem.W.nsIn K mainGlobals "zip" = some none)
    (z14 : PySem.W.nsIn K mainGlobals "enumerate" = some none)
    (z15 : PySem.W.nsIn K mainGlobals "isinstance" = some none)
    (z16 : PySem.W.nsIn K mainGlobals "bool" = some none)
    (z17 : PySem.W.nsIn K mainGlobals "ValueError" = some none)
    (z18 : PySem.W.nsIn K mainGlobals "LookupError" = some none)
    (z19 : PySem.W.nsIn K mainGlobals "ArithmeticError" = some none)
    (z20 : PySem.W.nsIn K mainGlobals "TypeError" = some none)
    (z21 : PySem.W.nsIn K mainGlobals "Exception" = some none)
    (plain : ∀ ns : List Int, ns.length ≤ 63 → ∃ h', run tb nat G 20 6 [.p (.flst (ns.map .int))] ⟨[], []⟩ = .ok (.p (.bl true), h')) :
    ∃ fd : FuncData, (∀ (s : Shared) (v : Value), BindsTo s fd ⟨[v], []⟩ [("script", v)]) ∧ ∀ base : Heap, K.In base → base.Ns mainGlobals mg → FnOk l.prog w K mg base (L2N.CX l.prog w) 41 fa fd ["script"] (EV.spLaw K) := by
  have e := hfa.symm.trans (PySem.W.mg_of X Gh a6)
  cases e
  have D0 : DfOk K s0 "_law_so" f0 (PySem.W.fnOf "_law_so" "_law_so" (defArgs s0) (defBody s0) (defScope s0) .none kV0 dc0 pm0 an0 cd0 ct0) := ⟨_, _, _, _, _, _, _, _, _, _, _, rfl, l0, c0⟩
  have b0 : Binds K (PySem.W.fnOf "_law_so" "_law_so" (defArgs s0) (defBody s0) (defScope s0) .none kV0 dc0 pm0 an0 cd0 ct0) ["found", "meant"] [] := .all fun us hl => match us, hl with | [_, _], _ => rfl
  have D1 : DfOk K s1 "_law_numbers" f1 (PySem.W.fnOf "_law_numbers" "_law_numbers" (defArgs s1) (defBody s1) (defScope s1) .none kV1 dc1 pm1 an1 cd1 ct1) := ⟨_, _, _, _, _, _, _, _, _, _, _, rfl, l1, c1⟩
  have b1 : Binds K (PySem.W.fnOf "_law_numbers" "_law_numbers" (defArgs s1) (defBody s1) (defScope s1) .none kV1 dc1 pm1 an1 cd1 ct1) ["script"] [] := .all fun us hl => match us, hl with | [_], _ => rfl
  have D2 : DfOk K s2 "_law_draw" f2 (PySem.W.fnOf "_law_draw" "_law_draw" (defArgs s2) (defBody s2) (defScope s2) .none kV2 dc2 pm2 an2 cd2 ct2) := ⟨_, _, _, _, _, _, _, _, _, _, _, rfl, l2, c2⟩
  have b2 : Binds K (PySem.W.fnOf "_law_draw" "_law_draw" (defArgs s2) (defBody s2) (defScope s2) .none kV2 dc2 pm2 an2 cd2 ct2) ["row", "at", "limit"] [] := .all fun us hl => match us, hl with | [_, _, _], _ => rfl
  have D3 : DfOk K s3 "_law_take" f3 (PySem.W.fnOf "_law_take" "_law_take" (defArgs s3) (defBody s3) (defScope s3) .none kV3 dc3 pm3 an3 cd3 ct3) := ⟨_, _, _, _, _, _, _, _, _, _, _, rfl, l3, c3⟩
  have b3 : Binds K (PySem.W.fnOf "_law_take" "_law_take" (defArgs s3) (defBody s3) (defScope s3) .none kV3 dc3 pm3 an3 cd3 ct3) ["row", "spot", "limit"] [] := .all fun us hl => match us, hl with | [_, _, _], _ => rfl
  have D4 : DfOk K s4 "_law_wide" f4 (PySem.W.fnOf "_law_wide" "_law_wide" (defArgs s4) (defBody s4) (defScope s4) .none kV4 dc4 pm4 an4 cd4 ct4) := ⟨_, _, _, _, _, _, _, _, _, _, _, rfl, l4, c4⟩
  have b4 : Binds K (PySem.W.fnOf "_law_wide" "_law_wide" (defArgs s4) (defBody s4) (defScope s4) .none kV4 dc4 pm4 an4 cd4 ct4) ["row", "spot", "limit"] [] := .all fun us hl => match us, hl with | [_, _, _], _ => rfl
  have D5 : DfOk K s5 "_law_raised" f5 (PySem.W.fnOf "_law_raised" "_law_raised" (defArgs s5) (defBody s5) (defScope s5) .none kV5 dc5 pm5 an5 cd5 ct5) := ⟨_, _, _, _, _, _, _, _, _, _, _, rfl, l5, c5⟩
  have b5 : Binds K (PySem.W.fnOf "_law_raised" "_law_raised" (defArgs s5) (defBody s5) (defScope s5) .none kV5 dc5 pm5 an5 cd5 ct5) ["kind", "value"] [] := .all fun us hl => match us, hl with | [_, _], _ => rfl
  have D6 : DfOk K s6 "law" fa (PySem.W.fnOf "law" "law" (defArgs s6) (defBody s6) (defScope s6) .none kV6 dc6 pm6 an6 cd6 ct6) := ⟨_, _, _, _, _, _, _, _, _, _, _, rfl, l6, c6⟩
  have b6 : Binds K (PySem.W.fnOf "law" "law" (defArgs s6) (defBody s6) (defScope s6) .none kV6 dc6 pm6 an6 cd6 ct6) ["script"] [] := .all fun us hl => match us, hl with | [_], _ => rfl
  have D11 : DfOk K s11 "BadValue.__init__" f11 (PySem.W.fnOf "__init__" "BadValue.__init__" (defArgs s11) (defBody s11) (defScope s11) .none kV11 dc11 pm11 an11 cd11 ct11) := ⟨_, _, _, _, _, _, _, _, _, _, _, rfl, li1, ci1⟩
  have b11 : Binds K (PySem.W.fnOf "__init__" "BadValue.__init__" (defArgs s11) (defBody s11) (defScope s11) .none kV11 dc11 pm11 an11 cd11 ct11) ["self", "at"] [] := .all fun us hl => match us, hl with | [_, _], _ => rfl
  have T1 : XcC K C1 := ⟨q1, ov1, hd1, sa1, ex1, ty1, kp1, fun _ _ => trivial⟩
  have E1 : ExcC K C1 := ⟨ga1, gg1, ex1, hd1, gc1, oc, ot, mo1⟩
  have F1 : XfC K C1 := ⟨ga1, gg1, ex1, hd1⟩
  have D12 : DfOk K s12 "BadFile.__init__" f12 (PySem.W.fnOf "__init__" "BadFile.__init__" (defArgs s12) (defBody s12) (defScope s12) .none kV12 dc12 pm12 an12 cd12 ct12) := ⟨_, _, _, _, _, _, _, _, _, _, _, rfl, li2, ci2⟩
  have b12 : Binds K (PySem.W.fnOf "__init__" "BadFile.__init__" (defArgs s12) (defBody s12) (defScope s12) .none kV12 dc12 pm12 an12 cd12 ct12) ["self", "path", "at"] [] := .all fun us hl => match us, hl with | [_, _, _], _ => rfl
  have T2 : XcC K C2 := ⟨q2, ov2, hd2, sa2, ex2, ty2, kp2, fun _ _ => trivial⟩
  have E2 : ExcC K C2 := ⟨ga2, gg2, ex2, hd2, gc2, oc, ot, mo2⟩
  have F2 : XfC K C2 := ⟨ga2, gg2, ex2, hd2⟩
  have D13 : DfOk K s13 "NoSolution.__init__" f13 (PySem.W.fnOf "__init__" "NoSolution.__init__" (defArgs s13) (defBody s13) (defScope s13) .none kV13 dc13 pm13 an13 cd13 ct13) := ⟨_, _, _, _, _, _, _, _, _, _, _, rfl, li3, ci3⟩
  have b13 : Binds K (PySem.W.fnOf "__init__" "NoSolution.__init__" (defArgs s13) (defBody s13) (defScope s13) .none kV13 dc13 pm13 an13 cd13 ct13) ["self", "paper"] [] := .all fun us hl => match us, hl with | [_, _], _ => rfl
  have T3 : XcC K C3 := ⟨q3, ov3, hd3, sa3, ex3, ty3, kp3, fun _ _ => trivial⟩
  have E3 : ExcC K C3 := ⟨ga3, gg3, ex3, hd3, gc3, oc, ot, mo3⟩
  have F3 : XfC K C3 := ⟨ga3, gg3, ex3, hd3⟩
  have D14 : DfOk K s14 "BadSyntax.__init__" f14 (PySem.W.fnOf "__init__" "BadSyntax.__init__" (defArgs s14) (defBody s14) (defScope s14) .none kV14 dc14 pm14 an14 cd14 ct14) := ⟨_, _, _, _, _, _, _, _, _, _, _, rfl, li4, ci4⟩
  have b14 : Binds K (PySem.W.fnOf "__init__" "BadSyntax.__init__" (defArgs s14) (defBody s14) (defScope s14) .none kV14 dc14 pm14 an14 cd14 ct14) ["self", "at"] [] := .all fun us hl => match us, hl with | [_, _], _ => rfl
  have T4 : XcC K C4 := ⟨q4, ov4, hd4, sa4, ex4, ty4, kp4, fun _ _ => trivial⟩
  have E4 : ExcC K C4 := ⟨ga4, gg4, ex4, hd4, gc4, oc, ot, mo4⟩
  have F4 : XfC K C4 := ⟨ga4, gg4, ex4, hd4⟩
  let g : Gc := ⟨K, fun n => match n with | 0 => C0 | 1 => C1 | 2 => C2 | 3 => C3 | _ => C4⟩
  have pr : Prg g G tc K mg := {
    hK := rfl
    bl := fun x hx => by
      simp only [bNames, List.mem_cons, List.not_mem_nil, or_false] at hx
      rcases hx with rfl | rfl | rfl | rfl | rfl | rfl | rfl | rfl | rfl | rfl | rfl | rfl | rfl | rfl | rfl | rfl | rfl | rfl | rfl | rfl | rfl | rfl
      · exact PySem.W.mg_none_of X Gh z0
      · exact PySem.W.mg_none_of X Gh z1
      · exact PySem.W.mg_none_of X Gh z2
      · exact PySem.W.mg_none_of X Gh z3
      · exact PySem.W.mg_none_of X Gh z4
      · exact PySem.W.mg_none_of X Gh z5
      · exact PySem.W.mg_none_of X Gh z6
      · exact PySem.W.mg_none_of X Gh z7
      · exact PySem.W.mg_none_of X Gh z8
      · exact PySem.W.mg_none_of X Gh z9
      · exact PySem.W.mg_none_of X Gh z10
      · exact PySem.W.mg_none_of X Gh z11
      · exact PySem.W.mg_none_of X Gh z12
      · exact PySem.W.mg_none_of X Gh z13
      · exact PySem.W.mg_none_of X Gh z14
      · exact PySem.W.mg_none_of X Gh z15
      · exact PySem.W.mg_none_of X Gh z16
      · exact PySem.W.mg_none_of X Gh z17
      · exact PySem.W.mg_none_of X Gh z18
      · exact PySem.W.mg_none_of X Gh z19
      · exact PySem.W.mg_none_of X Gh z20
      · exact PySem.W.mg_none_of X Gh z21
    gv := fun i x e => by simp [tc] at e
    cn := fun n x e => by
      match n, e with
      | 0, e => cases e; exact PySem.W.mg_of X Gh aC0
      | 1, e => cases e; exact PySem.W.mg_of X Gh aC1
      | 2, e => cases e; exact PySem.W.mg_of X Gh aC2
      | 3, e => cases e; exact PySem.W.mg_of X Gh aC3
      | 4, e => cases e; exact PySem.W.mg_of X Gh aC4
      | n + 5, e => simp [tc] at e
    fl := fun c f hf => by simp [G] at hf
    ck := ⟨fun _ _ _ e => (by cases e), fun _ _ e => (by cases e)⟩
    xi := fun c fs e => by
      match c, e with
      | 0, e => cases e
      | 1, e => cases e; exact ⟨by decide, by decide, T1, f11, _, _, _, _, _, in1, ti1, D11, sc11, rfl, rfl, fun f hf => (by simp only [List.mem_cons, List.not_mem_nil, or_false] at hf; rcases hf with rfl <;> assumption), ch11, b11⟩
      | 2, e => cases e; exact ⟨by decide, by decide, T2, f12, _, _, _, _, _, in2, ti2, D12, sc12, rfl, rfl, fun f hf => (by simp only [List.mem_cons, List.not_mem_nil, or_false] at hf; rcases hf with rfl | rfl <;> assumption), ch12, b12⟩
      | 3, e => cases e; exact ⟨by decide, by decide, T3, f13, _, _, _, _, _, in3, ti3, D13, sc13, rfl, rfl, fun f hf => (by simp only [List.mem_cons, List.not_mem_nil, or_false] at hf; rcases hf with rfl <;> assumption), ch13, b13⟩
      | 4, e => cases e; exact ⟨by decide, by decide, T4, f14, _, _, _, _, _, in4, ti4, D14, sc14, rfl, rfl, fun f hf => (by simp only [List.mem_cons, List.not_mem_nil, or_false] at hf; rcases hf with rfl <;> assumption), ch14, b14⟩
      | n + 5, e => cases e
    xs := fun c c' b e => by
      match c, c', e with
      | 1, 0, e => cases e; exact PySem.W.exm_ref h0a h0b h0c su1
      | 2, 0, e => cases e; exact PySem.W.exm_ref h0a h0b h0c su2
      | 3, 0, e => cases e; exact PySem.W.exm_ref h0a h0b h0c su3
      | 4, 0, e => cases e; exact PySem.W.exm_ref h0a h0b h0c su4
      | 0, _, e => cases e
      | 1, n + 1, e => cases e
      | 2, n + 1, e => cases e
      | 3, n + 1, e => cases e
      | 4, n + 1, e => cases e
      | n + 5, _, e => cases e
    xg := fun c f hf => by
      match c, hf with
      | 0, hf => cases hf
      | 1, hf => (have hf : f ∈ (["at"] : List Str) := hf; simp only [List.mem_cons, List.not_mem_nil, or_false] at hf; rcases hf with rfl <;> exact ⟨F1, by assumption⟩)
      | 2, hf => (have hf : f ∈ (["path", "at"] : List Str) := hf; simp only [List.mem_cons, List.not_mem_nil, or_false] at hf; rcases hf with rfl | rfl <;> exact ⟨F2, by assumption⟩)
      | 3, hf => (have hf : f ∈ (["paper"] : List Str) := hf; simp only [List.mem_cons, List.not_mem_nil, or_false] at hf; rcases hf with rfl <;> exact ⟨F3, by assumption⟩)
      | 4, hf => (have hf : f ∈ (["at"] : List Str) := hf; simp only [List.mem_cons, List.not_mem_nil, or_false] at hf; rcases hf with rfl <;> exact ⟨F4, by assumption⟩)
      | n + 5, hf => cases hf
    xt := fun c t b e => by
      unfold G at e
      dsimp only at e
      split at e <;> first
        | (cases e; done)
        | (cases e; exact ⟨ki1_1, E1⟩)
        | (cases e; exact ⟨ki1_2, E1⟩)
        | (cases e; exact ⟨ki1_3, E1⟩)
        | (cases e; exact ⟨ki1_4, E1⟩)
        | (cases e; exact ⟨kx1_0, E1⟩)
        | (cases e; exact ⟨kx1_1, E1⟩)
        | (cases e; exact ⟨kx1_2, E1⟩)
        | (cases e; exact ⟨ki2_1, E2⟩)
        | (cases e; exact ⟨ki2_2, E2⟩)
        | (cases e; exact ⟨ki2_3, E2⟩)
        | (cases e; exact ⟨ki2_4, E2⟩)
        | (cases e; exact ⟨kx2_0, E2⟩)
        | (cases e; exact ⟨kx2_1, E2⟩)
        | (cases e; exact ⟨kx2_2, E2⟩)
        | (cases e; exact ⟨ki3_1, E3⟩)
        | (cases e; exact ⟨ki3_2, E3⟩)
        | (cases e; exact ⟨ki3_3, E3⟩)
        | (cases e; exact ⟨ki3_4, E3⟩)
        | (cases e; exact ⟨kx3_0, E3⟩)
        | (cases e; exact ⟨kx3_1, E3⟩)
        | (cases e; exact ⟨kx3_2, E3⟩)
        | (cases e; exact ⟨ki4_1, E4⟩)
        | (cases e; exact ⟨ki4_2, E4⟩)
        | (cases e; exact ⟨ki4_3, E4⟩)
        | (cases e; exact ⟨ki4_4, E4⟩)
        | (cases e; exact ⟨kx4_0, E4⟩)
        | (cases e; exact ⟨kx4_1, E4⟩)
        | (cases e; exact ⟨kx4_2, E4⟩)
    xb := fun c hc => by
      simp only [tc, List.mem_cons, List.not_mem_nil, or_false] at hc
      rcases hc with rfl | rfl | rfl | rfl <;> exact ⟨_, rfl⟩ }
  have al : AllI g tc tb nat K mg := fun f s e => by
    match f, e with
    | 0, e => cases e; exact .inl ⟨d0, rfl, f0, _, _, s0, _, rfl, b0, ⟨PySem.W.mg_of X Gh a0, k0⟩, rfl, D0, sc0, ch0, fun _ => ch0h⟩
    | 1, e => cases e; exact .inl ⟨d1, rfl, f1, _, _, s1, _, rfl, b1, ⟨PySem.W.mg_of X Gh a1, k1⟩, rfl, D1, sc1, ch1, fun z => (by cases z)⟩
    | 2, e => cases e; exact .inl ⟨d2, rfl, f2, _, _, s2, _, rfl, b2, ⟨PySem.W.mg_of X Gh a2, k2⟩, rfl, D2, sc2, ch2, fun z => (by cases z)⟩
    | 3, e => cases e; exact .inl ⟨d3, rfl, f3, _, _, s3, _, rfl, b3, ⟨PySem.W.mg_of X Gh a3, k3⟩, rfl, D3, sc3, ch3, fun z => (by cases z)⟩
    | 4, e => cases e; exact .inl ⟨d4, rfl, f4, _, _, s4, _, rfl, b4, ⟨PySem.W.mg_of X Gh a4, k4⟩, rfl, D4, sc4, ch4, fun z => (by cases z)⟩
    | 5, e => cases e; exact .inl ⟨d5, rfl, f5, _, _, s5, _, rfl, b5, ⟨PySem.W.mg_of X Gh a5, k5⟩, rfl, D5, sc5, ch5, fun z => (by cases z)⟩
    | 6, e => cases e; exact .inl ⟨d6, rfl, fa, _, _, s6, _, rfl, b6, ⟨PySem.W.mg_of X Gh a6, k6⟩, rfl, D6, sc6, ch6, fun z => (by cases z)⟩
    | n + 7, e => simp [tc] at e
  exact ⟨PySem.W.fnOf "law" "law" (defArgs s6) (defBody s6) (defScope s6) .none kV6 dc6 pm6 an6 cd6 ct6, fun s v => .of_eq rfl, fun base _ _ => law_ok (n := 20) (L := 6) pr al rfl (PySem.W.mg_of X Gh a6) rfl rfl l6 plain⟩
end
theorem walk {l : PySem.W.OpenLaw} {q : Program} {loose : List Str} {XP : (Str → Option Value) → Heap → Prop} {YP : World → Heap → Prop} {d : DefRec} {K : Params → PySem.W.Frag} (hn : l.most = some 63) (hdf : d.params.defaults = [])
    (hY : ∀ (w : World) (h : Heap), YP w h → (K w.params).In h)
    (F : ∀ (w : World) (mg : Str → Option Value) (fa : Addr) (h : Heap), (K w.params).In h → h.Ns mainGlobals mg → mg d.name = some (.ref fa) →
      ∃ fd : FuncData, (∀ (s : Shared) (u : Value), BindsTo s fd ⟨[u], []⟩ [("script", u)]) ∧ ∀ base : Heap, (K w.params).In base → base.Ns mainGlobals mg → FnOk l.prog w (K w.params) mg base (L2N.CX l.prog w) 41 fa fd ["script"] (EV.spLaw (K w.params))) :
    PySem.W.WalkO q loose XP YP l.row.toRowW d [] (fun f vs => PySem.call f vs) :=
  L2.walk_of (n := 63) (k := 41) (x := "script") (CX := fun w => L2N.CX l.prog w) (sp := fun w => EV.spLaw (K w.params)) hn (by decide) hdf ⟨rfl, by decide, by decide⟩ hY F (fun _ _ a ns hl _ hS => ⟨a, ns, rfl, hS, hl, fun _ => rfl⟩) fun _ _ _ _ _ z => by
    obtain ⟨_, _, _, _, _, _, _, _, _, _, _, _, e⟩ := z
    exact e
end K00
open PySem PySem.W PyProof.Rows in
set_option maxRecDepth 100000 in
set_option maxHeartbeats 0 in
theorem PySem.Challenge.cw_releasehouse_k00_errors_holds : PySem.Challenge.rw_releasehouse_k00_errors.Holds := by
  w_on; o_law; k_head; (case hw => w_witness2)
  k_fill
  refine K00.walk (l := PySem.Challenge.rw_releasehouse_k00_errors) rfl rfl (fun w h Y => PySem.W.kIn_of Y) ?F
  case F =>
    intro w mg fa h KX Gh hmg
    refine' K00.all_mk KX Gh hmg ?a0 ?l0 ?c0 ?k0 ?a1 ?l1 ?c1 ?k1 ?a2 ?l2 ?c2 ?k2 ?a3 ?l3 ?c3 ?k3 ?a4 ?l4 ?c4 ?k4 ?a5 ?l5 ?c5 ?k5 ?a6 ?l6 ?c6 ?k6 ?aC0 ?aC1 ?aC2 ?aC3 ?aC4 ?h0a ?h0b ?h0c ?q1 ?ov1 ?hd1 ?sa1 ?ex1 ?ty1 ?kp1 ?ga1 ?gg1 ?gc1 ?mo1 ?su1 ?in1 ?ti1 ?li1 ?ci1 ?nf1at ?ki1_1 ?ki1_2 ?ki1_3 ?ki1_4 ?kx1_0 ?kx1_1 ?kx1_2 ?q2 ?ov2 ?hd2 ?sa2 ?ex2 ?ty2 ?kp2 ?ga2 ?gg2 ?gc2 ?mo2 ?su2 ?in2 ?ti2 ?li2 ?ci2 ?nf2path ?nf2at ?ki2_1 ?ki2_2 ?ki2_3 ?ki2_4 ?kx2_0 ?kx2_1 ?kx2_2 ?q3 ?ov3 ?hd3 ?sa3 ?ex3 ?ty3 ?kp3 ?ga3 ?gg3 ?gc3 ?mo3 ?su3 ?in3 ?ti3 ?li3 ?ci3 ?nf3paper ?ki3_1 ?ki3_2 ?ki3_3 ?ki3_4 ?kx3_0 ?kx3_1 ?kx3_2 ?q4 ?ov4 ?hd4 ?sa4 ?ex4 ?ty4 ?kp4 ?ga4 ?gg4 ?gc4 ?mo4 ?su4 ?in4 ?ti4 ?li4 ?ci4 ?nf4at ?ki4_1 ?ki4_2 ?ki4_3 ?ki4_4 ?kx4_0 ?kx4_1 ?kx4_2 ?oc ?ot ?z0 ?z1 ?z2 ?z3 ?z4 ?z5 ?z6 ?z7 ?z8 ?z9 ?z10 ?z11 ?z12 ?z13 ?z14 ?z15 ?z16 ?z17 ?z18 ?z19 ?z20 ?z21 K00.plain
    (case a0 => first | k_is | kx_is | kit_is)
    (case l0 => first | k_is | kx_is | kit_is)
    (case c0 => first | k_is | kx_is | kit_is)
    (case k0 => first | k_is | kx_is | kit_is)
    (case a1 => first | k_is | kx_is | kit_is)
    (case l1 => first | k_is | kx_is | kit_is)
    (case c1 => first | k_is | kx_is | kit_is)
    (case k1 => first | k_is | kx_is | kit_is)
    (case a2 => first | k_is | kx_is | kit_is)
    (case l2 => first | k_is | kx_is | kit_is)
    (case c2 => first | k_is | kx_is | kit_is)
    (case k2 => first | k_is | kx_is | kit_is)
    (case a3 => first | k_is | kx_is | kit_is)
    (case l3 => first | k_is | kx_is | kit_is)
    (case c3 => first | k_is | kx_is | kit_is)
    (case k3 => first | k_is | kx_is | kit_is)
    (case a4 => first | k_is | kx_is | kit_is)
    (case l4 => first | k_is | kx_is | kit_is)
    (case c4 => first | k_is | kx_is | kit_is)
    (case k4 => first | k_is | kx_is | kit_is)
    (case a5 => first | k_is | kx_is | kit_is)
    (case l5 => first | k_is | kx_is | kit_is)
    (case c5 => first | k_is | kx_is | kit_is)
    (case k5 => first | k_is | kx_is | kit_is)
    (case a6 => first | k_is | kx_is | kit_is)
    (case l6 => first | k_is | kx_is | kit_is)
    (case c6 => first | k_is | kx_is | kit_is)
    (case k6 => first | k_is | kx_is | kit_is)
    (case aC0 => first | k_is | kx_is | kit_is)
    (case aC1 => first | k_is | kx_is | kit_is)
    (case aC2 => first | k_is | kx_is | kit_is)
    (case aC3 => first | k_is | kx_is | kit_is)
    (case aC4 => first | k_is | kx_is | kit_is)
    (case h0a => first | k_is | kx_is | kit_is)
    (case h0b => first | k_is | kx_is | kit_is)
    (case h0c => first | k_is | kx_is | kit_is)
    (case q1 => first | k_is | kx_is | kit_is)
    (case ov1 => first | k_is | kx_is | kit_is)
    (case hd1 => first | k_is | kx_is | kit_is)
    (case sa1 => first | k_is | kx_is | kit_is)
    (case ex1 => first | k_is | kx_is | kit_is)
    (case ty1 => first | k_is | kx_is | kit_is)
    (case kp1 => first | k_is | kx_is | kit_is)
    (case ga1 => first | k_is | kx_is | kit_is)
    (case gg1 => first | k_is | kx_is | kit_is)
    (case gc1 => first | k_is | kx_is | kit_is)
    (case mo1 => first | k_is | kx_is | kit_is)
    (case su1 => first | k_is | kx_is | kit_is)
    (case in1 => first | k_is | kx_is | kit_is)
    (case ti1 => first | k_is | kx_is | kit_is)
    (case li1 => first | k_is | kx_is | kit_is)
    (case ci1 => first | k_is | kx_is | kit_is)
    (case nf1at => first | k_is | kx_is | kit_is)
    (case ki1_1 => first | k_is | kx_is | kit_is)
    (case ki1_2 => first | k_is | kx_is | kit_is)
    (case ki1_3 => first | k_is | kx_is | kit_is)
    (case ki1_4 => first | k_is | kx_is | kit_is)
    (case kx1_0 => first | k_is | kx_is | kit_is)
    (case kx1_1 => first | k_is | kx_is | kit_is)
    (case kx1_2 => first | k_is | kx_is | kit_is)
    (case q2 => first | k_is | kx_is | kit_is)
    (case ov2 => first | k_is | kx_is | kit_is)
    (case hd2 => first | k_is | kx_is | kit_is)
    (case sa2 => first | k_is | kx_is | kit_is)
    (case ex2 => first | k_is | kx_is | kit_is)
    (case ty2 => first | k_is | kx_is | kit_is)
    (case kp2 => first | k_is | kx_is | kit_is)
    (case ga2 => first | k_is | kx_is | kit_is)
    (case gg2 => first | k_is | kx_is | kit_is)
    (case gc2 => first | k_is | kx_is | kit_is)
    (case mo2 => first | k_is | kx_is | kit_is)
    (case su2 => first | k_is | kx_is | kit_is)
    (case in2 => first | k_is | kx_is | kit_is)
    (case ti2 => first | k_is | kx_is | kit_is)
    (case li2 => first | k_is | kx_is | kit_is)
    (case ci2 => first | k_is | kx_is | kit_is)
    (case nf2path => first | k_is | kx_is | kit_is)
    (case nf2at => first | k_is | kx_is | kit_is)
    (case ki2_1 => first | k_is | kx_is | kit_is)
    (case ki2_2 => first | k_is | kx_is | kit_is)
    (case ki2_3 => first | k_is | kx_is | kit_is)
    (case ki2_4 => first | k_is | kx_is | kit_is)
    (case kx2_0 => first | k_is | kx_is | kit_is)
    (case kx2_1 => first | k_is | kx_is | kit_is)
    (case kx2_2 => first | k_is | kx_is | kit_is)
    (case q3 => first | k_is | kx_is | kit_is)
    (case ov3 => first | k_is | kx_is | kit_is)
    (case hd3 => first | k_is | kx_is | kit_is)
    (case sa3 => first | k_is | kx_is | kit_is)
    (case ex3 => first | k_is | kx_is | kit_is)
    (case ty3 => first | k_is | kx_is | kit_is)
    (case kp3 => first | k_is | kx_is | kit_is)
    (case ga3 => first | k_is | kx_is | kit_is)
    (case gg3 => first | k_is | kx_is | kit_is)
    (case gc3 => first | k_is | kx_is | kit_is)
    (case mo3 => first | k_is | kx_is | kit_is)
    (case su3 => first | k_is | kx_is | kit_is)
    (case in3 => first | k_is | kx_is | kit_is)
    (case ti3 => first | k_is | kx_is | kit_is)
    (case li3 => first | k_is | kx_is | kit_is)
    (case ci3 => first | k_is | kx_is | kit_is)
    (case nf3paper => first | k_is | kx_is | kit_is)
    (case ki3_1 => first | k_is | kx_is | kit_is)
    (case ki3_2 => first | k_is | kx_is | kit_is)
    (case ki3_3 => first | k_is | kx_is | kit_is)
    (case ki3_4 => first | k_is | kx_is | kit_is)
    (case kx3_0 => first | k_is | kx_is | kit_is)
    (case kx3_1 => first | k_is | kx_is | kit_is)
    (case kx3_2 => first | k_is | kx_is | kit_is)
    (case q4 => first | k_is | kx_is | kit_is)
    (case ov4 => first | k_is | kx_is | kit_is)
    (case hd4 => first | k_is | kx_is | kit_is)
    (case sa4 => first | k_is | kx_is | kit_is)
    (case ex4 => first | k_is | kx_is | kit_is)
    (case ty4 => first | k_is | kx_is | kit_is)
    (case kp4 => first | k_is | kx_is | kit_is)
    (case ga4 => first | k_is | kx_is | kit_is)
    (case gg4 => first | k_is | kx_is | kit_is)
    (case gc4 => first | k_is | kx_is | kit_is)
    (case mo4 => first | k_is | kx_is | kit_is)
    (case su4 => first | k_is | kx_is | kit_is)
    (case in4 => first | k_is | kx_is | kit_is)
    (case ti4 => first | k_is | kx_is | kit_is)
    (case li4 => first | k_is | kx_is | kit_is)
    (case ci4 => first | k_is | kx_is | kit_is)
    (case nf4at => first | k_is | kx_is | kit_is)
    (case ki4_1 => first | k_is | kx_is | kit_is)
    (case ki4_2 => first | k_is | kx_is | kit_is)
    (case ki4_3 => first | k_is | kx_is | kit_is)
    (case ki4_4 => first | k_is | kx_is | kit_is)
    (case kx4_0 => first | k_is | kx_is | kit_is)
    (case kx4_1 => first | k_is | kx_is | kit_is)
    (case kx4_2 => first | k_is | kx_is | kit_is)
    (case oc => first | k_is | kx_is | kit_is)
    (case ot => first | k_is | kx_is | kit_is)
    (case z0 => first | k_is | kx_is | kit_is)
    (case z1 => first | k_is | kx_is | kit_is)
    (case z2 => first | k_is | kx_is | kit_is)
    (case z3 => first | k_is | kx_is | kit_is)
    (case z4 => first | k_is | kx_is | kit_is)
    (case z5 => first | k_is | kx_is | kit_is)
    (case z6 => first | k_is | kx_is | kit_is)
    (case z7 => first | k_is | kx_is | kit_is)
    (case z8 => first | k_is | kx_is | kit_is)
    (case z9 => first | k_is | kx_is | kit_is)
    (case z10 => first | k_is | kx_is | kit_is)
    (case z11 => first | k_is | kx_is | kit_is)
    (case z12 => first | k_is | kx_is | kit_is)
    (case z13 => first | k_is | kx_is | kit_is)
    (case z14 => first | k_is | kx_is | kit_is)
    (case z15 => first | k_is | kx_is | kit_is)
    (case z16 => first | k_is | kx_is | kit_is)
    (case z17 => first | k_is | kx_is | kit_is)
    (case z18 => first | k_is | kx_is | kit_is)
    (case z19 => first | k_is | kx_is | kit_is)
    (case z20 => first | k_is | kx_is | kit_is)
    (case z21 => first | k_is | kx_is | kit_is)

