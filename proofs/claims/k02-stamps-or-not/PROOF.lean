import PyProof.Rows.All
import Wide.All
import OpenK.AllK
import Wide.FinOn
import HandS.ForMost
import HandS.IsInst
import HandS.Wide
import HandS.TupAny
import HandS.TupLe
import HandS.Deep
import HandS.NoneIn
import HandS.Defaults
import HandS.HeadHook2
import HandS.HeadEnd
import HandS.Head2
import HandS.Text
import PySem.Unicode
import PySem.Challenge.RW_farcopies_k02_stamps_or_not
set_option Elab.async false
set_option linter.all false
set_option maxRecDepth 100000
set_option maxHeartbeats 4000000
/-! Deep data over the hand layer: values as trees, what is owned and may change, what is only read. -/
namespace Fd
open PySem PySem.Spec PyProof.Rows L2

/-- a value with all that hangs on it -/
inductive Dv where
  | non | bl (b : Bool) | int (i : Int) | str (x : Str)
  | tup (xs : List Dv) | lst (xs : List Dv) | frl (ns : List Int)
  | dct (kvs : List (Dv × Dv))
  | obj (C : Addr) (fs : List (Str × Dv))
mutual
/-- nothing of it may change -/
def Dv.pur : Dv → Bool
  | .non => true | .bl _ => true | .int _ => true | .str _ => true | .frl _ => true
  | .tup xs => Dv.purs xs
  | .lst _ => false | .dct _ => false | .obj _ _ => false
def Dv.purs : List Dv → Bool
  | [] => true
  | d :: ds => d.pur && Dv.purs ds
end
theorem purs_all : ∀ ds : List Dv, Dv.purs ds = ds.all Dv.pur
  | [] => rfl
  | d :: ds => by rw [List.all_cons, ← purs_all ds]; rfl
/-- but for itself nothing of it may change -/
def Dv.sh : Dv → Bool
  | .lst xs => Dv.purs xs
  | .dct kvs => Dv.purs (kvs.map (·.2))
  | .obj _ fs => Dv.purs (fs.map (·.2))
  | d => d.pur
/-- a key as a value -/
def kD : Key → Dv
  | .inl i => .int i
  | .inr x => .str x
/-- a list that nobody changes -/
def SqF (K : PySem.W.Frag) (H : Hp) (a : Addr) (xs : List V) : Prop :=
  (∃ o, H a = some (.frz o (.lst xs))) ∨
    ∃ (o : Obj) (its : Array Value) (n : Nat), K.lookup a = some o ∧ o.cls = .type "list" ∧ o.dict = none ∧ o.data = .seq its n ∧ its.size ≤ sizeLine ∧ Vals xs its.toList
theorem SqF.sq {K : PySem.W.Frag} {H : Hp} {a : Addr} {xs : List V} (h : SqF K H a xs) : SqL K H a xs := by
  rcases h with ⟨o, h⟩ | h
  · exact .inl (.inr ⟨o, h⟩)
  · exact .inr h

mutual
inductive Rep (K : PySem.W.Frag) (H : Hp) : V → Dv → List Addr → Prop
  | non : Rep K H .non .non []
  | bl (b : Bool) : Rep K H (.bl b) (.bl b) []
  | int (i : Int) : Rep K H (.int i) (.int i) []
  | str (x : Str) : Rep K H (.str x) (.str x) []
  | tup {a : Addr} {xs : List V} {ds : List Dv} {G : List Addr} : SqT K H a xs → Reps K H xs ds G → Rep K H (.ref a) (.tup ds) G
  | lst {a : Addr} {xs : List V} {ds : List Dv} {G : List Addr} : H a = some (.lst xs) → Reps K H xs ds G → Rep K H (.ref a) (.lst ds) (a :: G)
  | frl {a : Addr} {ns : List Int} : SqF K H a (ns.map V.int) → Rep K H (.ref a) (.frl ns) []
  | dct {a : Addr} {kvs : List (Key × V)} {des : List (Dv × Dv)} {G : List Addr} : Rd H a (.dK kvs) → des.map (·.1) = kvs.map (fun p => kD p.1) → Reps K H (kvs.map (·.2)) (des.map (·.2)) G → Rep K H (.ref a) (.dct des) (a :: G)
  | dctT {a : Addr} {kvs : List (List Key × V)} {des : List (Dv × Dv)} {G : List Addr} : Rd H a (.dT kvs) → des.map (·.1) = kvs.map (fun p => Dv.tup (p.1.map kD)) → Reps K H (kvs.map (·.2)) (des.map (·.2)) G → Rep K H (.ref a) (.dct des) (a :: G)
  | obj {a C dx : Addr} {fs : List (Str × V)} {es : List (Str × Dv)} {G : List Addr} : H a = some (.ins C dx fs) → es.map (·.1) = fs.map (·.1) → Reps K H (fs.map (·.2)) (es.map (·.2)) G → Rep K H (.ref a) (.obj C es) (a :: G)
inductive Reps (K : PySem.W.Frag) (H : Hp) : List V → List Dv → List Addr → Prop
  | nil : Reps K H [] [] []
  | cons {v : V} {d : Dv} {G : List Addr} {vs : List V} {ds : List Dv} {G' : List Addr} : Rep K H v d G → Reps K H vs ds G' → Reps K H (v :: vs) (d :: ds) (G ++ G')
end

/-- may change -/
def Mu : HO → Prop
  | .lst _ => True
  | .dK _ => True
  | .dT _ => True
  | .ins _ _ _ => True
  | _ => False
/-- only what may change at M has changed, and there is more -/
structure Stp (M : Addr → Prop) (H H' : Hp) : Prop where
  keep : ∀ a o, H a = some o → (Mu o → ¬ M a) → H' a = some o
  al : ∀ a, H' a = none → H a = none
theorem Stp.refl {M : Addr → Prop} {H : Hp} : Stp M H H := ⟨fun _ _ h _ => h, fun _ h => h⟩
theorem Stp.trans {M M1 : Addr → Prop} {H H1 H2 : Hp} (a : Stp M H H1) (b : Stp M1 H1 H2) (c : ∀ x, M1 x → M x ∨ H x = none) : Stp M H H2 :=
  ⟨fun x o h n => b.keep x o (a.keep x o h n) fun m z => (by
    rcases c x z with q | q
    · exact n m q
    · rw [q] at h; cases h), fun x h => a.al x (b.al x h)⟩
theorem Stp.same {M : Addr → Prop} {H H' : Hp} (h : Same H H') : Stp M H H' := ⟨fun a o e _ => h a o e, fun _ e => h.free e⟩
theorem Stp.to_same {M : Addr → Prop} {H H' : Hp} (h : Stp M H H') (n : ∀ a, ¬ M a) : Same H H' := fun a o e => h.keep a o e fun _ => n a
theorem Stp.mono {M M' : Addr → Prop} {H H' : Hp} (h : Stp M H H') (n : ∀ a, M a → M' a) : Stp M' H H' := ⟨fun a o e k => h.keep a o e fun m z => k m (n a z), h.al⟩
theorem same_new {H : Hp} {p : Addr} {o : HO} (h : H p = none) : Same H (upd H p o) := fun a u e => by
  rw [upd_ne (ne_of_none e h)]; exact e

section
variable {K : PySem.W.Frag} {H H' : Hp} {M : Addr → Prop}
theorem sqT_step {a : Addr} {xs : List V} (h : SqT K H a xs) (s : Stp M H H') : SqT K H' a xs := by
  rcases h with (h | ⟨o, h⟩) | h
  · exact .inl (.inl (s.keep _ _ h fun m => m.elim))
  · exact .inl (.inr ⟨o, s.keep _ _ h fun m => m.elim⟩)
  · exact .inr h
theorem rd_step {a : Addr} {u : HO} (h : Rd H a u) (s : Stp M H H') (n : ¬ M a) : Rd H' a u := by
  rcases h with h | ⟨o, h⟩
  · exact .inl (s.keep _ _ h fun _ => n)
  · exact .inr ⟨o, s.keep _ _ h fun _ => n⟩
theorem rd_some {a : Addr} {u : HO} (h : Rd H a u) : ∃ o, H a = some o := by
  rcases h with h | ⟨o, h⟩
  · exact ⟨_, h⟩
  · exact ⟨_, h⟩
theorem sqF_step {a : Addr} {xs : List V} (h : SqF K H a xs) (s : Stp M H H') : SqF K H' a xs := by
  rcases h with ⟨o, h⟩ | h
  · exact .inl ⟨o, s.keep _ _ h fun m => m.elim⟩
  · exact .inr h
mutual
theorem Rep.step {v : V} {d : Dv} {G : List Addr} (s : Stp M H H') : Rep K H v d G → (∀ a ∈ G, ¬ M a) → Rep K H' v d G
  | .non, _ => .non
  | .bl b, _ => .bl b
  | .int i, _ => .int i
  | .str x, _ => .str x
  | .tup h r, n => .tup (sqT_step h s) (Reps.step s r n)
  | .lst h r, n => .lst (s.keep _ _ h fun _ => n _ List.mem_cons_self) (Reps.step s r fun a m => n a (List.mem_cons_of_mem _ m))
  | .frl h, _ => .frl (sqF_step h s)
  | .dct h e r, n => .dct (rd_step h s (n _ List.mem_cons_self)) e (Reps.step s r fun a m => n a (List.mem_cons_of_mem _ m))
  | .dctT h e r, n => .dctT (rd_step h s (n _ List.mem_cons_self)) e (Reps.step s r fun a m => n a (List.mem_cons_of_mem _ m))
  | .obj h e r, n => .obj (s.keep _ _ h fun _ => n _ List.mem_cons_self) e (Reps.step s r fun a m => n a (List.mem_cons_of_mem _ m))
theorem Reps.step {vs : List V} {ds : List Dv} {G : List Addr} (s : Stp M H H') : Reps K H vs ds G → (∀ a ∈ G, ¬ M a) → Reps K H' vs ds G
  | .nil, _ => .nil
  | .cons h r, n => .cons (Rep.step s h fun a m => n a (List.mem_append_left _ m)) (Reps.step s r fun a m => n a (List.mem_append_right _ m))
end
mutual
theorem Rep.alloc {v : V} {d : Dv} {G : List Addr} : Rep K H v d G → ∀ a ∈ G, ∃ o, H a = some o
  | .non, _, m => nomatch m
  | .bl b, _, m => nomatch m
  | .int i, _, m => nomatch m
  | .str x, _, m => nomatch m
  | .tup h r, a, m => Reps.alloc r a m
  | .lst h r, a, m => by
    rcases List.mem_cons.mp m with rfl | m
    · exact ⟨_, h⟩
    · exact Reps.alloc r a m
  | .frl h, _, m => nomatch m
  | .dct h e r, a, m => by
    rcases List.mem_cons.mp m with rfl | m
    · exact rd_some h
    · exact Reps.alloc r a m
  | .dctT h e r, a, m => by
    rcases List.mem_cons.mp m with rfl | m
    · exact rd_some h
    · exact Reps.alloc r a m
  | .obj h e r, a, m => by
    rcases List.mem_cons.mp m with rfl | m
    · exact ⟨_, h⟩
    · exact Reps.alloc r a m
theorem Reps.alloc {vs : List V} {ds : List Dv} {G : List Addr} : Reps K H vs ds G → ∀ a ∈ G, ∃ o, H a = some o
  | .nil, _, m => nomatch m
  | .cons h r, a, m => by
    rcases List.mem_append.mp m with m | m
    · exact Rep.alloc h a m
    · exact Reps.alloc r a m
end
mutual
theorem Rep.purG {v : V} {d : Dv} {G : List Addr} : Rep K H v d G → d.pur = true → G = []
  | .non, _ => rfl
  | .bl b, _ => rfl
  | .int i, _ => rfl
  | .str x, _ => rfl
  | .tup h r, p => Reps.purG r p
  | .lst h r, p => by cases p
  | .frl h, _ => rfl
  | .dct h e r, p => by cases p
  | .dctT h e r, p => by cases p
  | .obj h e r, p => by cases p
theorem Reps.purG {vs : List V} {ds : List Dv} {G : List Addr} : Reps K H vs ds G → Dv.purs ds = true → G = []
  | .nil, _ => rfl
  | .cons h r, p => by
    have q : _ ∧ _ := Bool.and_eq_true_iff.mp p
    rw [Rep.purG h q.1, Reps.purG r q.2]; rfl
end
theorem Reps.len {vs : List V} {ds : List Dv} {G : List Addr} : Reps K H vs ds G → vs.length = ds.length
  | .nil => rfl
  | .cons h r => congrArg (· + 1) (Reps.len r)
theorem Reps.get {vs : List V} {ds : List Dv} {G : List Addr} : Reps K H vs ds G → ∀ (i : Nat) (v : V), vs[i]? = some v → ∃ d G1, ds[i]? = some d ∧ Rep K H v d G1 ∧ ∀ a ∈ G1, a ∈ G
  | .nil, i, v, e => by simp at e
  | .cons h r, 0, v, e => by
    simp at e; subst e
    exact ⟨_, _, rfl, h, fun a m => List.mem_append_left _ m⟩
  | .cons h r, i + 1, v, e => by
    obtain ⟨d, G1, e1, h1, m1⟩ := Reps.get r i v (by simpa using e)
    exact ⟨d, G1, by simpa using e1, h1, fun a m => List.mem_append_right _ (m1 a m)⟩
theorem Reps.getD {vs : List V} {ds : List Dv} {G : List Addr} (r : Reps K H vs ds G) (i : Nat) (d : Dv) (e : ds[i]? = some d) : ∃ v G1, vs[i]? = some v ∧ Rep K H v d G1 ∧ ∀ a ∈ G1, a ∈ G := by
  have hi : i < vs.length := by
    rw [r.len]; exact (List.getElem?_eq_some_iff.mp e).1
  obtain ⟨d', G1, e1, h1, m1⟩ := r.get i vs[i] (List.getElem?_eq_getElem hi)
  rw [e] at e1; cases e1
  exact ⟨_, G1, List.getElem?_eq_getElem hi, h1, m1⟩
theorem Reps.app {vs ws : List V} {ds es : List Dv} {G G' : List Addr} : Reps K H vs ds G → Reps K H ws es G' → Reps K H (vs ++ ws) (ds ++ es) (G ++ G')
  | .nil, s => s
  | .cons h r, s => by
    rw [List.append_assoc]
    exact .cons h (Reps.app r s)
theorem Reps.one {v : V} {d : Dv} {G : List Addr} (h : Rep K H v d G) : Reps K H [v] [d] G := by
  have := Reps.cons h Reps.nil
  rwa [List.append_nil] at this
end

/-! ### slots -/
/-- a slot: nothing known; a value that nobody changes; one's own, that may change; an argument's, that may change -/
inductive Sl where
  | no | co (d : Dv) | ho (d : Dv) | pi (d : Dv)
def Sl.dv : Sl → Option Dv
  | .no => none
  | .co d => some d
  | .ho d => some d
  | .pi d => some d
def Sl.hot : Sl → Bool
  | .ho _ => true
  | .pi _ => true
  | _ => false
def Sl.put : Sl → Dv → Sl
  | .pi _, d => .pi d
  | _, d => .ho d
def Hot (env : List Sl) (G : Nat → List Addr) (a : Addr) : Prop := ∃ (i : Nat) (s : Sl), env[i]? = some s ∧ s.hot = true ∧ a ∈ G i
def All (G : Nat → List Addr) (a : Addr) : Prop := ∃ i, a ∈ G i
/-- at a def's entry: the slots, the heap, what hangs on the arguments -/
structure Bs where
  s0 : L2.St
  He : Hp
  G0 : Nat → List Addr
  ms : List Bool
structure EnvR (K : PySem.W.Frag) (B : Bs) (σ : L2.St) (H : Hp) (env : List Sl) (G : Nat → List Addr) : Prop where
  len : σ.length = env.length
  rep : ∀ (i : Nat) (s : Sl) (d : Dv), env[i]? = some s → s.dv = some d → ∃ v, σ[i]? = some (some v) ∧ Rep K H v d (G i)
  non : ∀ (i : Nat), (env[i]? = some .no ∨ env[i]? = none) → G i = []
  nod : ∀ (i : Nat) (s : Sl), env[i]? = some s → s.hot = true → (G i).Nodup
  dis : ∀ (i j : Nat) (s : Sl) (a : Addr), i ≠ j → env[i]? = some s → s.hot = true → a ∈ G i → a ∉ G j
  pin : ∀ (i : Nat) (d : Dv), env[i]? = some (.pi d) → σ[i]? = B.s0[i]?
  loc : ∀ (i : Nat) (d : Dv) (a : Addr), env[i]? = some (.ho d) → a ∈ G i → B.He a = none
  he : ∀ a, H a = none → B.He a = none
  org : ∀ (i : Nat) (a : Addr), a ∈ G i → All B.G0 a ∨ B.He a = none
  pc : ∀ (i : Nat) (d : Dv) (a : Addr), env[i]? = some (.pi d) → a ∈ G i → a ∈ B.G0 i ∨ B.He a = none
  mu : ∀ (i : Nat) (s : Sl) (a : Addr), env[i]? = some s → s.hot = true → a ∈ G i → ∃ o, H a = some o ∧ Mu o
  kp : ∀ (i : Nat), B.ms[i]? = some true → ∃ d, env[i]? = some (.pi d)
/-- one move: from (env, G, H) to (env', G', H') -/
structure Mv (env : List Sl) (G : Nat → List Addr) (H : Hp) (env' : List Sl) (G' : Nat → List Addr) (H' : Hp) : Prop where
  stp : Stp (Hot env G) H H'
  c1 : ∀ a, Hot env' G' a → Hot env G a ∨ H a = none
theorem Mv.refl {env : List Sl} {G : Nat → List Addr} {H : Hp} : Mv env G H env G H := ⟨.refl, fun _ h => .inl h⟩
theorem Mv.trans {env env1 env2 : List Sl} {G G1 G2 : Nat → List Addr} {H H1 H2 : Hp} (a : Mv env G H env1 G1 H1) (b : Mv env1 G1 H1 env2 G2 H2) : Mv env G H env2 G2 H2 :=
  ⟨a.stp.trans b.stp a.c1, fun x h => by
    rcases b.c1 x h with q | q
    · exact a.c1 x q
    · exact .inr (a.stp.al x q)⟩
theorem Mv.same {env : List Sl} {G : Nat → List Addr} {H H' : Hp} (h : Same H H') : Mv env G H env G H' := ⟨.same h, fun _ h => .inl h⟩

inductive Fl where
  | view | cold | fresh
  deriving DecidableEq
/-- what a value's flag says of what hangs on it: Gv, made from (Gs, H0) on, lying at (env, G, H) -/
structure Vf (H0 : Hp) (Gs : Nat → List Addr) (env : List Sl) (G : Nat → List Addr) (H : Hp) (fl : Fl) (Gv : List Addr) : Prop where
  cold : fl ≠ .view → ∀ a ∈ Gv, ¬ Hot env G a
  fr : fl = .fresh → Gv.Nodup ∧ ∀ a ∈ Gv, (H0 a = none ∧ ¬ All G a) ∧ ∃ o, H a = some o ∧ Mu o
  c3 : ∀ a ∈ Gv, All Gs a ∨ H0 a = none
theorem Hot.all {env : List Sl} {G : Nat → List Addr} {a : Addr} (h : Hot env G a) : All G a := let ⟨i, _, _, _, m⟩ := h; ⟨i, m⟩
theorem Vf.nil {H0 H : Hp} {Gs : Nat → List Addr} {env : List Sl} {G : Nat → List Addr} {fl : Fl} : Vf H0 Gs env G H fl [] :=
  ⟨fun _ a m => (nomatch m), fun _ => ⟨.nil, fun a m => (nomatch m)⟩, fun a m => (nomatch m)⟩
end Fd
namespace Fd
open PySem PySem.Spec PyProof.Rows L2

section
variable {K : PySem.W.Frag} {B : Bs} {σ : L2.St} {H H' H0 H1 H2 : Hp} {env env1 env2 env' : List Sl} {G G1 G2 G' : Nat → List Addr} {v : V} {d : Dv} {fl : Fl} {Gv : List Addr} {pu pu1 pu2 : Bool}
theorem EnvR.alloc (e : EnvR K B σ H env G) {i : Nat} {a : Addr} (m : a ∈ G i) : ∃ o, H a = some o := by
  cases h : env[i]? with
  | none => rw [e.non i (.inr h)] at m; cases m
  | some s =>
    cases hd : s.dv with
    | none =>
      cases s with
      | no => rw [e.non i (.inl h)] at m; cases m
      | co d => cases hd
      | ho d => cases hd
      | pi d => cases hd
    | some d =>
      obtain ⟨v, _, r⟩ := e.rep i s d h hd
      exact r.alloc a m
theorem EnvR.all_alloc (e : EnvR K B σ H env G) {a : Addr} (m : All G a) : ∃ o, H a = some o := let ⟨_, m⟩ := m; e.alloc m
theorem EnvR.not_all (e : EnvR K B σ H env G) {a : Addr} (m : H a = none) : ¬ All G a := fun z => by
  obtain ⟨o, q⟩ := e.all_alloc z
  rw [m] at q; cases q
theorem EnvR.same (e : EnvR K B σ H env G) (s_ : Same H H') : EnvR K B σ H' env G :=
  ⟨e.len, fun i sl d h1 h2 => (let ⟨v, h3, r⟩ := e.rep i sl d h1 h2; ⟨v, h3, r.step (M := fun _ => False) (.same s_) fun _ _ z => z⟩), e.non, e.nod, e.dis, e.pin, e.loc, fun a h => e.he a (s_.free h), e.org, e.pc, fun i s a h1 h2 m => (let ⟨o, q, mm⟩ := e.mu i s a h1 h2 m; ⟨o, s_ a o q, mm⟩), e.kp⟩
/-- an expression's step -/
structure Se (K : PySem.W.Frag) (B : Bs) (σ : L2.St) (env : List Sl) (G : Nat → List Addr) (H : Hp) (pu : Bool) (env' : List Sl) (G' : Nat → List Addr) (H' : Hp) : Prop where
  mv : Mv env G H env' G' H'
  c2 : ∀ a, All G' a → All G a ∨ H a = none
  cs : ∀ (i : Nat) (s : Sl), env[i]? = some s → s.hot = false → env'[i]? = some s ∧ G' i = G i
  hs : ∀ (i : Nat) (s : Sl), env[i]? = some s → s.hot = true → ∃ d, env'[i]? = some (s.put d)
  ln : env'.length = env.length
  er : EnvR K B σ H' env' G'
  pr : pu = true → Same H H' ∧ env' = env ∧ G' = G
theorem Sl.put_hot {s : Sl} (h : s.hot = true) (d : Dv) : (s.put d).hot = true := by cases s <;> first | rfl | cases h
theorem Sl.put_self {s : Sl} (h : s.hot = true) : ∃ d, s = s.put d := by
  cases s with
  | no => cases h
  | co d => cases h
  | ho d => exact ⟨d, rfl⟩
  | pi d => exact ⟨d, rfl⟩
theorem Sl.put_put {s : Sl} (d e : Dv) : (s.put d).put e = s.put e := by cases s <;> rfl
theorem Se.refl (e : EnvR K B σ H env G) : Se K B σ env G H true env G H :=
  ⟨.refl, fun _ h => .inl h, fun i s h _ => ⟨h, rfl⟩, fun i s h k => (by obtain ⟨d, q⟩ := Sl.put_self k; exact ⟨d, by rw [h]; exact congrArg some q⟩), rfl, e, fun _ => ⟨.refl H, rfl, rfl⟩⟩
theorem Se.same (e : EnvR K B σ H env G) (s : Same H H') : Se K B σ env G H true env G H' :=
  ⟨.same s, fun _ h => .inl h, fun i s h _ => ⟨h, rfl⟩, fun i s h k => (by obtain ⟨d, q⟩ := Sl.put_self k; exact ⟨d, by rw [h]; exact congrArg some q⟩), rfl, e.same s, fun _ => ⟨s, rfl, rfl⟩⟩
theorem Se.trans (a : Se K B σ env G H pu1 env1 G1 H1) (b : Se K B σ env1 G1 H1 pu2 env2 G2 H2) : Se K B σ env G H (pu1 && pu2) env2 G2 H2 :=
  ⟨a.mv.trans b.mv, fun x h => (by
      rcases b.c2 x h with q | q
      · exact a.c2 x q
      · exact .inr (a.mv.stp.al x q)),
    fun i s h k => (by
      obtain ⟨h1, g1⟩ := a.cs i s h k
      obtain ⟨h2, g2⟩ := b.cs i s h1 k
      exact ⟨h2, g2.trans g1⟩),
    fun i s h k => (by
      obtain ⟨d1, h1⟩ := a.hs i s h k
      obtain ⟨d2, h2⟩ := b.hs i _ h1 (Sl.put_hot k d1)
      rw [Sl.put_put] at h2
      exact ⟨d2, h2⟩),
    b.ln.trans a.ln, b.er, fun h => (by
      obtain ⟨h1, h2⟩ := Bool.and_eq_true_iff.mp h
      obtain ⟨s1, e1, g1⟩ := a.pr h1
      obtain ⟨s2, e2, g2⟩ := b.pr h2
      exact ⟨s1.trans s2, e2.trans e1, g2.trans g1⟩)⟩
theorem Se.weak (a : Se K B σ env G H pu env1 G1 H1) : Se K B σ env G H false env1 G1 H1 := ⟨a.mv, a.c2, a.cs, a.hs, a.ln, a.er, fun h => nomatch h⟩
/-- a value that lies while another is reckoned -/
theorem pend {Gs : Nat → List Addr} (s : Se K B σ env1 G1 H1 pu2 env2 G2 H2) (r : Rep K H1 v d Gv) (f : Vf H0 Gs env1 G1 H1 fl Gv) (hv : fl = .view → pu2 = true) : Rep K H2 v d Gv ∧ Vf H0 Gs env2 G2 H2 fl Gv := by
  cases hp : pu2 with
  | true =>
    obtain ⟨s1, e1, g1⟩ := s.pr hp
    subst e1 g1
    exact ⟨r.step (M := fun _ => False) (.same s1) fun _ _ z => z, f.cold, fun h => ⟨(f.fr h).1, fun a m => (let ⟨o, q, mm⟩ := ((f.fr h).2 a m).2; ⟨((f.fr h).2 a m).1, o, s1 a o q, mm⟩)⟩, f.c3⟩
  | false =>
    have nv : fl ≠ .view := fun z => by rw [hv z] at hp; cases hp
    have nh := f.cold nv
    have al : ∀ a ∈ Gv, H1 a ≠ none := fun a m z => by
      obtain ⟨o, q⟩ := r.alloc a m
      rw [z] at q; cases q
    refine ⟨r.step s.mv.stp nh, fun _ a m z => ?_, fun hf => ?_, f.c3⟩
    · rcases s.mv.c1 a z with q | q
      · exact nh a m q
      · exact al a m q
    · obtain ⟨n, q⟩ := f.fr hf
      refine ⟨n, fun a m => ⟨⟨(q a m).1.1, fun z => ?_⟩, ?_⟩⟩
      · rcases s.c2 a z with k | k
        · exact (q a m).1.2 k
        · exact al a m k
      · obtain ⟨o, k, mm⟩ := (q a m).2
        exact ⟨o, s.mv.stp.keep a o k fun _ z => nh a m z, mm⟩

theorem Vf.weak {Gs Gs1 : Nat → List Addr} (a : ∀ x, H1 x = none → H0 x = none) (b : ∀ x, All Gs1 x → All Gs x ∨ H0 x = none) (f : Vf H1 Gs1 env G H fl Gv) : Vf H0 Gs env G H fl Gv :=
  ⟨f.cold, fun h => ⟨(f.fr h).1, fun x m => ⟨⟨a x ((f.fr h).2 x m).1.1, ((f.fr h).2 x m).1.2⟩, ((f.fr h).2 x m).2⟩⟩, fun x m => by
    rcases f.c3 x m with q | q
    · exact b x q
    · exact .inr (a x q)⟩
/-- the flag that a value bears: of what can't change nothing hangs -/
def ef (d : Dv) (fl : Fl) : Fl := if d.pur = true then .fresh else fl
theorem Vf.ef {Gs : Nat → List Addr} (r : Rep K H v d Gv) (f : Vf H0 Gs env G H fl Gv) : Vf H0 Gs env G H (ef d fl) Gv := by
  unfold Fd.ef
  by_cases h : d.pur = true
  · rw [if_pos h, r.purG h]; exact .nil
  · rw [if_neg h]; exact f
/-- the flag of what is made of two -/
def flj (a b : Fl) : Fl := match a, b with
  | .view, _ => .view
  | _, .view => .view
  | _, _ => .cold
def flr (nw : Bool) (d : Dv) (fl : Fl) : Fl := if (d.pur || (nw && d.sh)) = true then .fresh else match fl with
  | .view => .view
  | _ => .cold
end

/-! ### what a reading gives, over deep data -/
section
variable (K : PySem.W.Frag) (B : Bs)
def DT (te : TE) (env : List Sl) (P : Dv → Fl → Bool → List Sl → Prop) : Prop :=
  ∀ (σ : L2.St) (H : Hp) (G : Nat → List Addr) (Q : VK), EnvR K B σ H env G →
    (∀ v H' d fl pu env' G' Gv, Se K B σ env G H pu env' G' H' → Rep K H' v d Gv → Vf H G env' G' H' fl Gv → P d fl pu env' → Q v H') → te σ H Q
def DTT (tt : TT) (env : List Sl) (P : Bool → Bool → List Sl → Prop) : Prop :=
  ∀ (σ : L2.St) (H : Hp) (G : Nat → List Addr) (Q : Bool → Hp → Prop), EnvR K B σ H env G →
    (∀ b H' pu env' G', Se K B σ env G H pu env' G' H' → P b pu env' → Q b H') → tt σ H Q
inductive Ar where
  | val (d : Dv) (fl : Fl) | slt (i : Nat)
def Ar.fr : Ar → Bool
  | .val _ .fresh => true
  | _ => false
def ArgOk (H0 : Hp) (Gs : Nat → List Addr) (H : Hp) (σ : L2.St) (env : List Sl) (G : Nat → List Addr) (v : V) (r : Ar) (Gv : List Addr) : Prop := match r with
  | .val d fl => Rep K H v d Gv ∧ Vf H0 Gs env G H fl Gv
  | .slt i => σ[i]? = some (some v) ∧ Gv = []
inductive Args (H0 : Hp) (Gs : Nat → List Addr) (H : Hp) (σ : L2.St) (env : List Sl) (G : Nat → List Addr) : List V → List Ar → List (List Addr) → Prop
  | nil : Args H0 Gs H σ env G [] [] []
  | cons {v : V} {r : Ar} {Gv : List Addr} {vs : List V} {rs : List Ar} {Gvs : List (List Addr)} : ArgOk K H0 Gs H σ env G v r Gv →
      (∀ (j : Nat) (r' : Ar) (Gv' : List Addr), rs[j]? = some r' → Gvs[j]? = some Gv' → (r.fr = true ∨ r'.fr = true) → ∀ a ∈ Gv, a ∉ Gv') → Args H0 Gs H σ env G vs rs Gvs → Args H0 Gs H σ env G (v :: vs) (r :: rs) (Gv :: Gvs)
def DTA (ta : TA) (env : List Sl) (P : List Ar → Bool → List Sl → Prop) : Prop :=
  ∀ (σ : L2.St) (H : Hp) (G : Nat → List Addr) (Q : List V → Hp → Prop), EnvR K B σ H env G →
    (∀ vs H' rs pu env' G' Gvs, Se K B σ env G H pu env' G' H' → Args K H G H' σ env' G' vs rs Gvs → P rs pu env' → Q vs H') → ta σ H Q
end
section
variable {K : PySem.W.Frag} {B : Bs} {env : List Sl} {P : Dv → Fl → Bool → List Sl → Prop} {PT : Bool → Bool → List Sl → Prop} {PAr : List Ar → Bool → List Sl → Prop} {ta tb te : TE} {t u : TT} {tr : TA}
theorem DT.imp {P' : Dv → Fl → Bool → List Sl → Prop} (h : DT K B te env P) (i : ∀ d fl pu env', P d fl pu env' → P' d fl pu env') : DT K B te env P' := fun σ H G Q e q =>
  h σ H G Q e fun v H' d fl pu env' G' Gv s r f p => q v H' d fl pu env' G' Gv s r f (i _ _ _ _ p)
theorem DTT.imp {P' : Bool → Bool → List Sl → Prop} (h : DTT K B t env PT) (i : ∀ b pu env', PT b pu env' → P' b pu env') : DTT K B t env P' := fun σ H G Q e q =>
  h σ H G Q e fun b H' pu env' G' s p => q b H' pu env' G' s (i _ _ _ p)
/-! names, constants -/
theorem hot_of {B : Bs} {σ : L2.St} {H : Hp} {G : Nat → List Addr} (e : EnvR K B σ H env G) {i : Nat} {s : Sl} (h : env[i]? = some s) (k : s.hot = false) : ∀ a ∈ G i, ¬ Hot env G a := fun a m ⟨j, sj, hj, kj, mj⟩ => by
  have ne : j ≠ i := fun z => by
    subst z; rw [h] at hj; cases hj; rw [k] at kj; cases kj
  exact e.dis j i sj a ne hj kj mj m
theorem dt_var {i : Nat} {d : Dv} (he : env[i]? = some (.co d)) (h : P d .cold true env) : DT K B (tVar i) env P := fun σ H G Q e q => by
  obtain ⟨v, hv, r⟩ := e.rep i _ d he rfl
  exact ⟨v, hv, q v H d .cold true env G (G i) (.refl e) r ⟨fun _ => hot_of e he rfl, fun z => (nomatch z), fun a m => .inl ⟨i, m⟩⟩ h⟩
theorem dt_varH {i : Nat} {s : Sl} {d : Dv} (he : env[i]? = some s) (hd : s.dv = some d) (h : P d .view true env) : DT K B (tVar i) env P := fun σ H G Q e q => by
  obtain ⟨v, hv, r⟩ := e.rep i _ d he hd
  exact ⟨v, hv, q v H d .view true env G (G i) (.refl e) r ⟨fun z => (z rfl).elim, fun z => (nomatch z), fun a m => .inl ⟨i, m⟩⟩ h⟩
theorem dt_c {v : V} {d : Dv} (hr : ∀ H, Rep K H v d []) (h : P d .fresh true env) : DT K B (tC v) env P := fun σ H G Q e q =>
  q v H d .fresh true env G [] (.refl e) (hr H) .nil h
theorem dt_int {i : Int} (h : P (.int i) .fresh true env) : DT K B (tC (.int i)) env P := dt_c (fun _ => .int i) h
theorem dt_str {i : Str} (h : P (.str i) .fresh true env) : DT K B (tC (.str i)) env P := dt_c (fun _ => .str i) h
theorem dt_bl {i : Bool} (h : P (.bl i) .fresh true env) : DT K B (tC (.bl i)) env P := dt_c (fun _ => .bl i) h
theorem dt_non (h : P .non .fresh true env) : DT K B (tC .non) env P := dt_c (fun _ => .non) h

/-! operators -/
def OpD (K : PySem.W.Frag) (r : R2) (nw : Bool) (f : Dv → Dv → Option Dv) : Prop := ∀ (H : Hp) (x y : V) (d1 d2 d : Dv) (G1 G2 : List Addr) (Q : VK), Rep K H x d1 G1 → Rep K H y d2 G2 → f d1 d2 = some d →
  (∀ z H' Gz, Same H H' → Rep K H' z d Gz → (∀ a ∈ Gz, a ∈ G1 ∨ a ∈ G2 ∨ H a = none) → (nw = true → d.sh = true → Gz.Nodup ∧ ∀ a ∈ Gz, H a = none ∧ ∃ o, H' a = some o ∧ Mu o) → Q z H') → r x y H Q
/-- a value made of values -/
theorem made {σ : L2.St} {H H2 H3 : Hp} {G : Nat → List Addr} {env2 : List Sl} {G2 : Nat → List Addr} {z : V} {d : Dv} {Gz : List Addr} {fl : Fl} {nw : Bool} (e2 : EnvR K B σ H2 env2 G2) (h20 : ∀ a, H2 a = none → H a = none) (r : Rep K H3 z d Gz)
    (old : ∀ a ∈ Gz, H2 a ≠ none → (fl ≠ .view → ¬ Hot env2 G2 a) ∧ (All G a ∨ H a = none)) (new : nw = true → d.sh = true → Gz.Nodup ∧ ∀ a ∈ Gz, H2 a = none ∧ ∃ o, H3 a = some o ∧ Mu o) : Vf H G env2 G2 H3 (flr nw d fl) Gz := by
  unfold flr
  have c3 : ∀ a ∈ Gz, All G a ∨ H a = none := fun a m => by
    cases h : H2 a with
    | none => exact .inr (h20 a h)
    | some o => exact (old a m (by rw [h]; exact fun z => (nomatch z))).2
  by_cases hp : (d.pur || (nw && d.sh)) = true
  · rw [if_pos hp]
    rcases Bool.or_eq_true_iff.mp hp with p | p
    · rw [r.purG p]; exact .nil
    · obtain ⟨n1, n2⟩ := Bool.and_eq_true_iff.mp p
      obtain ⟨nd, fr⟩ := new n1 n2
      exact ⟨fun _ a m h => e2.not_all (fr a m).1 h.all, fun _ => ⟨nd, fun a m => ⟨⟨h20 a (fr a m).1, e2.not_all (fr a m).1⟩, (fr a m).2⟩⟩, c3⟩
  · rw [if_neg hp]
    cases fl with
    | view => exact ⟨fun z => (z rfl).elim, fun z => (nomatch z), c3⟩
    | cold => exact ⟨fun _ a m h => by
        cases q : H2 a with
        | none => exact e2.not_all q h.all
        | some o => exact (old a m (by rw [q]; exact fun z => (nomatch z))).1 (fun z => (nomatch z)) h, fun z => (nomatch z), c3⟩
    | fresh => exact ⟨fun _ a m h => by
        cases q : H2 a with
        | none => exact e2.not_all q h.all
        | some o => exact (old a m (by rw [q]; exact fun z => (nomatch z))).1 (fun z => (nomatch z)) h, fun z => (nomatch z), c3⟩
theorem Se.back {σ : L2.St} {H H1 : Hp} {G G1 : Nat → List Addr} {env env1 : List Sl} {pu : Bool} (s1 : Se K B σ env G H pu env1 G1 H1) {Gv : List Addr} {a : Addr} (h : All G1 a ∨ H1 a = none) : All G a ∨ H a = none := by
  rcases h with h | h
  · exact s1.c2 a h
  · exact .inr (s1.mv.stp.al a h)
theorem dt_op {r : R2} {nw : Bool} {f : Dv → Dv → Option Dv} (o : OpD K r nw f)
    (h : DT K B ta env fun d1 f1 p1 env1 => DT K B tb env1 fun d2 f2 p2 env2 => (f1 = .view → p2 = true) ∧ ∃ d, f d1 d2 = some d ∧ P d (flr nw d (flj f1 f2)) (p1 && p2) env2) : DT K B (tOp r ta tb) env P := fun σ H G Q e q => by
  refine h σ H G _ e fun x H1 d1 f1 p1 env1 G1 Gx s1 rx fx h1 => ?_
  refine h1 σ H1 G1 _ s1.er fun y H2 d2 f2 p2 env2 G2 Gy s2 ry fy ⟨hv, d, hd, hP⟩ => ?_
  obtain ⟨rx2, fx2⟩ := pend s2 rx fx hv
  refine o H2 x y d1 d2 d Gx Gy _ rx2 ry hd fun z H3 Gz sm rz src new => ?_
  have s3 := (s1.trans s2).trans (.same s2.er sm)
  rw [Bool.and_true] at s3
  have back1 : ∀ a, H1 a = none → H a = none := s1.mv.stp.al
  refine q z H3 d _ _ env2 G2 Gz s3 rz (made s2.er (fun a k => back1 a (s2.mv.stp.al a k)) rz (fun a m k => ?_) new) hP
  rcases src a m with z | z | z
  · refine ⟨fun nv => fx2.cold (fun w => nv (by rw [w]; rfl)) a z, fx2.c3 a z⟩
  · refine ⟨fun nv => fy.cold (fun w => nv (by rw [w]; cases f1 <;> rfl)) a z, s1.back (Gv := Gy) (fy.c3 a z)⟩
  · exact (k z).elim
def UnD (K : PySem.W.Frag) (r : V → Hp → VK → Prop) (f : Dv → Option Dv) : Prop := ∀ (H : Hp) (x : V) (d1 d : Dv) (G1 : List Addr) (Q : VK), Rep K H x d1 G1 → f d1 = some d → (∀ z, Rep K H z d [] → Q z H) → r x H Q
theorem dt_un {r : V → Hp → VK → Prop} {f : Dv → Option Dv} (o : UnD K r f) (h : DT K B ta env fun d1 f1 p1 env1 => ∃ d, f d1 = some d ∧ P d .fresh p1 env1) : DT K B (tUn r ta) env P := fun σ H G Q e q => by
  refine h σ H G _ e fun x H1 d1 f1 p1 env1 G1 Gx s1 rx fx ⟨d, hd, hP⟩ => ?_
  exact o H1 x d1 d Gx _ rx hd fun z rz => q z H1 d _ _ env1 G1 [] s1 rz .nil hP
/-! tests -/
theorem dtt_B (h : DT K B te env fun d _ pu env1 => ∃ b, d = .bl b ∧ PT b pu env1) : DTT K B (tB te) env PT := fun σ H G Q e q => by
  refine h σ H G _ e fun x H1 d1 f1 p1 env1 G1 Gx s1 rx fx ⟨b, hd, hP⟩ => ?_
  subst hd
  cases rx
  exact ⟨b, rfl, q b H1 p1 env1 G1 s1 hP⟩
theorem dtt_test (h : DT K B te env fun d _ pu env1 => ∃ b, d = .bl b ∧ PT b pu env1) : DTT K B (tTest te) env PT := dtt_B h
theorem dtt_not (h : DTT K B t env fun b pu env1 => PT (!b) pu env1) : DTT K B (tNot t) env PT := fun σ H G Q e q =>
  h σ H G _ e fun b H1 pu env1 G1 s hP => q _ H1 pu env1 G1 s hP
theorem dtt_and (h : DTT K B t env fun b p1 env1 => if b = true then DTT K B u env1 fun c p2 env2 => PT c (p1 && p2) env2 else PT false p1 env1) : DTT K B (tAnd t u) env PT := fun σ H G Q e q => by
  refine h σ H G _ e fun b H1 p1 env1 G1 s1 h1 => ?_
  cases b with
  | true =>
    show u σ H1 Q
    rw [if_pos rfl] at h1
    exact h1 σ H1 G1 _ s1.er fun c H2 p2 env2 G2 s2 hP => q c H2 _ env2 G2 (s1.trans s2) hP
  | false =>
    rw [if_neg Bool.false_ne_true] at h1
    exact q false H1 p1 env1 G1 s1 h1
theorem dtt_or (h : DTT K B t env fun b p1 env1 => if b = true then PT true p1 env1 else DTT K B u env1 fun c p2 env2 => PT c (p1 && p2) env2) : DTT K B (tOr t u) env PT := fun σ H G Q e q => by
  refine h σ H G _ e fun b H1 p1 env1 G1 s1 h1 => ?_
  cases b with
  | false =>
    show u σ H1 Q
    rw [if_neg Bool.false_ne_true] at h1
    exact h1 σ H1 G1 _ s1.er fun c H2 p2 env2 G2 s2 hP => q c H2 _ env2 G2 (s1.trans s2) hP
  | true =>
    rw [if_pos rfl] at h1
    exact q true H1 p1 env1 G1 s1 h1
/-! and, or, not as values -/
theorem dt_andV (h : DT K B ta env fun d f1 p1 env1 => ∃ b, d = .bl b ∧ if b = true then DT K B tb env1 fun d2 f2 p2 env2 => P d2 f2 (p1 && p2) env2 else P (.bl false) .fresh p1 env1) : DT K B (tAndV ta tb) env P := fun σ H G Q e q => by
  refine h σ H G _ e fun x H1 d1 f1 p1 env1 G1 Gx s1 rx fx ⟨b, hd, h1⟩ => ?_
  subst hd
  cases rx
  refine ⟨b, rfl, ?_⟩
  cases b with
  | true =>
    show tb σ H1 Q
    rw [if_pos rfl] at h1
    exact h1 σ H1 G1 _ s1.er fun y H2 d2 f2 p2 env2 G2 Gy s2 ry fy hP => q y H2 d2 f2 _ env2 G2 Gy (s1.trans s2) ry (fy.weak s1.mv.stp.al s1.c2) hP
  | false =>
    rw [if_neg Bool.false_ne_true] at h1
    exact q (.bl false) H1 _ _ _ env1 G1 [] s1 (.bl false) .nil h1
theorem dt_orV (h : DT K B ta env fun d f1 p1 env1 => ∃ b, d = .bl b ∧ if b = true then P (.bl true) .fresh p1 env1 else DT K B tb env1 fun d2 f2 p2 env2 => P d2 f2 (p1 && p2) env2) : DT K B (tOrV ta tb) env P := fun σ H G Q e q => by
  refine h σ H G _ e fun x H1 d1 f1 p1 env1 G1 Gx s1 rx fx ⟨b, hd, h1⟩ => ?_
  subst hd
  cases rx
  refine ⟨b, rfl, ?_⟩
  cases b with
  | false =>
    show tb σ H1 Q
    rw [if_neg Bool.false_ne_true] at h1
    exact h1 σ H1 G1 _ s1.er fun y H2 d2 f2 p2 env2 G2 Gy s2 ry fy hP => q y H2 d2 f2 _ env2 G2 Gy (s1.trans s2) ry (fy.weak s1.mv.stp.al s1.c2) hP
  | true =>
    rw [if_pos rfl] at h1
    exact q (.bl true) H1 _ _ _ env1 G1 [] s1 (.bl true) .nil h1
theorem dt_notV (h : DT K B ta env fun d f1 p1 env1 => ∃ b, d = .bl b ∧ P (.bl (!b)) .fresh p1 env1) : DT K B (tNotV ta) env P := fun σ H G Q e q => by
  refine h σ H G _ e fun x H1 d1 f1 p1 env1 G1 Gx s1 rx fx ⟨b, hd, h1⟩ => ?_
  subst hd
  cases rx
  exact ⟨b, rfl, q (.bl (!b)) H1 _ _ _ env1 G1 [] s1 (.bl _) .nil h1⟩
theorem dt_if (h : DTT K B t env fun b p0 env1 => if b = true then DT K B ta env1 fun d2 f2 p2 env2 => P d2 f2 (p0 && p2) env2 else DT K B tb env1 fun d2 f2 p2 env2 => P d2 f2 (p0 && p2) env2) : DT K B (tIf t ta tb) env P := fun σ H G Q e q => by
  refine h σ H G _ e fun b H1 p1 env1 G1 s1 h1 => ?_
  cases b with
  | true =>
    show ta σ H1 Q
    rw [if_pos rfl] at h1
    exact h1 σ H1 G1 _ s1.er fun y H2 d2 f2 p2 env2 G2 Gy s2 ry fy hP => q y H2 d2 f2 _ env2 G2 Gy (s1.trans s2) ry (fy.weak s1.mv.stp.al s1.c2) hP
  | false =>
    show tb σ H1 Q
    rw [if_neg Bool.false_ne_true] at h1
    exact h1 σ H1 G1 _ s1.er fun y H2 d2 f2 p2 env2 G2 Gy s2 ry fy hP => q y H2 d2 f2 _ env2 G2 Gy (s1.trans s2) ry (fy.weak s1.mv.stp.al s1.c2) hP
/-! arguments -/
theorem Args.weak {H0 H1 H : Hp} {Gs Gs1 : Nat → List Addr} {σ : L2.St} {G : Nat → List Addr} (a : ∀ x, H1 x = none → H0 x = none) (b : ∀ x, All Gs1 x → All Gs x ∨ H0 x = none) {vs : List V} {rs : List Ar} {Gvs : List (List Addr)} (h : Args K H1 Gs1 H σ env G vs rs Gvs) : Args K H0 Gs H σ env G vs rs Gvs := by
  induction h with
  | nil => exact .nil
  | @cons v r Gv vs rs Gvs h1 dj _ ih =>
    refine .cons ?_ dj ih
    cases r with
    | val d fl => exact ⟨h1.1, h1.2.weak a b⟩
    | slt i => exact h1
theorem Args.get {H0 H : Hp} {Gs : Nat → List Addr} {σ : L2.St} {G : Nat → List Addr} {vs : List V} {rs : List Ar} {Gvs : List (List Addr)} (h : Args K H0 Gs H σ env G vs rs Gvs) : ∀ (j : Nat) (r : Ar), rs[j]? = some r → ∃ v Gv, vs[j]? = some v ∧ Gvs[j]? = some Gv ∧ ArgOk K H0 Gs H σ env G v r Gv := by
  induction h with
  | nil => intro j r e; simp at e
  | cons h1 dj _ ih =>
    intro j r e
    cases j with
    | zero => simp at e; subst e; exact ⟨_, _, rfl, rfl, h1⟩
    | succ j => exact ih j r (by simpa using e)
theorem dta_nil (h : PAr [] true env) : DTA K B tNil env PAr := fun σ H G Q e q => q [] H [] true env G [] (.refl e) .nil h
theorem dta_cons (h : DT K B te env fun d fl p1 env1 => DTA K B tr env1 fun rs p2 env2 => (fl = .view → p2 = true) ∧ PAr (.val d fl :: rs) (p1 && p2) env2) : DTA K B (tCons te tr) env PAr := fun σ H G Q e q => by
  refine h σ H G _ e fun x H1 d1 f1 p1 env1 G1 Gx s1 rx fx h1 => ?_
  refine h1 σ H1 G1 _ s1.er fun vs H2 rs p2 env2 G2 Gvs s2 ar ⟨hv, hP⟩ => ?_
  obtain ⟨rx2, fx2⟩ := pend s2 rx fx hv
  refine q (x :: vs) H2 _ _ env2 G2 (Gx :: Gvs) (s1.trans s2) (.cons (show ArgOk K H G H2 σ env2 G2 x (.val d1 f1) Gx from ⟨rx2, fx2⟩) (fun j r' Gv' hr hg hf a m m' => ?_) (ar.weak s1.mv.stp.al s1.c2)) hP
  obtain ⟨v', Gv2, _, hg2, ok⟩ := ar.get j r' hr
  rw [hg] at hg2; cases hg2
  have al : H1 a ≠ none := fun z => by
    obtain ⟨o, k⟩ := rx.alloc a m
    rw [z] at k; cases k
  cases r' with
  | slt i =>
    obtain ⟨_, g⟩ := ok
    rw [g] at m'; cases m'
  | val d' fl' =>
    obtain ⟨_, f'⟩ := ok
    rcases hf with hf | hf
    · have : f1 = .fresh := by cases f1 <;> first | rfl | cases hf
      rcases f'.c3 a m' with k | k
      · exact ((fx.fr this).2 a m).1.2 k
      · exact al k
    · have : fl' = .fresh := by cases fl' <;> first | rfl | cases hf
      exact al ((f'.fr this).2 a m').1.1
theorem dta_slot {i : Nat} {s : Sl} (he : env[i]? = some s) (hd : s.hot = true) (h : DTA K B tr env fun rs p2 env2 => PAr (.slt i :: rs) p2 env2) : DTA K B (tCons (tVar i) tr) env PAr := fun σ H G Q e q => by
  obtain ⟨d, hd⟩ : ∃ d, s.dv = some d := by
    cases s with
    | no => cases hd
    | co d => cases hd
    | ho d => exact ⟨d, rfl⟩
    | pi d => exact ⟨d, rfl⟩
  obtain ⟨v, hv, r⟩ := e.rep i _ d he hd
  refine ⟨v, hv, h σ H G _ e fun vs H2 rs p2 env2 G2 Gvs s2 ar hP => ?_⟩
  exact q (v :: vs) H2 _ _ env2 G2 ([] :: Gvs) s2 (.cons (show ArgOk K H G H2 σ env2 G2 v (.slt i) [] from ⟨hv, rfl⟩) (fun j r' Gv' _ _ _ a m => nomatch m) ar) hP

theorem Args.lenG {H0 H : Hp} {Gs : Nat → List Addr} {σ : L2.St} {G : Nat → List Addr} {vs : List V} {rs : List Ar} {Gvs : List (List Addr)} (h : Args K H0 Gs H σ env G vs rs Gvs) : rs.length = Gvs.length := by
  induction h with
  | nil => rfl
  | cons _ _ _ ih => exact congrArg (· + 1) ih
theorem Args.lenV {H0 H : Hp} {Gs : Nat → List Addr} {σ : L2.St} {G : Nat → List Addr} {vs : List V} {rs : List Ar} {Gvs : List (List Addr)} (h : Args K H0 Gs H σ env G vs rs Gvs) : vs.length = rs.length := by
  induction h with
  | nil => rfl
  | cons _ _ _ ih => exact congrArg (· + 1) ih
/-- the arguments as values, and the flag of all -/
def flm (a b : Fl) : Fl := match a, b with
  | .view, _ => .view
  | _, .view => .view
  | .cold, _ => .cold
  | _, .cold => .cold
  | .fresh, .fresh => .fresh
def valsOf : List Ar → Option (List Dv × Fl)
  | [] => some ([], .fresh)
  | .val d fl :: r => match valsOf r with
    | some (ds, f) => some (d :: ds, flm (ef d fl) f)
    | none => none
  | .slt _ :: _ => none
theorem flm_view {a b : Fl} (h : flm a b ≠ .view) : a ≠ .view ∧ b ≠ .view := by
  cases a <;> cases b <;> first | exact absurd rfl h | (constructor <;> intro z <;> cases z)
theorem flm_fresh {a b : Fl} (h : flm a b = .fresh) : a = .fresh ∧ b = .fresh := by cases a <;> cases b <;> first | exact ⟨rfl, rfl⟩ | cases h
theorem Args.vals {H0 H : Hp} {Gs : Nat → List Addr} {σ : L2.St} {G : Nat → List Addr} {vs : List V} {rs : List Ar} {Gvs : List (List Addr)} (h : Args K H0 Gs H σ env G vs rs Gvs) : ∀ {ds : List Dv} {fl : Fl}, valsOf rs = some (ds, fl) →
    Reps K H vs ds Gvs.flatten ∧ Vf H0 Gs env G H fl Gvs.flatten := by
  induction h with
  | nil => intro ds fl e; cases e; exact ⟨.nil, .nil⟩
  | @cons v r Gv vs rs Gvs h1 dj tl ih =>
    intro ds fl e
    cases r with
    | slt i => cases e
    | val d f =>
      unfold valsOf at e
      cases q : valsOf rs with
      | none => rw [q] at e; cases e
      | some p =>
        obtain ⟨ds', f'⟩ := p
        rw [q] at e
        cases e
        obtain ⟨r2, f2⟩ := ih q
        obtain ⟨r1, f1⟩ := h1
        have f1' := f1.ef r1
        rw [List.flatten_cons]
        refine ⟨.cons r1 r2, fun nv a m => ?_, fun fr => ?_, fun a m => ?_⟩
        · obtain ⟨n1, n2⟩ := flm_view nv
          rcases List.mem_append.mp m with m | m
          · exact f1'.cold n1 a m
          · exact f2.cold n2 a m
        · obtain ⟨n1, n2⟩ := flm_fresh fr
          refine ⟨List.nodup_append.mpr ⟨(f1'.fr n1).1, (f2.fr n2).1, fun a ma b mb z => ?_⟩, fun a m => ?_⟩
          · subst z
            by_cases hp : d.pur = true
            · rw [r1.purG hp] at ma; cases ma
            · have hf : f = .fresh := by unfold Fd.ef at n1; rw [if_neg hp] at n1; exact n1
              obtain ⟨Gv', hm, hb⟩ := List.mem_flatten.mp mb
              obtain ⟨j, hj, hj2⟩ := List.getElem_of_mem hm
              have hl : rs.length = Gvs.length := tl.lenG
              exact dj j _ Gv' (List.getElem?_eq_getElem (by rw [hl]; exact hj)) (by rw [List.getElem?_eq_getElem hj, hj2]) (.inl (by rw [hf]; rfl)) a ma hb
          · rcases List.mem_append.mp m with m | m
            · exact (f1'.fr n1).2 a m
            · exact (f2.fr n2).2 a m
        · rcases List.mem_append.mp m with m | m
          · exact f1'.c3 a m
          · exact f2.c3 a m
end
end Fd
namespace Fd
open PySem PySem.Spec PyProof.Rows L2
section
variable {K : PySem.W.Frag} {B : Bs} {env : List Sl} {P : Dv → Fl → Bool → List Sl → Prop} {ta tb te : TE} {t u : TT} {tr : TA}
/-! displays, calls of what is built in -/
theorem Vf.onS {H0 H H' : Hp} {Gs G : Nat → List Addr} {fl : Fl} {Gv : List Addr} (f : Vf H0 Gs env G H fl Gv) (s : Same H H') : Vf H0 Gs env G H' fl Gv :=
  ⟨f.cold, fun h => ⟨(f.fr h).1, fun a m => (let ⟨z, o, q, mm⟩ := (f.fr h).2 a m; ⟨z, o, s a o q, mm⟩)⟩, f.c3⟩
theorem dt_tup (h : DTA K B tr env fun rs pu env1 => ∃ ds fl, valsOf rs = some (ds, fl) ∧ ds.length ≤ sizeLine ∧ P (.tup ds) fl pu env1) : DT K B (tTup tr) env P := fun σ H G Q e q => by
  refine h σ H G _ e fun vs H1 rs pu env1 G1 Gvs s ar ⟨ds, fl, hv, hl, hP⟩ => ?_
  obtain ⟨r, f⟩ := ar.vals hv
  refine ⟨by rw [r.len]; exact hl, fun p hp => ?_⟩
  have sm : Same H1 (upd H1 p (.tup vs)) := same_new hp
  have s2 := s.trans (.same s.er sm)
  rw [Bool.and_true] at s2
  exact q _ _ _ _ _ env1 G1 _ s2 (.tup (SqT.of upd_same) (r.step (M := fun _ => False) (.same sm) fun _ _ z => z)) (f.onS sm) hP
theorem dt_lst (h : DTA K B tr env fun rs pu env1 => ∃ ds fl, valsOf rs = some (ds, fl) ∧ ds.length ≤ sizeLine ∧ P (.lst ds) fl pu env1) : DT K B (tLst tr) env P := fun σ H G Q e q => by
  refine h σ H G _ e fun vs H1 rs pu env1 G1 Gvs s ar ⟨ds, fl, hv, hl, hP⟩ => ?_
  obtain ⟨r, f⟩ := ar.vals hv
  refine ⟨by rw [r.len]; exact hl, fun p hp => ?_⟩
  have sm : Same H1 (upd H1 p (.lst vs)) := same_new hp
  have s2 := s.trans (.same s.er sm)
  rw [Bool.and_true] at s2
  refine q _ _ _ _ _ env1 G1 (p :: Gvs.flatten) s2 (.lst upd_same (r.step (M := fun _ => False) (.same sm) fun _ _ z => z)) ?_ hP
  have np : ¬ All G1 p := s.er.not_all hp
  refine ⟨fun nv a m => ?_, fun fr => ⟨?_, fun a m => ?_⟩, fun a m => ?_⟩
  · rcases List.mem_cons.mp m with rfl | m
    · exact fun z => np z.all
    · exact f.cold nv a m
  · refine List.nodup_cons.mpr ⟨fun m => ?_, (f.fr fr).1⟩
    obtain ⟨o, k⟩ := r.alloc p m
    rw [hp] at k; cases k
  · rcases List.mem_cons.mp m with rfl | m
    · exact ⟨⟨s.mv.stp.al a hp, np⟩, _, upd_same, True.intro⟩
    · obtain ⟨z, o, k, mm⟩ := (f.fr fr).2 a m
      exact ⟨z, o, sm a o k, mm⟩
  · rcases List.mem_cons.mp m with rfl | m
    · exact .inr (s.mv.stp.al a hp)
    · exact f.c3 a m
theorem new_fresh {σ : L2.St} {H1 H H2 : Hp} {Gs G1 : Nat → List Addr} {p : Addr} {o : HO} (e : EnvR K B σ H1 env G1) (hp : H1 p = none) (h0 : H p = none) (h2 : H2 p = some o) (mm : Mu o) {fl : Fl} : Vf H Gs env G1 H2 fl [p] := by
  have np : ¬ All G1 p := e.not_all hp
  refine ⟨fun _ a m z => ?_, fun _ => ⟨List.nodup_cons.mpr ⟨fun m => (nomatch m), .nil⟩, fun a m => ?_⟩, fun a m => ?_⟩
  · rcases List.mem_cons.mp m with rfl | m
    · exact np z.all
    · cases m
  · rcases List.mem_cons.mp m with rfl | m
    · exact ⟨⟨h0, np⟩, o, h2, mm⟩
    · cases m
  · rcases List.mem_cons.mp m with rfl | m
    · exact .inr h0
    · cases m
theorem dt_dnewK (h : P (.dct []) .fresh true env) : DT K B tDNewK env P := fun σ H G Q e q p hp =>
  q _ _ _ _ _ env G [p] (.same e (same_new hp)) (.dct (kvs := []) (.inl upd_same) rfl .nil) (new_fresh (o := .dK []) e hp hp upd_same True.intro) h
theorem dt_dnewT (h : P (.dct []) .fresh true env) : DT K B tDNewT env P := fun σ H G Q e q p hp =>
  q _ _ _ _ _ env G [p] (.same e (same_new hp)) (.dctT (kvs := []) (.inl upd_same) rfl .nil) (new_fresh (o := .dT []) e hp hp upd_same True.intro) h
/-- a call by values of what changes nothing -/
def CallD (K : PySem.W.Frag) (r : List V → Hp → VK → Prop) (nw : Bool) (f : List Dv → Option Dv) : Prop := ∀ (H : Hp) (vs : List V) (ds : List Dv) (d : Dv) (G : List Addr) (Q : VK), Reps K H vs ds G → f ds = some d →
  (∀ z H' Gz, Same H H' → Rep K H' z d Gz → (∀ a ∈ Gz, a ∈ G ∨ H a = none) → (nw = true → d.sh = true → Gz.Nodup ∧ ∀ a ∈ Gz, H a = none ∧ ∃ o, H' a = some o ∧ Mu o) → Q z H') → r vs H Q
theorem dt_cb {r : List V → Hp → VK → Prop} {nw : Bool} {f : List Dv → Option Dv} (o : CallD K r nw f)
    (h : DTA K B tr env fun rs pu env1 => ∃ ds fl d, valsOf rs = some (ds, fl) ∧ f ds = some d ∧ P d (flr nw d fl) pu env1) : DT K B (tCB r tr) env P := fun σ H G Q e q => by
  refine h σ H G _ e fun vs H1 rs pu env1 G1 Gvs s ar ⟨ds, fl, d, hv, hd, hP⟩ => ?_
  obtain ⟨rr, f'⟩ := ar.vals hv
  refine o H1 vs ds d _ _ rr hd fun z H2 Gz sm rz src new => ?_
  have s2 := s.trans (.same s.er sm)
  rw [Bool.and_true] at s2
  refine q z H2 _ _ _ env1 G1 Gz s2 rz (made s.er s.mv.stp.al rz (fun a m k => ?_) new) hP
  rcases src a m with z | z
  · exact ⟨fun nv => f'.cold nv a z, f'.c3 a z⟩
  · exact (k z).elim
/-- a method of what is built in, that changes nothing -/
def MtD (K : PySem.W.Frag) (T : String) (r : V → List V → Hp → VK → Prop) (nw : Bool) (f : Dv → List Dv → Option Dv) : Prop := ∀ (H : Hp) (x : V) (vs : List V) (d1 : Dv) (ds : List Dv) (d : Dv) (G1 G : List Addr) (Q : VK), Rep K H x d1 G1 → Reps K H vs ds G → f d1 ds = some d →
  (∀ z H' Gz, Same H H' → Rep K H' z d Gz → (∀ a ∈ Gz, a ∈ G1 ∨ a ∈ G ∨ H a = none) → (nw = true → d.sh = true → Gz.Nodup ∧ ∀ a ∈ Gz, H a = none ∧ ∃ o, H' a = some o ∧ Mu o) → Q z H') → r x vs H Q
def TyD (K : PySem.W.Frag) (T : String) (g : Dv → Bool) : Prop := ∀ (H : Hp) (x : V) (d : Dv) (G : List Addr), Rep K H x d G → g d = true → tyV K T x H
theorem dt_bm {T : String} {r : V → List V → Hp → VK → Prop} {nw : Bool} {f : Dv → List Dv → Option Dv} {g : Dv → Bool} (o : MtD K T r nw f) (ty : TyD K T g)
    (h : DT K B te env fun d1 f1 p1 env1 => g d1 = true ∧ DTA K B tr env1 fun rs p2 env2 => (f1 = .view → p2 = true) ∧ ∃ ds fl d, valsOf rs = some (ds, fl) ∧ f d1 ds = some d ∧ P d (flr nw d (flj f1 fl)) (p1 && p2) env2) : DT K B (tBM K T r te tr) env P := fun σ H G Q e q => by
  refine h σ H G _ e fun x H1 d1 f1 p1 env1 G1 Gx s1 rx fx ⟨hg, h1⟩ => ⟨ty H1 x d1 Gx rx hg, ?_⟩
  refine h1 σ H1 G1 _ s1.er fun vs H2 rs p2 env2 G2 Gvs s2 ar ⟨hv, ds, fl, d, hvs, hd, hP⟩ => ?_
  obtain ⟨rx2, fx2⟩ := pend s2 rx fx hv
  obtain ⟨rr, f'⟩ := ar.vals hvs
  refine o H2 x vs d1 ds d Gx _ _ rx2 rr hd fun z H3 Gz sm rz src new => ?_
  have s3 := (s1.trans s2).trans (.same s2.er sm)
  rw [Bool.and_true] at s3
  have back1 : ∀ a, H1 a = none → H a = none := s1.mv.stp.al
  refine q z H3 d _ _ env2 G2 Gz s3 rz (made s2.er (fun a k => back1 a (s2.mv.stp.al a k)) rz (fun a m k => ?_) new) hP
  rcases src a m with z | z | z
  · refine ⟨fun nv => fx2.cold (fun w => nv (by rw [w]; rfl)) a z, fx2.c3 a z⟩
  · refine ⟨fun nv => f'.cold (fun w => nv (by rw [w]; cases f1 <;> rfl)) a z, s1.back (Gv := Gz) (f'.c3 a z)⟩
  · exact (k z).elim
theorem dt_bm0 {T : String} {r : V → List V → Hp → VK → Prop} {nw : Bool} {f : Dv → List Dv → Option Dv} {g : Dv → Bool} (o : MtD K T r nw f) (ty : TyD K T g)
    (h : DT K B te env fun d1 f1 p1 env1 => g d1 = true ∧ ∃ d, f d1 [] = some d ∧ P d (flr nw d (flj f1 .fresh)) p1 env1) : DT K B (tBM0 K T r te) env P := fun σ H G Q e q => by
  refine h σ H G _ e fun x H1 d1 f1 p1 env1 G1 Gx s1 rx fx ⟨hg, d, hd, hP⟩ => ⟨ty H1 x d1 Gx rx hg, ?_⟩
  refine o H1 x [] d1 [] d Gx _ _ rx .nil hd fun z H3 Gz sm rz src new => ?_
  have s3 := s1.trans (.same s1.er sm)
  rw [Bool.and_true] at s3
  refine q z H3 d _ _ env1 G1 Gz s3 rz (made s1.er s1.mv.stp.al rz (fun a m k => ?_) new) hP
  rcases src a m with z | z | z
  · refine ⟨fun nv => fx.cold (fun w => nv (by rw [w]; rfl)) a z, fx.c3 a z⟩
  · cases z
  · exact (k z).elim
end

/-! ### statements -/
structure Ds where
  nx : List Sl → Prop
  rt : Dv → Fl → List Sl → Prop
  bk : List Sl → Prop := fun _ => False
  ct : List Sl → Prop := fun _ => False
def Pin (env : List Sl) (G : Nat → List Addr) (a : Addr) : Prop := ∃ (i : Nat) (d : Dv), env[i]? = some (.pi d) ∧ a ∈ G i
theorem Pin.hot {env : List Sl} {G : Nat → List Addr} {a : Addr} (h : Pin env G a) : Hot env G a := let ⟨i, d, e, m⟩ := h; ⟨i, _, e, rfl, m⟩
/-- a value handed back -/
structure Vr (B : Bs) (env : List Sl) (G : Nat → List Addr) (H : Hp) (fl : Fl) (Gv : List Addr) : Prop where
  cold : ∀ a ∈ Gv, ¬ Pin env G a
  fr : fl = .fresh → Gv.Nodup ∧ ∀ a ∈ Gv, B.He a = none ∧ ∃ o, H a = some o ∧ Mu o
  c3 : ∀ a ∈ Gv, All B.G0 a ∨ B.He a = none
structure Lk (K : PySem.W.Frag) (B : Bs) (env : List Sl) (G : Nat → List Addr) (H : Hp) (D : Ds) (E : Ends) : Prop where
  nx : ∀ σ' H' env' G', Mv env G H env' G' H' → EnvR K B σ' H' env' G' → D.nx env' → E.nx σ' H'
  bk : ∀ σ' H' env' G', Mv env G H env' G' H' → EnvR K B σ' H' env' G' → D.bk env' → E.bk σ' H'
  ct : ∀ σ' H' env' G', Mv env G H env' G' H' → EnvR K B σ' H' env' G' → D.ct env' → E.ct σ' H'
  rt : ∀ σ' H' env' G' v d fl Gv, Mv env G H env' G' H' → EnvR K B σ' H' env' G' → Rep K H' v d Gv → Vr B env' G' H' fl Gv → D.rt d fl env' → E.rt v H'
def DTS (K : PySem.W.Frag) (B : Bs) (ts : TS) (env : List Sl) (D : Ds) : Prop :=
  ∀ (σ : L2.St) (H : Hp) (G : Nat → List Addr) (E : Ends), EnvR K B σ H env G → Lk K B env G H D E → ts E σ H
section
variable {K : PySem.W.Frag} {B : Bs} {env : List Sl} {D : Ds} {ta tb te : TE} {t u : TS} {c : TT} {tr : TA}
theorem Lk.on {E : Ends} {G G1 : Nat → List Addr} {H H1 : Hp} {env1 : List Sl} (l : Lk K B env G H D E) (m : Mv env G H env1 G1 H1) : Lk K B env1 G1 H1 D E :=
  ⟨fun a b c d m2 => l.nx a b c d (m.trans m2), fun a b c d m2 => l.bk a b c d (m.trans m2), fun a b c d m2 => l.ct a b c d (m.trans m2), fun a b c d e f g h m2 => l.rt a b c d e f g h (m.trans m2)⟩
theorem dts_next (h : D.nx env) : DTS K B tNext env D := fun σ H G E e l => l.nx σ H env G .refl e h
theorem dts_brk (h : D.bk env) : DTS K B tBreak env D := fun σ H G E e l => l.bk σ H env G .refl e h
theorem dts_cont (h : D.ct env) : DTS K B tCont env D := fun σ H G E e l => l.ct σ H env G .refl e h
theorem dts_seq (h : DTS K B t env { D with nx := fun env1 => DTS K B u env1 D }) : DTS K B (tSeq t u) env D := fun σ H G E e l => by
  refine h σ H G { E with nx := u E } e ⟨fun σ' H' env' G' m e' h' => ?_, l.bk, l.ct, l.rt⟩
  exact h' σ' H' G' E e' (l.on m)
theorem dts_if (h : DTT K B c env fun b pu env1 => if b = true then DTS K B t env1 D else DTS K B u env1 D) : DTS K B (tIfS c t u) env D := fun σ H G E e l => by
  refine h σ H G _ e fun b H1 pu env1 G1 s h1 => ?_
  cases b with
  | true =>
    rw [if_pos rfl] at h1
    exact h1 σ H1 G1 E s.er (l.on s.mv)
  | false =>
    rw [if_neg Bool.false_ne_true] at h1
    exact h1 σ H1 G1 E s.er (l.on s.mv)
theorem dts_drop (h : DT K B te env fun _ _ _ env1 => D.nx env1) : DTS K B (tDrop te) env D := fun σ H G E e l => by
  refine h σ H G _ e fun v H1 d fl pu env1 G1 Gv s r f h1 => ?_
  exact l.nx σ H1 env1 G1 s.mv s.er h1
theorem dts_ret (h : DT K B te env fun d fl pu env1 => ef d fl ≠ .view ∧ D.rt d (ef d fl) env1) : DTS K B (tRet te) env D := fun σ H G E e l => by
  refine h σ H G _ e fun v H1 d fl pu env1 G1 Gv s r f ⟨nv, h1⟩ => ?_
  have f' := f.ef r
  refine l.rt σ H1 env1 G1 v d _ Gv s.mv s.er r ⟨fun a m z => f'.cold nv a m z.hot, fun fr => ⟨(f'.fr fr).1, fun a m => ⟨e.he a ((f'.fr fr).2 a m).1.1, ((f'.fr fr).2 a m).2⟩⟩, fun a m => ?_⟩ h1
  rcases f'.c3 a m with ⟨i, k⟩ | k
  · exact e.org i a k
  · exact .inr (e.he a k)
/-- one's own thing is handed back -/
theorem dts_retL {i : Nat} {d : Dv} (he : env[i]? = some (.ho d)) (h : D.rt d .fresh env) : DTS K B (tRet (tVar i)) env D := fun σ H G E e l => by
  obtain ⟨v, hv, r⟩ := e.rep i _ d he rfl
  refine ⟨v, hv, l.rt σ H env G v d .fresh (G i) .refl e r ⟨fun a m z => ?_, fun _ => ⟨e.nod i _ he rfl, fun a m => ⟨e.loc i d a he m, e.mu i _ a he rfl m⟩⟩, fun a m => e.org i a m⟩ h⟩
  obtain ⟨j, d', hj, mj⟩ := z
  have ne : i ≠ j := fun z => by subst z; rw [he] at hj; cases hj
  exact e.dis i j _ a ne he rfl m mj
/-- where no argument may change: whatever is handed back -/
theorem dts_retV (h : DT K B te env fun d fl pu env1 => (∀ (i : Nat) (d : Dv), env1[i]? ≠ some (.pi d)) ∧ D.rt d .cold env1) : DTS K B (tRet te) env D := fun σ H G E e l => by
  refine h σ H G _ e fun v H1 d fl pu env1 G1 Gv s r f ⟨np, h1⟩ => ?_
  refine l.rt σ H1 env1 G1 v d .cold Gv s.mv s.er r ⟨fun a m ⟨i, d, z, _⟩ => np i d z, fun fr => (nomatch fr), fun a m => ?_⟩ h1
  rcases f.c3 a m with ⟨i, k⟩ | k
  · exact e.org i a k
  · exact .inr (e.he a k)
theorem dts_retN (h : D.rt .non .fresh env) : DTS K B tRetN env D := fun σ H G E e l =>
  l.rt σ H env G .non .non .fresh [] .refl e .non ⟨fun a m => (nomatch m), fun _ => ⟨.nil, fun a m => (nomatch m)⟩, fun a m => (nomatch m)⟩ h

/-! stores -/
def setG (G : Nat → List Addr) (i : Nat) (g : List Addr) : Nat → List Addr := fun j => if j = i then g else G j
theorem setG_same {G : Nat → List Addr} {i : Nat} {g : List Addr} : setG G i g i = g := if_pos rfl
theorem setG_ne {G : Nat → List Addr} {i j : Nat} {g : List Addr} (h : j ≠ i) : setG G i g j = G j := if_neg h
def Sl.free : Sl → Bool
  | .pi _ => false
  | _ => true
theorem EnvR.set {σ : L2.St} {H : Hp} {G : Nat → List Addr} {i : Nat} {s s' : Sl} {v : V} {d : Dv} {Gv : List Addr} (e : EnvR K B σ H env G) (hi : env[i]? = some s) (hs : s.free = true) (hd : s'.dv = some d) (hp : s'.free = true) (r : Rep K H v d Gv)
    (cold : ∀ a ∈ Gv, ¬ Hot env G a) (fr : s'.hot = true → Gv.Nodup ∧ ∀ a ∈ Gv, (B.He a = none ∧ ¬ All G a) ∧ ∃ o, H a = some o ∧ Mu o) (c3 : ∀ a ∈ Gv, All B.G0 a ∨ B.He a = none) : EnvR K B (σ.set i (some v)) H (env.set i s') (setG G i Gv) := by
  have hlt : i < env.length := (List.getElem?_eq_some_iff.mp hi).1
  have hlt' : i < σ.length := by rw [e.len]; exact hlt
  have at_i : (env.set i s')[i]? = some s' := List.getElem?_set_self hlt
  have at_j : ∀ j, j ≠ i → (env.set i s')[j]? = env[j]? := fun j n => List.getElem?_set_ne (Ne.symm n)
  refine ⟨by rw [List.length_set, List.length_set]; exact e.len, fun j sj dj h1 h2 => ?_, fun j h => ?_, fun j sj h1 h2 => ?_, fun j k sj a n h1 h2 m => ?_, fun j dj h => ?_, fun j dj a h m => ?_, e.he, fun j a m => ?_, fun j dj a h m => ?_, fun j sj a h1 h2 m => ?_, fun j h => ?_⟩
  · by_cases n : j = i
    · subst n
      rw [at_i] at h1; cases h1
      rw [hd] at h2; cases h2
      rw [setG_same]
      exact ⟨v, List.getElem?_set_self hlt', r⟩
    · rw [at_j j n] at h1
      rw [setG_ne n, List.getElem?_set_ne (Ne.symm n)]
      exact e.rep j sj dj h1 h2
  · by_cases n : j = i
    · subst n
      rcases h with h | h
      · rw [at_i] at h; cases h; cases hd
      · rw [at_i] at h; cases h
    · rw [at_j j n] at h
      rw [setG_ne n]; exact e.non j h
  · by_cases n : j = i
    · subst n
      rw [at_i] at h1; cases h1
      rw [setG_same]; exact (fr h2).1
    · rw [at_j j n] at h1
      rw [setG_ne n]; exact e.nod j sj h1 h2
  · by_cases nj : j = i
    · subst nj
      rw [at_i] at h1; cases h1
      rw [setG_same] at m
      rw [setG_ne (Ne.symm n)]
      exact fun z => ((fr h2).2 a m).1.2 ⟨k, z⟩
    · rw [at_j j nj] at h1
      rw [setG_ne nj] at m
      by_cases nk : k = i
      · subst nk
        rw [setG_same]
        exact fun z => cold a z ⟨j, sj, h1, h2, m⟩
      · rw [setG_ne nk]
        exact e.dis j k sj a n h1 h2 m
  · by_cases n : j = i
    · subst n
      rw [at_i] at h; cases h; cases hp
    · rw [at_j j n] at h
      rw [List.getElem?_set_ne (Ne.symm n)]
      exact e.pin j dj h
  · by_cases n : j = i
    · subst n
      rw [at_i] at h; cases h
      rw [setG_same] at m
      exact ((fr rfl).2 a m).1.1
    · rw [at_j j n] at h
      rw [setG_ne n] at m
      exact e.loc j dj a h m
  · by_cases n : j = i
    · subst n
      rw [setG_same] at m
      exact c3 a m
    · rw [setG_ne n] at m
      exact e.org j a m
  · by_cases n : j = i
    · subst n
      rw [at_i] at h; cases h; cases hp
    · rw [at_j j n] at h
      rw [setG_ne n] at m
      exact e.pc j dj a h m
  · by_cases n : j = i
    · subst n
      rw [at_i] at h1; cases h1
      rw [setG_same] at m
      exact ((fr h2).2 a m).2
    · rw [at_j j n] at h1
      rw [setG_ne n] at m
      exact e.mu j sj a h1 h2 m
  · obtain ⟨dj, h'⟩ := e.kp j h
    have n : j ≠ i := fun z => by
      subst z
      rw [hi] at h'; cases h'; cases hs
    exact ⟨dj, by rw [at_j j n]; exact h'⟩
theorem EnvR.org' {σ : L2.St} {H : Hp} {G : Nat → List Addr} (e : EnvR K B σ H env G) {a : Addr} (h : All G a ∨ H a = none) : All B.G0 a ∨ B.He a = none := by
  rcases h with ⟨i, h⟩ | h
  · exact e.org i a h
  · exact .inr (e.he a h)
theorem hot_set {G : Nat → List Addr} {i : Nat} {s' : Sl} {Gv : List Addr} {a : Addr} (h : Hot (env.set i s') (setG G i Gv) a) : Hot env G a ∨ (s'.hot = true ∧ a ∈ Gv) := by
  obtain ⟨j, sj, h1, h2, m⟩ := h
  by_cases n : j = i
  · subst n
    rw [setG_same] at m
    by_cases hl : j < env.length
    · rw [List.getElem?_set_self hl] at h1; cases h1
      exact .inr ⟨h2, m⟩
    · rw [List.getElem?_eq_none (by rw [List.length_set]; exact Nat.not_lt.mp hl)] at h1; cases h1
  · rw [List.getElem?_set_ne (Ne.symm n)] at h1
    rw [setG_ne n] at m
    exact .inl ⟨j, sj, h1, h2, m⟩
/-- x = e; x holds what nobody changes -/
theorem dts_set {i : Nat} (h : DT K B te env fun d fl pu env1 => ef d fl ≠ .view ∧ (∃ s, env1[i]? = some s ∧ s.free = true) ∧ D.nx (env1.set i (.co d))) : DTS K B (tAsg te (gName i)) env D := fun σ H G E e l => by
  refine h σ H G _ e fun v H1 d fl pu env1 G1 Gv s r f ⟨nv, ⟨sl, hi, hs⟩, h1⟩ => ?_
  have f' := f.ef r
  refine l.nx _ H1 (env1.set i (.co d)) (setG G1 i Gv) (s.mv.trans ⟨.refl, fun a z => ?_⟩) (s.er.set hi hs rfl rfl r (f'.cold nv) (fun z => nomatch z) fun a m => e.org' (f'.c3 a m)) h1
  rcases hot_set z with z | ⟨z, _⟩
  · exact .inl z
  · cases z
/-- x = e; x is one's own, and may change -/
theorem dts_setH {i : Nat} (h : DT K B te env fun d fl pu env1 => ef d fl = .fresh ∧ (∃ s, env1[i]? = some s ∧ s.free = true) ∧ D.nx (env1.set i (.ho d))) : DTS K B (tAsg te (gName i)) env D := fun σ H G E e l => by
  refine h σ H G _ e fun v H1 d fl pu env1 G1 Gv s r f ⟨fr, ⟨sl, hi, hs⟩, h1⟩ => ?_
  have f' := f.ef r
  obtain ⟨nd, q⟩ := f'.fr fr
  have cold : ∀ a ∈ Gv, ¬ Hot env1 G1 a := fun a m z => (q a m).1.2 z.all
  have hm : Mv env G H (env1.set i (.ho d)) (setG G1 i Gv) H1 := ⟨s.mv.stp, fun a z => by
    rcases hot_set z with z | ⟨_, z⟩
    · exact s.mv.c1 a z
    · exact .inr (q a z).1.1⟩
  exact l.nx _ H1 (env1.set i (.ho d)) (setG G1 i Gv) hm (s.er.set hi hs rfl rfl r cold (fun _ => ⟨nd, fun a m => ⟨⟨e.he a (q a m).1.1, (q a m).1.2⟩, (q a m).2⟩⟩) fun a m => e.org' (f'.c3 a m)) h1
end
end Fd
namespace Fd
open PySem PySem.Spec PyProof.Rows L2

/-! ### what a def promises over deep data: which arguments may change; the arguments, then the value, its flag, the arguments behind -/
abbrev Fs := List Dv → (Dv → Fl → List Dv → Prop) → Prop
def argEnv : List Bool → List Dv → List Sl
  | m :: ms, d :: ds => (if m = true then .pi d else .co d) :: argEnv ms ds
  | _, _ => []
theorem argEnv_get : ∀ {ms : List Bool} {ds : List Dv} (i : Nat), ds.length = ms.length → (argEnv ms ds)[i]? = match ms[i]?, ds[i]? with
    | some m, some d => some (if m = true then .pi d else .co d)
    | _, _ => none
  | [], [], i, _ => by simp [argEnv]
  | m :: ms, d :: ds, 0, _ => by simp [argEnv]
  | m :: ms, d :: ds, i + 1, h => by
    have := argEnv_get (ms := ms) (ds := ds) i (by simpa using h)
    simpa [argEnv] using this
  | [], _ :: _, _, h => by simp at h
  | _ :: _, [], _, h => by simp at h
theorem argEnv_len : ∀ {ms : List Bool} {ds : List Dv}, ds.length = ms.length → (argEnv ms ds).length = ms.length
  | [], [], _ => rfl
  | m :: ms, d :: ds, h => congrArg (· + 1) (argEnv_len (ms := ms) (ds := ds) (by simpa using h))
  | [], _ :: _, h => by simp at h
  | _ :: _, [], h => by simp at h
def HotA (ms : List Bool) (G : Nat → List Addr) (a : Addr) : Prop := ∃ (i : Nat), ms[i]? = some true ∧ a ∈ G i
/-- behind a call -/
structure Pf (K : PySem.W.Frag) (ms : List Bool) (vs : List V) (ds : List Dv) (G : Nat → List Addr) (H : Hp) (v : V) (H' : Hp) (d : Dv) (fl : Fl) (ds' : List Dv) (G' : Nat → List Addr) (Gv : List Addr) : Prop where
  stp : Stp (HotA ms G) H H'
  c1 : ∀ (i : Nat) (a : Addr), ms[i]? = some true → a ∈ G' i → a ∈ G i ∨ H a = none
  ln : ds'.length = ds.length
  co : ∀ (i : Nat), ms[i]? = some false → ds'[i]? = ds[i]?
  ho : ∀ (i : Nat), ms[i]? = some true → ∃ v d, vs[i]? = some v ∧ ds'[i]? = some d ∧ Rep K H' v d (G' i)
  nod : ∀ (i : Nat), ms[i]? = some true → (G' i).Nodup
  dis : ∀ (i j : Nat) (a : Addr), i ≠ j → ms[i]? = some true → ms[j]? = some true → a ∈ G' i → a ∉ G' j
  rep : Rep K H' v d Gv
  cold : ∀ a ∈ Gv, ¬ HotA ms G' a
  fr : fl = .fresh → Gv.Nodup ∧ ∀ a ∈ Gv, H a = none ∧ ∃ o, H' a = some o ∧ Mu o
  mu : ∀ (i : Nat) (a : Addr), ms[i]? = some true → a ∈ G' i → ∃ o, H' a = some o ∧ Mu o
  c3 : ∀ a ∈ Gv, All G a ∨ H a = none
def spD (K : PySem.W.Frag) (ms : List Bool) (run : Fs) : Sp := fun vs H Q _ =>
  ∃ (ds : List Dv) (G : Nat → List Addr) (P : Dv → Fl → List Dv → Prop), vs.length = ms.length ∧ ds.length = ms.length ∧ EnvR K ⟨vs.map some, H, G, ms⟩ (vs.map some) H (argEnv ms ds) G ∧ run ds P ∧
    ∀ v H' d fl ds' G' Gv, Pf K ms vs ds G H v H' d fl ds' G' Gv → P d fl ds' → Q v H'
/-- the arguments behind, by the slots -/
def fin : List Bool → List Dv → List Sl → List Dv
  | m :: ms, d :: ds, s :: env => (if m = true then s.dv.getD d else d) :: fin ms ds env
  | _, ds, _ => ds
theorem fin_len : ∀ {ms : List Bool} {ds : List Dv} {env : List Sl}, (fin ms ds env).length = ds.length
  | m :: ms, d :: ds, s :: env => congrArg (· + 1) (fin_len (ms := ms) (ds := ds) (env := env))
  | [], ds, env => rfl
  | _ :: _, [], env => rfl
  | _ :: _, _ :: _, [] => rfl
theorem fin_get : ∀ {ms : List Bool} {ds : List Dv} {env : List Sl} (i : Nat), ds.length = ms.length → (ms[i]? = some false → (fin ms ds env)[i]? = ds[i]?) ∧ ∀ s d, ms[i]? = some true → env[i]? = some s → s.dv = some d → (fin ms ds env)[i]? = some d
  | [], ds, env, i, h => ⟨fun z => by simp at z, fun s d z => by simp at z⟩
  | m :: ms, [], env, i, h => by simp at h
  | m :: ms, d :: ds, [], i, h => ⟨fun _ => rfl, fun s d _ z => by simp at z⟩
  | m :: ms, d :: ds, s :: env, 0, h => ⟨fun z => by
      simp at z; subst z; rfl, fun s' d' z e k => by
      simp at z e; subst z; subst e
      show some (s.dv.getD d) = some d'
      rw [k]; rfl⟩
  | m :: ms, d :: ds, s :: env, i + 1, h => by
    have := fin_get (ms := ms) (ds := ds) (env := env) i (by simpa using h)
    simpa [fin] using this

section
variable {P : Program} {w : World} {K : PySem.W.Frag} {mg : Str → Option Value} {base : Heap}
/-- a def, by its body over deep data -/
theorem fn_spD {x qual : Str} {st : Stmt} {f : Addr} {fd : FuncData} {N ps : List Str} {k : Nat} {ms : List Bool} {run : Fs} (F : Fun K x qual st f fd) (S : FnScope N ps (defScope st)) (hm : ms.length = ps.length) (hN : ps.length ≤ N.length)
    (hbody : ∀ (cdv : Value) (A : Around) (outer : List Env) (s : Shared) (H : Hp) (E : XK), Room k (A.deeper (envOfC qual (defScope st) s.heap.objs.size f cdv)) →
      ∃ t, PSs (cxOf CX0 P w K mg base N qual (defScope st) f cdv A outer s H E).nox (defBody st) t ∧
        ∀ (B : Bs) (ds : List Dv) (R : Dv → Fl → List Dv → Prop), B.ms = ms → ds.length = ms.length → run ds R →
          DTS K B t (argEnv ms ds ++ List.replicate (N.length - ps.length) .no) { nx := fun env' => R .non .fresh (fin ms ds env'), rt := fun d fl env' => R d fl (fin ms ds env') }) :
    FnOk P w K mg base CX0 (k + 1) f fd ps (spD K ms run) := by
  refine F.ok S (fun vs H Q E h => ?_) (fun cdv A outer s H vs Q E hr h => ?_)
  · obtain ⟨ds, G, R, h1, _⟩ := h
    exact h1.trans hm
  · obtain ⟨ds, G, R, hv, hd, er, hrun, hq⟩ := h
    obtain ⟨t, ht, hbd⟩ := hbody cdv A outer s H E hr
    refine ⟨t, ht, ?_⟩
    have hl : vs.length = ps.length := hv.trans hm
    have hla : (argEnv ms ds).length = ms.length := argEnv_len hd
    have s_lt : ∀ i, i < ms.length → (start N vs)[i]? = (vs.map some)[i]? := fun i hi => by
      unfold L2.start; rw [List.getElem?_append_left (by rw [List.length_map]; omega)]
    have e_lt : ∀ i, i < ms.length → (argEnv ms ds ++ List.replicate (N.length - ps.length) Sl.no)[i]? = (argEnv ms ds)[i]? := fun i hi => by
      rw [List.getElem?_append_left (by omega)]
    have e_ge : ∀ i s, ms.length ≤ i → (argEnv ms ds ++ List.replicate (N.length - ps.length) Sl.no)[i]? = some s → s = .no := fun i s hi h => by
      rw [List.getElem?_append_right (by omega), List.getElem?_replicate] at h
      split at h
      · cases h; rfl
      · cases h
    have down : ∀ i s, (argEnv ms ds ++ List.replicate (N.length - ps.length) Sl.no)[i]? = some s → s ≠ .no → i < ms.length ∧ (argEnv ms ds)[i]? = some s := fun i s h n => by
      by_cases hi : i < ms.length
      · exact ⟨hi, by rw [← e_lt i hi]; exact h⟩
      · exact absurd (e_ge i s (Nat.not_lt.mp hi) h) n
    have er' : EnvR K ⟨start N vs, H, G, ms⟩ (start N vs) H (argEnv ms ds ++ List.replicate (N.length - ps.length) .no) G := by
      refine ⟨?_, fun i sl d h1 h2 => ?_, fun i h => ?_, fun i sl h1 h2 => ?_, fun i j sl a n h1 h2 m => ?_, fun i d h => rfl, fun i d a h m => ?_, fun a h => h, er.org, fun i d a h m => .inl m, fun i sl a h1 h2 m => ?_, fun i h => ?_⟩
      · unfold L2.start
        rw [List.length_append, List.length_append, List.length_map, List.length_replicate, List.length_replicate, hla]
        omega
      · obtain ⟨hi, h1⟩ := down i sl h1 (fun z => by subst z; cases h2)
        obtain ⟨v, k1, k2⟩ := er.rep i sl d h1 h2
        exact ⟨v, by rw [s_lt i hi]; exact k1, k2⟩
      · by_cases hi : i < ms.length
        · rw [e_lt i hi] at h; exact er.non i h
        · exact er.non i (.inr (List.getElem?_eq_none (by omega)))
      · obtain ⟨_, h1⟩ := down i sl h1 (fun z => by subst z; cases h2)
        exact er.nod i sl h1 h2
      · obtain ⟨_, h1⟩ := down i sl h1 (fun z => by subst z; cases h2)
        exact er.dis i j sl a n h1 h2 m
      · obtain ⟨_, h⟩ := down i _ h (fun z => nomatch z)
        exact er.loc i d a h m
      · obtain ⟨_, h1⟩ := down i sl h1 (fun z => by subst z; cases h2)
        exact er.mu i sl a h1 h2 m
      · obtain ⟨d, h'⟩ := er.kp i h
        have hi : i < ms.length := (List.getElem?_eq_some_iff.mp h).1
        exact ⟨d, by rw [e_lt i hi]; exact h'⟩
    have main : ∀ σ' H' env' G' v d fl Gv, Mv (argEnv ms ds ++ List.replicate (N.length - ps.length) Sl.no) G H env' G' H' → EnvR K ⟨start N vs, H, G, ms⟩ σ' H' env' G' → Rep K H' v d Gv → Vr ⟨start N vs, H, G, ms⟩ env' G' H' fl Gv → R d fl (fin ms ds env') → Q v H' := fun σ' H' env' G' v d fl Gv m e' r f hR => by
      have hot_in : ∀ a, Hot (argEnv ms ds ++ List.replicate (N.length - ps.length) Sl.no) G a → HotA ms G a := fun a ⟨i, sl, h1, h2, mm⟩ => by
        obtain ⟨hi, h1⟩ := down i sl h1 (fun z => by subst z; cases h2)
        refine ⟨i, ?_, mm⟩
        rw [argEnv_get i hd, List.getElem?_eq_getElem hi, List.getElem?_eq_getElem (by omega : i < ds.length)] at h1
        cases hb : ms[i] with
        | true => rw [List.getElem?_eq_getElem hi, hb]
        | false => rw [hb] at h1; cases h1; cases h2
      have pin_at : ∀ i, ms[i]? = some true → ∃ v d, vs[i]? = some v ∧ env'[i]? = some (.pi d) ∧ Rep K H' v d (G' i) := fun i hi => by
        obtain ⟨d, h1⟩ := e'.kp i hi
        obtain ⟨v, h2, r⟩ := e'.rep i _ d h1 rfl
        have h3 := e'.pin i d h1
        have lt : i < ms.length := (List.getElem?_eq_some_iff.mp hi).1
        rw [h2] at h3
        have h4 : some (some v) = (vs.map some)[i]? := h3.trans (s_lt i lt)
        rw [List.getElem?_map] at h4
        cases q : vs[i]? with
        | none => rw [q] at h4; cases h4
        | some v' => rw [q] at h4; cases h4; exact ⟨_, d, rfl, h1, r⟩
      refine hq v H' d fl _ G' Gv ⟨m.stp.mono hot_in, fun i a hi ma => ?_, fin_len, fun i hi => (fin_get i hd).1 hi, fun i hi => ?_, fun i hi => ?_, fun i j a n hi hj ma => ?_, r, fun a ma z => ?_, f.fr, fun i a hi ma => ?_, f.c3⟩ hR
      · obtain ⟨v', d', _, h1, _⟩ := pin_at i hi
        exact e'.pc i d' a h1 ma
      · obtain ⟨v', d', h0, h1, r'⟩ := pin_at i hi
        exact ⟨v', d', h0, (fin_get i hd).2 _ d' hi h1 rfl, r'⟩
      · obtain ⟨v', d', _, h1, _⟩ := pin_at i hi
        exact e'.nod i _ h1 rfl
      · obtain ⟨v', d', _, h1, _⟩ := pin_at i hi
        exact e'.dis i j _ a n h1 rfl ma
      · obtain ⟨i, hi, mi⟩ := z
        obtain ⟨v', d', _, h1, _⟩ := pin_at i hi
        exact f.cold a ma ⟨i, d', h1, mi⟩
      · obtain ⟨v', d', _, h1, _⟩ := pin_at i hi
        exact e'.mu i _ a h1 rfl ma
    refine hbd ⟨start N vs, H, G, ms⟩ ds R rfl hd hrun (start N vs) H G _ er' ⟨fun σ' H' env' G' m e' h => ?_, fun _ _ _ _ _ _ h => h.elim, fun _ _ _ _ _ _ h => h.elim, fun σ' H' env' G' v d fl Gv m e' r f h => main σ' H' env' G' v d fl Gv m e' r f h⟩
    exact main σ' H' env' G' .non .non .fresh [] m e' .non ⟨fun a m => (nomatch m), fun _ => ⟨.nil, fun a m => (nomatch m)⟩, fun a m => (nomatch m)⟩ h
end
end Fd
namespace Fd
open PySem PySem.Spec PyProof.Rows L2

/-! ### a call -/
inductive Fit (env : List Sl) (any : Bool) : List Bool → List Ar → List Dv → Prop
  | nil : Fit env any [] [] []
  | val {d : Dv} {fl : Fl} {ms : List Bool} {rs : List Ar} {ds : List Dv} : (any = true → fl ≠ .view) → Fit env any ms rs ds → Fit env any (false :: ms) (.val d fl :: rs) (d :: ds)
  | slt {j : Nat} {s : Sl} {d : Dv} {ms : List Bool} {rs : List Ar} {ds : List Dv} : env[j]? = some s → s.hot = true → s.dv = some d → Fit env any ms rs ds → Fit env any (true :: ms) (.slt j :: rs) (d :: ds)
  | new {d : Dv} {ms : List Bool} {rs : List Ar} {ds : List Dv} : Fit env any ms rs ds → Fit env any (true :: ms) (.val d .fresh :: rs) (d :: ds)
theorem Fit.lens {env : List Sl} {any : Bool} {ms : List Bool} {rs : List Ar} {ds : List Dv} (h : Fit env any ms rs ds) : rs.length = ms.length ∧ ds.length = ms.length := by
  induction h with
  | nil => exact ⟨rfl, rfl⟩
  | val _ _ ih => exact ⟨congrArg (· + 1) ih.1, congrArg (· + 1) ih.2⟩
  | slt _ _ _ _ ih => exact ⟨congrArg (· + 1) ih.1, congrArg (· + 1) ih.2⟩
  | new _ ih => exact ⟨congrArg (· + 1) ih.1, congrArg (· + 1) ih.2⟩
theorem Fit.get {env : List Sl} {any : Bool} {ms : List Bool} {rs : List Ar} {ds : List Dv} (h : Fit env any ms rs ds) : ∀ (i : Nat) (m : Bool), ms[i]? = some m → ∃ r d, rs[i]? = some r ∧ ds[i]? = some d ∧
    ((m = false ∧ ∃ fl, r = .val d fl ∧ (any = true → fl ≠ .view)) ∨ (m = true ∧ ∃ j s, r = .slt j ∧ env[j]? = some s ∧ s.hot = true ∧ s.dv = some d) ∨ (m = true ∧ r = .val d .fresh)) := by
  induction h with
  | nil => intro i m e; simp at e
  | @val d fl ms rs ds c _ ih =>
    intro i m e
    cases i with
    | zero => simp at e; subst e; exact ⟨_, _, rfl, rfl, .inl ⟨rfl, fl, rfl, c⟩⟩
    | succ i => exact ih i m (by simpa using e)
  | @slt j s d ms rs ds c1 c2 c3 _ ih =>
    intro i m e
    cases i with
    | zero => simp at e; subst e; exact ⟨_, _, rfl, rfl, .inr (.inl ⟨rfl, j, s, rfl, c1, c2, c3⟩)⟩
    | succ i => exact ih i m (by simpa using e)
  | @new d ms rs ds _ ih =>
    intro i m e
    cases i with
    | zero => simp at e; subst e; exact ⟨_, _, rfl, rfl, .inr (.inr ⟨rfl, rfl⟩)⟩
    | succ i => exact ih i m (by simpa using e)
def slots : List Ar → List Nat
  | [] => []
  | .slt j :: r => j :: slots r
  | .val _ _ :: r => slots r
theorem slots_mem : ∀ {rs : List Ar} {i j : Nat}, rs[i]? = some (.slt j) → j ∈ slots rs
  | [], i, j, h => by simp at h
  | .slt k :: r, 0, j, h => by simp at h; subst h; exact List.mem_cons_self
  | .val _ _ :: r, 0, j, h => by simp at h
  | .slt k :: r, i + 1, j, h => List.mem_cons_of_mem _ (slots_mem (by simpa using h))
  | .val _ _ :: r, i + 1, j, h => slots_mem (rs := r) (i := i) (by simpa using h)
theorem slots_inj : ∀ {rs : List Ar} {i i' j : Nat}, (slots rs).Nodup → rs[i]? = some (.slt j) → rs[i']? = some (.slt j) → i = i'
  | [], i, i', j, _, h, _ => by simp at h
  | .slt k :: r, 0, 0, j, _, _, _ => rfl
  | .slt k :: r, 0, i' + 1, j, n, h, h' => by
    simp at h; subst h
    exact absurd (slots_mem (rs := r) (i := i') (by simpa using h')) (List.nodup_cons.mp n).1
  | .slt k :: r, i + 1, 0, j, n, h, h' => by
    simp at h'; subst h'
    exact absurd (slots_mem (rs := r) (i := i) (by simpa using h)) (List.nodup_cons.mp n).1
  | .slt k :: r, i + 1, i' + 1, j, n, h, h' => congrArg (· + 1) (slots_inj (rs := r) (List.nodup_cons.mp n).2 (by simpa using h) (by simpa using h'))
  | .val _ _ :: r, 0, i', j, _, h, _ => by simp at h
  | .val _ _ :: r, i + 1, 0, j, _, _, h => by simp at h
  | .val _ _ :: r, i + 1, i' + 1, j, n, h, h' => congrArg (· + 1) (slots_inj (rs := r) n (by simpa using h) (by simpa using h'))
def putS (env : List Sl) (j : Nat) (d : Dv) : List Sl := match env[j]? with
  | some s => env.set j (s.put d)
  | none => env
/-- the slots behind a call -/
def upds : List Ar → List Dv → List Sl → List Sl
  | .slt j :: rs, d :: ds, env => upds rs ds (putS env j d)
  | .val _ _ :: rs, _ :: ds, env => upds rs ds env
  | _, _, env => env
theorem putS_ne {env : List Sl} {j k : Nat} {d : Dv} (h : k ≠ j) : (putS env j d)[k]? = env[k]? := by
  unfold putS
  split
  · exact List.getElem?_set_ne (Ne.symm h)
  · rfl
theorem putS_at {env : List Sl} {j : Nat} {d : Dv} {s : Sl} (h : env[j]? = some s) : (putS env j d)[j]? = some (s.put d) := by
  unfold putS
  rw [h]
  exact List.getElem?_set_self (List.getElem?_eq_some_iff.mp h).1
theorem putS_len {env : List Sl} {j : Nat} {d : Dv} : (putS env j d).length = env.length := by
  unfold putS
  split
  · exact List.length_set
  · rfl
theorem upds_len : ∀ {rs : List Ar} {ds : List Dv} {env : List Sl}, (upds rs ds env).length = env.length
  | .slt j :: rs, d :: ds, env => (upds_len (rs := rs) (ds := ds)).trans putS_len
  | .val _ _ :: rs, _ :: ds, env => upds_len (rs := rs) (ds := ds)
  | [], _, _ => rfl
  | .slt _ :: _, [], _ => rfl
  | .val _ _ :: _, [], _ => rfl
theorem upds_out : ∀ {rs : List Ar} {ds : List Dv} {env : List Sl} {k : Nat}, k ∉ slots rs → (upds rs ds env)[k]? = env[k]?
  | .slt j :: rs, d :: ds, env, k, h => by
    have h' : ¬ (k = j ∨ k ∈ slots rs) := fun z => h (List.mem_cons.mpr z)
    exact (upds_out (rs := rs) (ds := ds) fun z => h' (.inr z)).trans (putS_ne fun z => h' (.inl z))
  | .val _ _ :: rs, _ :: ds, env, k, h => upds_out (rs := rs) (ds := ds) h
  | [], _, _, _, _ => rfl
  | .slt _ :: _, [], _, _, _ => rfl
  | .val _ _ :: _, [], _, _, _ => rfl
theorem upds_at : ∀ {rs : List Ar} {ds : List Dv} {env : List Sl} {i j : Nat} {s : Sl} {d : Dv}, (slots rs).Nodup → rs[i]? = some (.slt j) → ds[i]? = some d → env[j]? = some s → (upds rs ds env)[j]? = some (s.put d)
  | [], _, _, i, j, s, d, _, h, _, _ => by simp at h
  | .slt k :: rs, [], env, i, j, s, d, _, _, h, _ => by simp at h
  | .val _ _ :: rs, [], env, i, j, s, d, _, _, h, _ => by simp at h
  | .slt k :: rs, d' :: ds, env, 0, j, s, d, n, h, h', e => by
    simp at h h'; subst h; subst h'
    exact (upds_out (rs := rs) (ds := ds) (List.nodup_cons.mp n).1).trans (putS_at e)
  | .slt k :: rs, d' :: ds, env, i + 1, j, s, d, n, h, h', e => by
    have h1 : rs[i]? = some (.slt j) := by simpa using h
    have ne : j ≠ k := fun z => (List.nodup_cons.mp n).1 (z ▸ slots_mem h1)
    exact upds_at (rs := rs) (ds := ds) (i := i) (List.nodup_cons.mp n).2 h1 (by simpa using h') ((putS_ne ne).trans e)
  | .val _ _ :: rs, d' :: ds, env, 0, j, s, d, n, h, h', e => by simp at h
  | .val _ _ :: rs, d' :: ds, env, i + 1, j, s, d, n, h, h', e => upds_at (rs := rs) (ds := ds) (i := i) n (by simpa using h) (by simpa using h') e
/-- the flag of a call's value -/
def anyView : List Ar → Bool
  | [] => false
  | .val _ .view :: _ => true
  | _ :: r => anyView r
theorem anyView_no : ∀ {rs : List Ar} {i : Nat} {d : Dv} {fl : Fl}, anyView rs = false → rs[i]? = some (.val d fl) → fl ≠ .view
  | [], i, d, fl, _, h => by simp at h
  | .val d' .view :: r, i, d, fl, n, _ => by cases n
  | .val d' .cold :: r, 0, d, fl, n, h => by simp at h; rw [← h.2]; exact fun z => nomatch z
  | .val d' .fresh :: r, 0, d, fl, n, h => by simp at h; rw [← h.2]; exact fun z => nomatch z
  | .slt j :: r, 0, d, fl, n, h => by simp at h
  | .val d' .cold :: r, i + 1, d, fl, n, h => anyView_no (rs := r) (i := i) n (by simpa using h)
  | .val d' .fresh :: r, i + 1, d, fl, n, h => anyView_no (rs := r) (i := i) n (by simpa using h)
  | .slt j :: r, i + 1, d, fl, n, h => anyView_no (rs := r) (i := i) n (by simpa using h)
def flc (rs : List Ar) (fl : Fl) : Fl := match fl with
  | .fresh => .fresh
  | _ => if anyView rs = true then .view else .cold
def noHot (ms : List Bool) : Bool := ms.all (!·)
theorem noHot_no {ms : List Bool} (h : noHot ms = true) (i : Nat) : ms[i]? ≠ some true := fun z => by
  have := List.all_eq_true.mp h true (List.mem_of_getElem? z)
  cases this
def posOf : List Ar → Nat → Option Nat
  | [], _ => none
  | .slt k :: r, j => if j = k then some 0 else (posOf r j).map (· + 1)
  | .val _ _ :: r, j => (posOf r j).map (· + 1)
theorem posOf_some : ∀ {rs : List Ar} {j i : Nat}, posOf rs j = some i → rs[i]? = some (.slt j)
  | [], j, i, h => by cases h
  | .slt k :: r, j, i, h => by
    unfold posOf at h
    by_cases e : j = k
    · rw [if_pos e] at h; cases h; rw [e]; rfl
    · rw [if_neg e] at h
      obtain ⟨i', h1, rfl⟩ := Option.map_eq_some_iff.mp h
      simpa using posOf_some h1
  | .val _ _ :: r, j, i, h => by
    unfold posOf at h
    obtain ⟨i', h1, rfl⟩ := Option.map_eq_some_iff.mp h
    simpa using posOf_some h1
theorem posOf_none : ∀ {rs : List Ar} {j : Nat}, posOf rs j = none → j ∉ slots rs
  | [], j, h => fun z => (nomatch z)
  | .slt k :: r, j, h => by
    unfold posOf at h
    by_cases e : j = k
    · rw [if_pos e] at h; cases h
    · rw [if_neg e] at h
      have h1 := posOf_none (Option.map_eq_none_iff.mp h)
      exact fun z => (List.mem_cons.mp z).elim e h1
  | .val _ _ :: r, j, h => posOf_none (rs := r) (Option.map_eq_none_iff.mp h)
section
variable {K : PySem.W.Frag} {B : Bs} {env env1 : List Sl} {σ : L2.St} {H H1 : Hp} {G G1 : Nat → List Addr} {ms : List Bool} {run : Fs} {rs : List Ar} {ds : List Dv} {vs : List V} {Gvs : List (List Addr)} {pu : Bool}
def gArg (rs : List Ar) (G1 : Nat → List Addr) (Gvs : List (List Addr)) (i : Nat) : List Addr := match rs[i]? with
  | some (.slt j) => G1 j
  | some (.val _ _) => Gvs.getD i []
  | none => []
theorem args_dj {H0 H : Hp} {Gs : Nat → List Addr} {G : Nat → List Addr} {vs : List V} {rs : List Ar} {Gvs : List (List Addr)} (h : Args K H0 Gs H σ env G vs rs Gvs) : ∀ (i k : Nat), i < k → ∀ (r r' : Ar) (Gv Gv' : List Addr), rs[i]? = some r → rs[k]? = some r' → Gvs[i]? = some Gv → Gvs[k]? = some Gv' →
    (r.fr = true ∨ r'.fr = true) → ∀ a ∈ Gv, a ∉ Gv' := by
  induction h with
  | nil => intro i k _ r r' Gv Gv' e; simp at e
  | cons h1 dj _ ih =>
    intro i k lt r r' Gv Gv' e1 e2 e3 e4 hf
    cases k with
    | zero => omega
    | succ k =>
      cases i with
      | zero =>
        simp at e1 e3
        subst e1 e3
        exact dj k r' Gv' (by simpa using e2) (by simpa using e4) hf
      | succ i => exact ih i k (by omega) r r' Gv Gv' (by simpa using e1) (by simpa using e2) (by simpa using e3) (by simpa using e4) hf
theorem put_dv {s : Sl} (d : Dv) : (s.put d).dv = some d := by cases s <;> rfl
theorem call_core (e : EnvR K B σ H env G) (s : Se K B σ env G H pu env1 G1 H1) (ar : Args K H G H1 σ env1 G1 vs rs Gvs) (ft : Fit env1 (!noHot ms) ms rs ds) (nd : (slots rs).Nodup) {P : Dv → Fl → Bool → List Sl → Prop} {Q : VK} {E : XK}
    (hrun : run ds fun d fl ds' => P d (flc rs fl) (pu && noHot ms) (upds rs ds' env1))
    (q : ∀ v H' d fl pu env' G' Gv, Se K B σ env G H pu env' G' H' → Rep K H' v d Gv → Vf H G env' G' H' fl Gv → P d fl pu env' → Q v H') : spD K ms run vs H1 Q E := by
  obtain ⟨l1, l2⟩ := ft.lens
  have lv : vs.length = ms.length := by rw [ar.lenV]; exact l1
  have back : ∀ a, H1 a = none → H a = none := s.mv.stp.al
  -- what stands at a place
  have at_ : ∀ i m, ms[i]? = some m → ∃ v d, vs[i]? = some v ∧ ds[i]? = some d ∧ Rep K H1 v d (gArg rs G1 Gvs i) ∧
      ((m = false ∧ ∃ fl, rs[i]? = some (.val d fl) ∧ (noHot ms = false → fl ≠ .view) ∧ Vf H G env1 G1 H1 fl (gArg rs G1 Gvs i)) ∨ (m = true ∧ ∃ j sl, rs[i]? = some (.slt j) ∧ env1[j]? = some sl ∧ sl.hot = true ∧ gArg rs G1 Gvs i = G1 j ∧ σ[j]? = some (some v)) ∨ (m = true ∧ rs[i]? = some (.val d .fresh) ∧ Vf H G env1 G1 H1 .fresh (gArg rs G1 Gvs i))) := fun i m hm => by
    obtain ⟨r, d, hr, hd, k⟩ := ft.get i m hm
    obtain ⟨v, Gv, hv, hg, ok⟩ := ar.get i r hr
    refine ⟨v, d, hv, hd, ?_⟩
    rcases k with ⟨hm, fl, rfl, c⟩ | ⟨hm, j, sl, rfl, c1, c2, c3⟩ | ⟨hm, rfl⟩
    · have hG : gArg rs G1 Gvs i = Gv := by unfold gArg; rw [hr]; show Gvs.getD i [] = Gv; rw [List.getD_eq_getElem?_getD, hg]; rfl
      rw [hG]
      exact ⟨ok.1, .inl ⟨hm, fl, hr, fun z => c (by rw [z]; rfl), ok.2⟩⟩
    · have hG : gArg rs G1 Gvs i = G1 j := by unfold gArg; rw [hr]
      obtain ⟨v', hv', r'⟩ := s.er.rep j sl d c1 c3
      have : v' = v := by
        have := hv'.symm.trans ok.1
        cases this; rfl
      subst this
      rw [hG]
      exact ⟨r', .inr (.inl ⟨hm, j, sl, hr, c1, c2, rfl, ok.1⟩)⟩
    · have hG : gArg rs G1 Gvs i = Gv := by unfold gArg; rw [hr]; show Gvs.getD i [] = Gv; rw [List.getD_eq_getElem?_getD, hg]; rfl
      rw [hG]
      exact ⟨ok.1, .inr (.inr ⟨hm, hr, ok.2⟩)⟩
  have out_ : ∀ i, ms[i]? = none → gArg rs G1 Gvs i = [] := fun i h => by
    have : rs[i]? = none := by
      rw [List.getElem?_eq_none_iff] at h ⊢; omega
    unfold gArg; rw [this]
  have al : ∀ i a, a ∈ gArg rs G1 Gvs i → ∃ o, H1 a = some o := fun i a m => by
    cases h : ms[i]? with
    | none => rw [out_ i h] at m; cases m
    | some b =>
      obtain ⟨v, d, _, _, r, _⟩ := at_ i b h
      exact r.alloc a m
  have gval : ∀ i d fl, rs[i]? = some (.val d fl) → Gvs[i]? = some (gArg rs G1 Gvs i) := fun i d fl hr => by
    obtain ⟨v, Gv, hv, hg, ok⟩ := ar.get i _ hr
    rw [hg]; unfold gArg; rw [hr]; show some Gv = some (Gvs.getD i []); rw [List.getD_eq_getElem?_getD, hg]; rfl
  have apart : ∀ i k a, i ≠ k → ms[i]? = some true → a ∈ gArg rs G1 Gvs i → a ∉ gArg rs G1 Gvs k := fun i k a n hi ma mk => by
    have hot : noHot ms = false := by
      cases h : noHot ms with
      | false => rfl
      | true => exact absurd hi (noHot_no h i)
    cases hk : ms[k]? with
    | none => rw [out_ k hk] at mk; cases mk
    | some b =>
      obtain ⟨_, _, _, _, _, ki⟩ := at_ i true hi
      obtain ⟨_, _, _, _, _, kk⟩ := at_ k b hk
      rcases ki with ⟨z, _⟩ | ⟨_, j, sl, hr, c1, c2, hG, _⟩ | ⟨_, hr, f⟩
      · cases z
      · rw [hG] at ma
        rcases kk with ⟨_, fl, hr2, c, f2⟩ | ⟨_, j2, sl2, hr2, d1, d2, hG2, _⟩ | ⟨_, hr2, f2⟩
        · exact f2.cold (c hot) a mk ⟨j, sl, c1, c2, ma⟩
        · rw [hG2] at mk
          have nj : j ≠ j2 := fun z => n (slots_inj nd hr (z ▸ hr2))
          exact s.er.dis j j2 sl a nj c1 c2 ma mk
        · exact ((f2.fr rfl).2 a mk).1.2 ⟨j, ma⟩
      · rcases kk with ⟨_, fl, hr2, c, f2⟩ | ⟨_, j2, sl2, hr2, d1, d2, hG2, _⟩ | ⟨_, hr2, f2⟩
        · rcases Nat.lt_or_gt_of_ne n with lt | gt
          · exact args_dj ar i k lt _ _ _ _ hr hr2 (gval i _ _ hr) (gval k _ _ hr2) (.inl rfl) a ma mk
          · exact args_dj ar k i gt _ _ _ _ hr2 hr (gval k _ _ hr2) (gval i _ _ hr) (.inr rfl) a mk ma
        · rw [hG2] at mk
          exact ((f.fr rfl).2 a ma).1.2 ⟨j2, mk⟩
        · rcases Nat.lt_or_gt_of_ne n with lt | gt
          · exact args_dj ar i k lt _ _ _ _ hr hr2 (gval i _ _ hr) (gval k _ _ hr2) (.inl rfl) a ma mk
          · exact args_dj ar k i gt _ _ _ _ hr2 hr (gval k _ _ hr2) (gval i _ _ hr) (.inr rfl) a mk ma
  -- the slot of a place
  have slt_ : ∀ i j, rs[i]? = some (.slt j) → ms[i]? = some true ∧ ∃ sl, env1[j]? = some sl ∧ sl.hot = true ∧ gArg rs G1 Gvs i = G1 j ∧ ∃ v d, vs[i]? = some v ∧ σ[j]? = some (some v) := fun i j hr => by
    have lt : i < ms.length := by
      have := (List.getElem?_eq_some_iff.mp hr).1; omega
    obtain ⟨v, d, hv, hd, _, k⟩ := at_ i ms[i] (List.getElem?_eq_getElem lt)
    rcases k with ⟨hm, fl, hr2, _⟩ | ⟨hm, j2, sl, hr2, c1, c2, hG, hs⟩ | ⟨hm, hr2, _⟩
    · rw [hr] at hr2; cases hr2
    · rw [hr] at hr2; cases hr2
      exact ⟨by rw [List.getElem?_eq_getElem lt, hm], sl, c1, c2, hG, v, d, hv, hs⟩
    · rw [hr] at hr2; cases hr2
  -- what may change in the call
  have hotA : ∀ a, HotA ms (gArg rs G1 Gvs) a → (∃ (i j : Nat) (sl : Sl), rs[i]? = some (.slt j) ∧ env1[j]? = some sl ∧ sl.hot = true ∧ a ∈ G1 j) ∨ (H a = none ∧ ¬ All G1 a) := fun a ⟨i, hi, m⟩ => by
    obtain ⟨_, _, _, _, _, k⟩ := at_ i true hi
    rcases k with ⟨z, _⟩ | ⟨_, j, sl, hr, c1, c2, hG, _⟩ | ⟨_, hr, f⟩
    · cases z
    · rw [hG] at m; exact .inl ⟨i, j, sl, hr, c1, c2, m⟩
    · exact .inr ((f.fr rfl).2 a m).1
  refine ⟨ds, gArg rs G1 Gvs, _, lv, l2, ⟨?_, fun i sl d h1 h2 => ?_, fun i h => ?_, fun i sl h1 h2 => ?_, fun i j sl a n h1 h2 m => ?_, fun i d h => rfl, fun i d a h m => ?_, fun a h => h, fun i a m => .inl ⟨i, m⟩, fun i d a h m => .inl m, fun i sl a h1 h2 m => ?_, fun i h => ?_⟩, hrun, fun v H2 d fl ds' Ga Gv pf hP => ?_⟩
  · rw [List.length_map, argEnv_len l2]; exact lv
  · have lt : i < ms.length := by
      have := (List.getElem?_eq_some_iff.mp h1).1
      rw [argEnv_len l2] at this; exact this
    obtain ⟨v, d', hv, hd, r, _⟩ := at_ i ms[i] (List.getElem?_eq_getElem lt)
    rw [argEnv_get i l2, List.getElem?_eq_getElem lt, hd] at h1
    have : d' = d := by
      cases h1
      cases hb : ms[i] <;> (rw [hb] at h2; cases h2; rfl)
    subst this
    exact ⟨v, by rw [List.getElem?_map, hv]; rfl, r⟩
  · cases hm : ms[i]? with
    | none => exact out_ i hm
    | some b =>
      obtain ⟨v, d', hv, hd, _⟩ := at_ i b hm
      rw [argEnv_get i l2, hm, hd] at h
      cases b <;> (rcases h with h | h <;> cases h)
  · cases hm : ms[i]? with
    | none => rw [out_ i hm]; exact .nil
    | some b =>
      obtain ⟨v, d', hv, hd, _, k⟩ := at_ i b hm
      rw [argEnv_get i l2, hm, hd] at h1
      rcases k with ⟨hb, _⟩ | ⟨_, j, sl2, hr, c1, c2, hG, _⟩ | ⟨_, hr, f⟩
      · subst hb; cases h1; cases h2
      · rw [hG]; exact s.er.nod j sl2 c1 c2
      · exact (f.fr rfl).1
  · have hi : ms[i]? = some true := by
      have lt : i < ms.length := by
        have := (List.getElem?_eq_some_iff.mp h1).1
        rw [argEnv_len l2] at this; exact this
      rw [argEnv_get i l2, List.getElem?_eq_getElem lt, List.getElem?_eq_getElem (by omega : i < ds.length)] at h1
      rw [List.getElem?_eq_getElem lt]
      cases hb : ms[i] with
      | true => rfl
      | false => rw [hb] at h1; cases h1; cases h2
    exact apart i j a n hi m
  · have lt : i < ms.length := by
      have := (List.getElem?_eq_some_iff.mp h).1
      rw [argEnv_len l2] at this; exact this
    rw [argEnv_get i l2, List.getElem?_eq_getElem lt, List.getElem?_eq_getElem (by omega : i < ds.length)] at h
    cases hb : ms[i] <;> (rw [hb] at h; cases h)
  · cases hm : ms[i]? with
    | none => rw [out_ i hm] at m; cases m
    | some b =>
      obtain ⟨v, d', hv, hd, _, k⟩ := at_ i b hm
      rw [argEnv_get i l2, hm, hd] at h1
      rcases k with ⟨hb, _⟩ | ⟨_, j, sl2, hr, c1, c2, hG, _⟩ | ⟨_, hr, f⟩
      · subst hb; cases h1; cases h2
      · rw [hG] at m; exact s.er.mu j sl2 a c1 c2 m
      · exact ((f.fr rfl).2 a m).2
  · have lt : i < ms.length := (List.getElem?_eq_some_iff.mp h).1
    refine ⟨ds[i]'(by omega), ?_⟩
    rw [argEnv_get i l2, h, List.getElem?_eq_getElem (by omega : i < ds.length)]; rfl
  -- behind the call
  have gN : ∀ j, posOf rs j = none → (upds rs ds' env1)[j]? = env1[j]? := fun j h => upds_out (posOf_none h)
  have gS : ∀ j i, posOf rs j = some i → ∃ sl d', env1[j]? = some sl ∧ sl.hot = true ∧ (upds rs ds' env1)[j]? = some (sl.put d') ∧ ms[i]? = some true ∧ gArg rs G1 Gvs i = G1 j ∧ ∃ v, σ[j]? = some (some v) ∧ Rep K H2 v d' (Ga i) := fun j i h => by
    obtain ⟨hm, sl, c1, c2, hG, v, _, hv, hs⟩ := slt_ i j (posOf_some h)
    obtain ⟨v', d', hv', hd', r'⟩ := pf.ho i hm
    rw [hv] at hv'; cases hv'
    exact ⟨sl, d', c1, c2, upds_at nd (posOf_some h) hd' c1, hm, hG, v, hs, r'⟩
  generalize hG2 : (fun j => match posOf rs j with | some i => Ga i | none => G1 j) = G2
  have g2N : ∀ j, posOf rs j = none → G2 j = G1 j := fun j h => by rw [← hG2]; show (match posOf rs j with | some i => Ga i | none => G1 j) = G1 j; rw [h]
  have g2S : ∀ j i, posOf rs j = some i → G2 j = Ga i := fun j i h => by rw [← hG2]; show (match posOf rs j with | some i => Ga i | none => G1 j) = Ga i; rw [h]
  generalize he2 : upds rs ds' env1 = env2 at gN gS hP
  have len2 : env2.length = env1.length := by rw [← he2]; exact upds_len
  -- what hangs on a slot now hung on it, or is new
  have from_ : ∀ j a, a ∈ G2 j → a ∈ G1 j ∨ H1 a = none := fun j a m => by
    cases h : posOf rs j with
    | none => rw [g2N j h] at m; exact .inl m
    | some i =>
      rw [g2S j i h] at m
      obtain ⟨sl, d', c1, c2, _, hm, hG, _⟩ := gS j i h
      rcases pf.c1 i a hm m with z | z
      · rw [hG] at z; exact .inl z
      · exact .inr z
  -- the kind of a slot
  have kind : ∀ (j : Nat) (sl2 : Sl), env2[j]? = some sl2 → ∃ sl : Sl, env1[j]? = some sl ∧ sl.hot = sl2.hot ∧ (∀ d, sl2 = .pi d → ∃ d', sl = .pi d') ∧ (∀ d, sl2 = .ho d → ∃ d', sl = .ho d') := fun j sl2 h2 => by
    cases h : posOf rs j with
    | none =>
      rw [gN j h] at h2
      exact ⟨sl2, h2, rfl, fun d z => ⟨d, z⟩, fun d z => ⟨d, z⟩⟩
    | some i =>
      obtain ⟨sl, d', c1, c2, e2, _⟩ := gS j i h
      rw [e2] at h2; cases h2
      refine ⟨sl, c1, ?_, fun d z => ?_, fun d z => ?_⟩
      · rw [c2, Sl.put_hot c2]
      · cases sl <;> first | exact ⟨_, rfl⟩ | cases z
      · cases sl with
        | no => cases c2
        | co d => cases c2
        | ho d => exact ⟨_, rfl⟩
        | pi d => cases z
  have alive1 : ∀ j a, a ∈ G1 j → H1 a ≠ none := fun j a m z => by
    obtain ⟨o, k⟩ := s.er.alloc m
    rw [z] at k; cases k
  have er2 : EnvR K B σ H2 env2 G2 := by
    refine ⟨s.er.len.trans len2.symm, fun j sl d h1 h2 => ?_, fun j h => ?_, fun j sl h1 h2 => ?_, fun j k sl a n h1 h2 m => ?_, fun j d h => ?_, fun j d a h m => ?_, fun a h => s.er.he a (pf.stp.al a h), fun j a m => ?_, fun j d a h m => ?_, fun j sl a h1 h2 m => ?_, fun j h => ?_⟩
    · cases h : posOf rs j with
      | none =>
        rw [gN j h] at h1
        obtain ⟨v, hv, r⟩ := s.er.rep j sl d h1 h2
        rw [g2N j h]
        refine ⟨v, hv, r.step pf.stp fun a m z => ?_⟩
        rcases hotA a z with ⟨i, j2, sl2, hr, c1, c2, m2⟩ | ⟨_, na⟩
        · have nj : j2 ≠ j := fun z => by
            subst z
            exact posOf_none h (slots_mem hr)
          exact s.er.dis j2 j sl2 a nj c1 c2 m2 m
        · exact na ⟨j, m⟩
      | some i =>
        obtain ⟨sl0, d', c1, c2, e2, hm, hG, v, hv, r⟩ := gS j i h
        rw [e2] at h1; cases h1
        rw [put_dv] at h2; cases h2
        rw [g2S j i h]
        exact ⟨v, hv, r⟩
    · cases h' : posOf rs j with
      | none => rw [gN j h'] at h; rw [g2N j h']; exact s.er.non j h
      | some i =>
        obtain ⟨sl0, d', c1, c2, e2, _⟩ := gS j i h'
        rcases h with h | h
        · rw [e2] at h
          cases sl0 with
          | no => cases c2
          | co d => cases c2
          | ho d =>
            have h : some (Sl.ho d') = some Sl.no := h
            cases h
          | pi d =>
            have h : some (Sl.pi d') = some Sl.no := h
            cases h
        · rw [e2] at h; cases h
    · cases h : posOf rs j with
      | none =>
        rw [gN j h] at h1; rw [g2N j h]
        exact s.er.nod j sl h1 h2
      | some i =>
        obtain ⟨_, _, _, _, _, hm, _⟩ := gS j i h
        rw [g2S j i h]; exact pf.nod i hm
    · intro m'
      obtain ⟨sl0, k1, k2, _⟩ := kind j sl h1
      rw [h2] at k2
      cases hj : posOf rs j with
      | some i =>
        cases hk : posOf rs k with
        | some i2 =>
          obtain ⟨_, _, _, _, _, hm, _⟩ := gS j i hj
          obtain ⟨_, _, _, _, _, hm2, _⟩ := gS k i2 hk
          rw [g2S j i hj] at m
          rw [g2S k i2 hk] at m'
          have : i ≠ i2 := fun z => by
            subst z
            have a1 := posOf_some hj
            rw [posOf_some hk] at a1
            cases a1; exact n rfl
          exact pf.dis i i2 a this hm hm2 m m'
        | none =>
          rw [g2N k hk] at m'
          rcases from_ j a m with z | z
          · exact s.er.dis j k sl0 a n k1 k2 z m'
          · exact alive1 k a m' z
      | none =>
        rw [g2N j hj] at m
        rcases from_ k a m' with z | z
        · exact s.er.dis j k sl0 a n k1 k2 m z
        · exact alive1 j a m z
    · obtain ⟨sl0, k1, _, k3, _⟩ := kind j _ h
      obtain ⟨d', k3⟩ := k3 d rfl
      subst k3
      exact s.er.pin j d' k1
    · obtain ⟨sl0, k1, _, _, k4⟩ := kind j _ h
      obtain ⟨d', k4⟩ := k4 d rfl
      subst k4
      rcases from_ j a m with z | z
      · exact s.er.loc j d' a k1 z
      · exact s.er.he a z
    · rcases from_ j a m with z | z
      · exact s.er.org j a z
      · exact .inr (s.er.he a z)
    · obtain ⟨sl0, k1, _, k3, _⟩ := kind j _ h
      obtain ⟨d', k3⟩ := k3 d rfl
      subst k3
      rcases from_ j a m with z | z
      · exact s.er.pc j d' a k1 z
      · exact .inr (s.er.he a z)
    · cases h : posOf rs j with
      | none =>
        rw [gN j h] at h1; rw [g2N j h] at m
        obtain ⟨o, k, mm⟩ := s.er.mu j sl a h1 h2 m
        refine ⟨o, pf.stp.keep a o k fun _ z => ?_, mm⟩
        rcases hotA a z with ⟨i, j2, sl2, hr, c1, c2, m2⟩ | ⟨_, na⟩
        · have nj : j2 ≠ j := fun z => by
            subst z
            exact posOf_none h (slots_mem hr)
          exact s.er.dis j2 j sl2 a nj c1 c2 m2 m
        · exact na ⟨j, m⟩
      | some i =>
        obtain ⟨_, _, _, _, _, hm, _⟩ := gS j i h
        rw [g2S j i h] at m
        exact pf.mu i a hm m
    · obtain ⟨d, h1⟩ := s.er.kp j h
      cases hj : posOf rs j with
      | none => exact ⟨d, by rw [gN j hj]; exact h1⟩
      | some i =>
        obtain ⟨sl0, d', c1, c2, e2, _⟩ := gS j i hj
        rw [h1] at c1; cases c1
        exact ⟨d', e2⟩
  have hot2 : ∀ a, Hot env2 G2 a → Hot env1 G1 a ∨ H1 a = none := fun a ⟨j, sl, h1, h2, m⟩ => by
    obtain ⟨sl0, k1, k2, _⟩ := kind j sl h1
    rcases from_ j a m with z | z
    · exact .inl ⟨j, sl0, k1, k2.trans h2, z⟩
    · exact .inr z
  have hotH : ∀ a, HotA ms (gArg rs G1 Gvs) a → Hot env G a ∨ H a = none := fun a z => by
    rcases hotA a z with ⟨i, j, sl, _, c1, c2, m⟩ | ⟨z, _⟩
    · exact s.mv.c1 a ⟨j, sl, c1, c2, m⟩
    · exact .inr z
  have se : Se K B σ env G H (pu && noHot ms) env2 G2 H2 := by
    refine ⟨⟨s.mv.stp.trans pf.stp hotH, fun a z => ?_⟩, fun a ⟨j, m⟩ => ?_, fun j sl h1 h2 => ?_, fun j sl h1 h2 => ?_, len2.trans s.ln, er2, fun hp => ?_⟩
    · rcases hot2 a z with z | z
      · exact s.mv.c1 a z
      · exact .inr (back a z)
    · rcases from_ j a m with z | z
      · exact s.c2 a ⟨j, z⟩
      · exact .inr (back a z)
    · obtain ⟨k1, k2⟩ := s.cs j sl h1 h2
      cases hj : posOf rs j with
      | none => exact ⟨by rw [gN j hj]; exact k1, by rw [g2N j hj]; exact k2⟩
      | some i =>
        obtain ⟨sl0, d', c1, c2, _⟩ := gS j i hj
        rw [k1] at c1; cases c1
        rw [h2] at c2; cases c2
    · obtain ⟨d, k1⟩ := s.hs j sl h1 h2
      cases hj : posOf rs j with
      | none => exact ⟨d, by rw [gN j hj]; exact k1⟩
      | some i =>
        obtain ⟨sl0, d', c1, c2, e2, _⟩ := gS j i hj
        rw [k1] at c1; cases c1
        rw [Sl.put_put] at e2
        exact ⟨d', e2⟩
    · obtain ⟨p1, p2⟩ := Bool.and_eq_true_iff.mp hp
      obtain ⟨q1, q2, q3⟩ := s.pr p1
      have nS : ∀ j, posOf rs j = none := fun j => by
        cases hj : posOf rs j with
        | none => rfl
        | some i =>
          obtain ⟨_, _, _, _, _, hm, _⟩ := gS j i hj
          exact absurd hm (noHot_no p2 i)
      refine ⟨q1.trans (pf.stp.to_same fun a ⟨i, hi, _⟩ => noHot_no p2 i hi), ?_, ?_⟩
      · rw [← q2]
        exact List.ext_getElem? fun j => gN j (nS j)
      · rw [← q3]
        exact funext fun j => g2N j (nS j)
  have alR : ∀ a ∈ Gv, H2 a ≠ none := fun a m z => by
    obtain ⟨o, k⟩ := pf.rep.alloc a m
    rw [z] at k; cases k
  refine q v H2 d (flc rs fl) _ env2 G2 Gv se pf.rep ⟨fun nv a m z => ?_, fun hf => ?_, fun a m => ?_⟩ hP
  · obtain ⟨j, sl, h1, h2, mj⟩ := z
    obtain ⟨sl0, k1, k2, _⟩ := kind j sl h1
    rw [h2] at k2
    cases hj : posOf rs j with
    | some i =>
      obtain ⟨_, _, _, _, _, hm, _⟩ := gS j i hj
      rw [g2S j i hj] at mj
      exact pf.cold a m ⟨i, hm, mj⟩
    | none =>
      rw [g2N j hj] at mj
      rcases pf.c3 a m with ⟨i, mi⟩ | z
      · cases hm : ms[i]? with
        | none => rw [out_ i hm] at mi; cases mi
        | some b =>
          obtain ⟨_, _, _, _, _, k⟩ := at_ i b hm
          rcases k with ⟨hb, fl', hr, c, f⟩ | ⟨_, j2, sl2, hr, c1, c2, hG, _⟩ | ⟨_, hr, f⟩
          · have hfl : fl = .fresh ∨ anyView rs = false := by
              cases hv : anyView rs with
              | false => exact .inr rfl
              | true =>
                left
                cases fl with
                | fresh => rfl
                | cold => exact absurd (show flc rs .cold = .view by unfold flc; simp only; rw [hv]; rfl) nv
                | view => exact absurd (show flc rs .view = .view by unfold flc; simp only; rw [hv]; rfl) nv
            rcases hfl with hfl | hfl
            · exact alive1 j a mj ((pf.fr hfl).2 a m).1
            · exact f.cold (anyView_no hfl hr) a mi ⟨j, sl0, k1, k2, mj⟩
          · rw [hG] at mi
            have nj : j2 ≠ j := fun z => by
              subst z
              exact posOf_none hj (slots_mem hr)
            exact s.er.dis j2 j sl2 a nj c1 c2 mi mj
          · exact ((f.fr rfl).2 a mi).1.2 ⟨j, mj⟩
      · exact alive1 j a mj z
  · have hfl : fl = .fresh := by
      cases fl with
      | fresh => rfl
      | cold => unfold flc at hf; simp only at hf; split at hf <;> cases hf
      | view => unfold flc at hf; simp only at hf; split at hf <;> cases hf
    obtain ⟨n, q⟩ := pf.fr hfl
    refine ⟨n, fun a m => ⟨⟨back a (q a m).1, fun ⟨j, mj⟩ => ?_⟩, (q a m).2⟩⟩
    cases hj : posOf rs j with
    | some i =>
      obtain ⟨_, _, _, _, _, hm, _⟩ := gS j i hj
      rw [g2S j i hj] at mj
      exact pf.cold a m ⟨i, hm, mj⟩
    | none =>
      rw [g2N j hj] at mj
      exact alive1 j a mj (q a m).1
  · rcases pf.c3 a m with ⟨i, mi⟩ | z
    · cases hm : ms[i]? with
      | none => rw [out_ i hm] at mi; cases mi
      | some b =>
        obtain ⟨_, _, _, _, _, k⟩ := at_ i b hm
        rcases k with ⟨hb, fl', hr, c, f⟩ | ⟨_, j2, sl2, hr, c1, c2, hG, _⟩ | ⟨_, hr, f⟩
        · exact f.c3 a mi
        · rw [hG] at mi; exact s.c2 a ⟨j2, mi⟩
        · exact f.c3 a mi
    · exact .inr (back a z)
/-- f(..) -/
theorem dt_call {sp : Sp} {E : XK} {tr : TA} {env : List Sl} {P : Dv → Fl → Bool → List Sl → Prop} (hsp : sp = spD K ms run)
    (h : DTA K B tr env fun rs pu env1 => ∃ ds, Fit env1 (!noHot ms) ms rs ds ∧ (slots rs).Nodup ∧ run ds fun d fl ds' => P d (flc rs fl) (pu && noHot ms) (upds rs ds' env1)) : DT K B (tCall sp [] E tr) env P := fun σ H G Q e q => by
  subst hsp
  refine h σ H G _ e fun vs H1 rs pu env1 G1 Gvs s ar ⟨ds, ft, nd, hrun⟩ => ?_
  show spD K ms run (vs ++ []) H1 Q E
  rw [List.append_nil]
  exact call_core e s ar ft nd hrun q
end
end Fd
namespace Fd
open PySem PySem.Spec PyProof.Rows L2

/-! ### operators of every kind -/
section
variable {X : Cx}
theorem PE_or {e : Expr} {t u : TE} (a : PE X e t) (b : PE X e u) : PE X e (fun σ H Q => t σ H Q ∨ u σ H Q) := ⟨fun pins s σ H Q I h => by
  rcases h with h | h
  · exact a.run pins s σ H Q I h
  · exact b.run pins s σ H Q I h⟩
theorem PT_or {e : Expr} {t u : TT} (a : PT X e t) (b : PT X e u) : PT X e (fun σ H Q => t σ H Q ∨ u σ H Q) := ⟨fun pins s σ H Q I h => by
  rcases h with h | h
  · exact a.run pins s σ H Q I h
  · exact b.run pins s σ H Q I h⟩
theorem PS_or {e : Stmt} {t u : TS} (a : PS X e t) (b : PS X e u) : PS X e (fun D σ H => t D σ H ∨ u D σ H) := ⟨fun pins s σ H Q I h => by
  rcases h with h | h
  · exact a.run pins s σ H Q I h
  · exact b.run pins s σ H Q I h⟩
theorem CallR_or {f : Value} {r r' : List V → Hp → VK → Prop} (h : CallR X f r) (h' : CallR X f r') : CallR X f (fun xs H Q => r xs H Q ∨ r' xs H Q) := by
  intro pins s σ H xs us Q I rx q
  rcases q with q | q
  · exact h pins s σ H xs us Q I rx q
  · exact h' pins s σ H xs us Q I rx q
theorem IxR_or {r r' : R2} (h : IxR X r) (h' : IxR X r') : IxR X (fun x y H Q => r x y H Q ∨ r' x y H Q) := h.or h'
theorem SlR_or {r r' : V → Option Int → Option Int → Hp → VK → Prop} (h : SlR X r) (h' : SlR X r') : SlR X (fun x l u H Q => r x l u H Q ∨ r' x l u H Q) := by
  intro pins s σ H x v vl vu lo hi sl Q I rx hs pl pu q
  rcases q with q | q
  · exact h pins s σ H x v vl vu lo hi sl Q I rx hs pl pu q
  · exact h' pins s σ H x v vl vu lo hi sl Q I rx hs pl pu q
end
section
variable {K : PySem.W.Frag} {H : Hp}
theorem OpD.or {r r' : R2} {nw : Bool} {f f' : Dv → Dv → Option Dv} (a : OpD K r nw f) (b : OpD K r' nw f') : OpD K (fun x y H Q => r x y H Q ∨ r' x y H Q) nw (fun d e => (f d e).or (f' d e)) := fun H x y d1 d2 d G1 G2 Q r1 r2 e q => by
  cases h : f d1 d2 with
  | some z =>
    have e : (f d1 d2).or (f' d1 d2) = some d := e
    rw [h] at e
    exact .inl (a H x y d1 d2 d G1 G2 Q r1 r2 (by rw [h]; exact e) q)
  | none =>
    have e : (f d1 d2).or (f' d1 d2) = some d := e
    rw [h] at e
    exact .inr (b H x y d1 d2 d G1 G2 Q r1 r2 (by exact e) q)
theorem ite_some {α : Type} {C : Prop} [Decidable C] {a b : α} (h : (if C then some a else none) = some b) : C ∧ a = b := by
  by_cases c : C
  · rw [if_pos c] at h; exact ⟨c, Option.some.inj h⟩
  · rw [if_neg c] at h; cases h
/-! scalars -/
def intOp (g : Int → Int → Dv) : Dv → Dv → Option Dv
  | .int a, .int b => some (g a b)
  | _, _ => none
def intOpC (C : Int → Int → Prop) [∀ a b, Decidable (C a b)] (g : Int → Int → Dv) : Dv → Dv → Option Dv
  | .int a, .int b => if C a b then some (g a b) else none
  | _, _ => none
theorem opD_int {g : Int → Int → V} {g' : Int → Int → Dv} (hr : ∀ i j H, Rep K H (g i j) (g' i j) []) {nw : Bool} : OpD K (rI0 g) nw (intOp g') := fun H x y d1 d2 d G1 G2 Q r1 r2 e q => by
  cases r1 <;> first | cases e | skip
  cases r2 <;> first | cases e | skip
  exact ⟨_, _, rfl, rfl, q _ H [] (.refl H) (hr _ _ H) (fun a m => (nomatch m)) fun _ _ => ⟨.nil, fun a m => (nomatch m)⟩⟩
theorem opD_intC {C : Int → Int → Prop} [∀ a b, Decidable (C a b)] {g : Int → Int → V} {g' : Int → Int → Dv} (hr : ∀ i j H, Rep K H (g i j) (g' i j) []) {nw : Bool} : OpD K (rI C g) nw (intOpC C g') := fun H x y d1 d2 d G1 G2 Q r1 r2 e q => by
  cases r1 with
  | int i =>
    cases r2 with
    | int j =>
      obtain ⟨hc, rfl⟩ := ite_some (C := C i j) e
      exact ⟨_, _, rfl, rfl, hc, q _ H [] (.refl H) (hr _ _ H) (fun a m => (nomatch m)) fun _ _ => ⟨.nil, fun a m => (nomatch m)⟩⟩
    | _ => cases e
  | _ => cases e
def strOp (g : Str → Str → Dv) : Dv → Dv → Option Dv
  | .str a, .str b => some (g a b)
  | _, _ => none
theorem opD_str {g : Str → Str → V} {g' : Str → Str → Dv} (hr : ∀ i j H, Rep K H (g i j) (g' i j) []) {nw : Bool} : OpD K (fun x y H Q => ∃ i j, x = .str i ∧ y = .str j ∧ Q (g i j) H) nw (strOp g') := fun H x y d1 d2 d G1 G2 Q r1 r2 e q => by
  cases r1 <;> first | cases e | skip
  cases r2 <;> first | cases e | skip
  exact ⟨_, _, rfl, rfl, q _ H [] (.refl H) (hr _ _ H) (fun a m => (nomatch m)) fun _ _ => ⟨.nil, fun a m => (nomatch m)⟩⟩
/-! + -/
def rAddA (K : PySem.W.Frag) : R2 := fun x y H Q => (rI0 fun i j => .int (i + j)) x y H Q ∨ (∃ i j, x = .str i ∧ y = .str j ∧ i.length + j.length ≤ sizeLine ∧ Q (.str (i ++ j)) H) ∨ rCat x y H Q ∨ rCatA K x y H Q
theorem op_addA {X : Cx} : OpR X (binaryOp .Add) (rAddA X.K) := op_add.or (op_add_str.or (op_cat.or op_catA))
def addD : Dv → Dv → Option Dv
  | .int a, .int b => some (.int (a + b))
  | .str a, .str b => if a.length + b.length ≤ sizeLine then some (.str (a ++ b)) else none
  | .lst a, .lst b => if a.length + b.length ≤ sizeLine then some (.lst (a ++ b)) else none
  | .tup a, .tup b => if a.length + b.length ≤ sizeLine then some (.tup (a ++ b)) else none
  | _, _ => none
theorem purs_app (a b : List Dv) : Dv.purs (a ++ b) = (Dv.purs a && Dv.purs b) := by
  rw [purs_all, purs_all, purs_all, List.all_append]
theorem opD_add : OpD K (rAddA K) true addD := fun H x y d1 d2 d G1 G2 Q r1 r2 e q => by
  cases r1 with
  | int i =>
    cases r2 with
    | int j =>
      cases e
      exact .inl ⟨_, _, rfl, rfl, q _ H [] (.refl H) (.int _) (fun a m => (nomatch m)) fun _ _ => ⟨.nil, fun a m => (nomatch m)⟩⟩
    | _ => cases e
  | str i =>
    cases r2 with
    | str j =>
      obtain ⟨hc, rfl⟩ := ite_some (C := i.length + j.length ≤ sizeLine) e
      exact .inr (.inl ⟨_, _, rfl, rfl, hc, q _ H [] (.refl H) (.str _) (fun a m => (nomatch m)) fun _ _ => ⟨.nil, fun a m => (nomatch m)⟩⟩)
    | _ => cases e
  | @lst a xs ds g ha ra =>
    cases r2 with
    | @lst b ys es g' hb rb =>
      obtain ⟨hc, rfl⟩ := ite_some (C := ds.length + es.length ≤ sizeLine) e
      refine .inr (.inr (.inl ⟨a, b, xs, ys, rfl, rfl, ha, hb, by rw [ra.len, rb.len]; exact hc, fun p hp => ?_⟩))
      have sm : Same H (upd H p (.lst (xs ++ ys))) := same_new hp
      refine q _ _ (p :: (g ++ g')) sm (.lst upd_same ((ra.app rb).step (M := fun _ => False) (.same sm) fun _ _ z => z)) (fun a m => ?_) (fun _ hs => ?_)
      · rcases List.mem_cons.mp m with rfl | m
        · exact .inr (.inr hp)
        · rcases List.mem_append.mp m with m | m
          · exact .inl (List.mem_cons_of_mem _ m)
          · exact .inr (.inl (List.mem_cons_of_mem _ m))
      · have hs : Dv.purs (ds ++ es) = true := hs
        have := (ra.app rb).purG hs
        rw [this]
        exact ⟨List.nodup_cons.mpr ⟨fun m => (nomatch m), .nil⟩, fun a m => by
          rcases List.mem_cons.mp m with rfl | m
          · exact ⟨hp, _, upd_same, True.intro⟩
          · cases m⟩
    | _ => cases e
  | @tup a xs ds g ha ra =>
    cases r2 with
    | @tup b ys es g' hb rb =>
      obtain ⟨hc, rfl⟩ := ite_some (C := ds.length + es.length ≤ sizeLine) e
      refine .inr (.inr (.inr ⟨a, b, xs, ys, rfl, rfl, ha, hb, by rw [ra.len, rb.len]; exact hc, fun h0 => ?_, fun h0 h1 => ?_, fun h0 h1 p hp => ?_⟩))
      · subst h0
        cases ra
        exact q _ H _ (.refl H) (.tup hb rb) (fun a m => .inr (.inl m)) fun _ hs => by
          rw [rb.purG hs]; exact ⟨.nil, fun a m => (nomatch m)⟩
      · subst h1
        cases rb
        refine q _ H _ (.refl H) ?_ (fun a m => .inl m) fun _ hs => ?_
        · rw [List.append_nil]; exact .tup ha ra
        · have hs : Dv.purs (ds ++ []) = true := hs
          rw [List.append_nil] at hs
          rw [ra.purG hs]; exact ⟨.nil, fun a m => (nomatch m)⟩
      · have sm : Same H (upd H p (.tup (xs ++ ys))) := same_new hp
        refine q _ _ _ sm (.tup (SqT.of upd_same) ((ra.app rb).step (M := fun _ => False) (.same sm) fun _ _ z => z)) (fun a m => ?_) (fun _ hs => ?_)
        · rcases List.mem_append.mp m with m | m
          · exact .inl m
          · exact .inr (.inl m)
        · have hs : Dv.purs (ds ++ es) = true := hs
          rw [(ra.app rb).purG hs]
          exact ⟨.nil, fun a m => (nomatch m)⟩
    | _ => cases e
  | _ => cases e
/-! x[i] -/
def rIxA (K : PySem.W.Frag) : R2 := rIx K
def ixD : Dv → Dv → Option Dv
  | .lst xs, .int i => atI xs i
  | .tup xs, .int i => atI xs i
  | .frl xs, .int i => (atI xs i).map .int
  | .str z, .int i => if z.length ≤ sizeLine then (atI z.cps.toList i).map fun c => .str ⟨#[c]⟩ else none
  | _, _ => none
theorem atI_get {α : Type} {xs : List α} {i : Int} {v : α} (h : atI xs i = some v) : ∃ j, ixN xs.length i = some j ∧ xs[j]? = some v := by
  unfold atI at h
  cases e : ixN xs.length i with
  | none => rw [e] at h; cases h
  | some j => rw [e] at h; exact ⟨j, rfl, h⟩
theorem atI_of {α : Type} {xs : List α} {i : Int} {v : α} {j : Nat} (h : ixN xs.length i = some j) (e : xs[j]? = some v) : atI xs i = some v := by
  unfold atI; rw [h]; exact e
theorem opD_ix : OpD K (rIx K) false ixD := fun H x y d1 d2 d G1 G2 Q r1 r2 e q => by
  cases r1 with
  | @lst a xs ds g ha ra =>
    cases r2 <;> first | cases e | skip
    obtain ⟨j, hj, hd⟩ := atI_get (show atI ds _ = some d from e)
    obtain ⟨v, G', hv, rv, m⟩ := ra.getD j d hd
    refine .inl ⟨a, xs, _, v, rfl, rfl, (SqL.of ha), atI_of (by rw [ra.len]; exact hj) hv, q v H G' (.refl H) rv (fun b k => .inl (List.mem_cons_of_mem _ (m b k))) (fun z => nomatch z)⟩
  | @tup a xs ds g ha ra =>
    cases r2 <;> first | cases e | skip
    obtain ⟨j, hj, hd⟩ := atI_get (show atI ds _ = some d from e)
    obtain ⟨v, G', hv, rv, m⟩ := ra.getD j d hd
    refine .inr (.inl ⟨a, xs, _, v, rfl, rfl, ha, atI_of (by rw [ra.len]; exact hj) hv, q v H G' (.refl H) rv (fun b k => .inl (m b k)) (fun z => nomatch z)⟩)
  | @frl a ns h =>
    cases r2 <;> first | cases e | skip
    rename_i i
    obtain ⟨n, hn, rfl⟩ := Option.map_eq_some_iff.mp (show (atI ns i).map Dv.int = some d from e)
    obtain ⟨j, hj, hd⟩ := atI_get hn
    exact .inl ⟨a, _, i, .int n, rfl, rfl, h.sq, atI_of (j := j) (by rw [List.length_map]; exact hj) (by rw [List.getElem?_map, hd]; rfl), q _ H [] (.refl H) (.int n) (fun b k => (nomatch k)) (fun z => nomatch z)⟩
  | str z =>
    cases r2 <;> first | cases e | skip
    rename_i i
    have e : (if z.length ≤ sizeLine then (atI z.cps.toList i).map (fun c => Dv.str ⟨#[c]⟩) else none) = some d := e
    by_cases hz : z.length ≤ sizeLine
    · rw [if_pos hz] at e
      obtain ⟨c, hc, rfl⟩ := Option.map_eq_some_iff.mp e
      exact .inr (.inr ⟨z, i, c, rfl, rfl, hz, hc, q _ H [] (.refl H) (.str _) (fun b k => (nomatch k)) (fun z => nomatch z)⟩)
    · rw [if_neg hz] at e; cases e
  | _ => cases e
/-! == and != of what is no dict and no object -/
mutual
def pyD : Dv → Option PyData
  | .non => some .none
  | .bl b => some (.bool b)
  | .int i => some (.int i)
  | .str x => some (.str x)
  | .tup xs => (pyDs xs).map .tuple
  | .lst xs => (pyDs xs).map .list
  | .frl ns => some (.list (ns.map .int))
  | .dct _ => none
  | .obj _ _ => none
def pyDs : List Dv → Option (List PyData)
  | [] => some []
  | d :: ds => match pyD d, pyDs ds with
    | some p, some ps => some (p :: ps)
    | _, _ => none
end
theorem dpAll_ints {K : PySem.W.Frag} {H : Hp} : ∀ ns : List Int, DpAll K H (ns.map V.int) (ns.map .int)
  | [] => .nil
  | n :: ns => .cons (.int n) (dpAll_ints ns)
mutual
theorem Rep.dp {v : V} {d : Dv} {G : List Addr} {p : PyData} : Rep K H v d G → pyD d = some p → Dp K H v p
  | .non, e => by cases e; exact .non
  | .bl b, e => by cases e; exact .bl b
  | .int i, e => by cases e; exact .int i
  | .str x, e => by cases e; exact .str x
  | .tup h r, e => by
    unfold pyD at e
    obtain ⟨ps, h1, rfl⟩ := Option.map_eq_some_iff.mp e
    exact .tup h (Reps.dp r h1)
  | .lst h r, e => by
    unfold pyD at e
    obtain ⟨ps, h1, rfl⟩ := Option.map_eq_some_iff.mp e
    exact .lst ((SqL.of h)) (Reps.dp r h1)
  | .frl h, e => by
    cases e
    exact .lst h.sq (dpAll_ints _)
  | .dct _ _ _, e => by cases e
  | .dctT _ _ _, e => by cases e
  | .obj _ _ _, e => by cases e
theorem Reps.dp {vs : List V} {ds : List Dv} {G : List Addr} {ps : List PyData} : Reps K H vs ds G → pyDs ds = some ps → DpAll K H vs ps
  | .nil, e => by cases e; exact .nil
  | @Reps.cons _ _ v d G vs ds G' h r, e => by
    unfold pyDs at e
    cases h1 : pyD d with
    | none => rw [h1] at e; cases e
    | some p =>
      cases h2 : pyDs ds with
      | none => rw [h1, h2] at e; cases e
      | some qs =>
        rw [h1, h2] at e
        cases e
        exact .cons (Rep.dp h h1) (Reps.dp r h2)
end
def eqP (neg : Bool) (d1 d2 : Dv) : Option Dv := match pyD d1, pyD d2 with
  | some p, some q => if (SeqAt.shaped p && SeqAt.shaped q) = true then some (.bl (if neg then !PyData.eqv p q else PyData.eqv p q)) else none
  | _, _ => none
theorem opD_eq : OpD K (rEqD K) true (eqP false) := fun H x y d1 d2 d G1 G2 Q r1 r2 e q => by
  unfold eqP at e
  split at e
  · rename_i p p' h1 h2
    split at e
    · rename_i hs
      obtain ⟨s1, s2⟩ := Bool.and_eq_true_iff.mp hs
      cases e
      exact ⟨p, p', r1.dp h1, r2.dp h2, s1, s2, q _ H [] (.refl H) (.bl _) (fun b k => (nomatch k)) fun _ _ => ⟨.nil, fun a m => (nomatch m)⟩⟩
    · cases e
  · cases e
theorem opD_ne : OpD K (rNeD K) true (eqP true) := fun H x y d1 d2 d G1 G2 Q r1 r2 e q => by
  unfold eqP at e
  split at e
  · rename_i p p' h1 h2
    split at e
    · rename_i hs
      obtain ⟨s1, s2⟩ := Bool.and_eq_true_iff.mp hs
      cases e
      exact ⟨p, p', r1.dp h1, r2.dp h2, s1, s2, q _ H [] (.refl H) (.bl _) (fun b k => (nomatch k)) fun _ _ => ⟨.nil, fun a m => (nomatch m)⟩⟩
    · cases e
  · cases e
/-! is -/
def rIsA : R2 := fun x y H Q => (∃ a b, x = .bl a ∧ y = .bl b ∧ Q (.bl (decide (a = b))) H) ∨ (y = .non ∧ Q (.bl (decide (x = .non))) H)
def rIsntA : R2 := fun x y H Q => (∃ a b, x = .bl a ∧ y = .bl b ∧ Q (.bl (!decide (a = b))) H) ∨ (y = .non ∧ Q (.bl (!decide (x = .non))) H)
theorem op_isA {X : Cx} : OpR X (compareOp .Is) rIsA := op_is_bl.or op_isN
theorem op_isntA {X : Cx} : OpR X (compareOp .IsNot) rIsntA := op_isnot_bl.or op_notN
def Dv.isN : Dv → Bool
  | .non => true
  | _ => false
def isD (neg : Bool) : Dv → Dv → Option Dv
  | .bl a, .bl b => some (.bl (if neg then !decide (a = b) else decide (a = b)))
  | d, .non => some (.bl (if neg then !d.isN else d.isN))
  | _, _ => none
theorem Rep.isN {v : V} {d : Dv} {G : List Addr} (r : Rep K H v d G) : decide (v = .non) = d.isN := by
  cases r <;> simp [Dv.isN]
theorem opD_is : OpD K rIsA true (isD false) := fun H x y d1 d2 d G1 G2 Q r1 r2 e q => by
  have fin : ∀ b : Bool, d = .bl b → Q (.bl b) H := fun b h => by
    subst h
    exact q _ H [] (.refl H) (.bl _) (fun b k => (nomatch k)) fun _ _ => ⟨.nil, fun a m => (nomatch m)⟩
  cases r2 with
  | non =>
    have e' : some (Dv.bl d1.isN) = some d := by
      rw [← e]; cases d1 <;> rfl
    cases e'
    exact .inr ⟨rfl, by rw [r1.isN]; exact fin _ rfl⟩
  | bl b =>
    cases r1 <;> first | cases e | skip
    exact .inl ⟨_, _, rfl, rfl, fin _ rfl⟩
  | _ => cases d1 <;> cases e
theorem opD_isnt : OpD K rIsntA true (isD true) := fun H x y d1 d2 d G1 G2 Q r1 r2 e q => by
  have fin : ∀ b : Bool, d = .bl b → Q (.bl b) H := fun b h => by
    subst h
    exact q _ H [] (.refl H) (.bl _) (fun b k => (nomatch k)) fun _ _ => ⟨.nil, fun a m => (nomatch m)⟩
  cases r2 with
  | non =>
    have e' : some (Dv.bl (!d1.isN)) = some d := by
      rw [← e]; cases d1 <;> rfl
    cases e'
    exact .inr ⟨rfl, by rw [r1.isN]; exact fin _ rfl⟩
  | bl b =>
    cases r1 <;> first | cases e | skip
    exact .inl ⟨_, _, rfl, rfl, fin _ rfl⟩
  | _ => cases d1 <;> cases e
/-! a sign in a text -/
def inS (neg : Bool) : Dv → Dv → Option Dv
  | .str a, .str b => if a.cps.size = 1 then some (.bl (if neg then !decide (a.cps.getD 0 0 ∈ b.cps.toList) else decide (a.cps.getD 0 0 ∈ b.cps.toList))) else none
  | _, _ => none
theorem str_one {a : Str} (h : a.cps.size = 1) : a = ⟨#[a.cps.getD 0 0]⟩ := by
  obtain ⟨⟨l⟩⟩ := a
  match l, h with
  | [c], _ => rfl
theorem opD_inS : OpD K (fun x y H Q => ∃ (c : Nat) (z : Str), x = .str ⟨#[c]⟩ ∧ y = .str z ∧ Q (.bl (decide (c ∈ z.cps.toList))) H) true (inS false) := fun H x y d1 d2 d G1 G2 Q r1 r2 e q => by
  cases r1 <;> first | cases e | skip
  cases r2 <;> first | cases e | skip
  rename_i a b
  unfold inS at e
  simp only at e
  by_cases h : a.cps.size = 1
  · rw [if_pos h] at e
    cases e
    exact ⟨_, b, by rw [← str_one h], rfl, q _ H [] (.refl H) (.bl _) (fun b k => (nomatch k)) fun _ _ => ⟨.nil, fun a m => (nomatch m)⟩⟩
  · rw [if_neg h] at e; cases e
theorem opD_notInS : OpD K (fun x y H Q => ∃ (c : Nat) (z : Str), x = .str ⟨#[c]⟩ ∧ y = .str z ∧ Q (.bl (!decide (c ∈ z.cps.toList))) H) true (inS true) := fun H x y d1 d2 d G1 G2 Q r1 r2 e q => by
  cases r1 <;> first | cases e | skip
  cases r2 <;> first | cases e | skip
  rename_i a b
  unfold inS at e
  simp only at e
  by_cases h : a.cps.size = 1
  · rw [if_pos h] at e
    cases e
    exact ⟨_, b, by rw [← str_one h], rfl, q _ H [] (.refl H) (.bl _) (fun b k => (nomatch k)) fun _ _ => ⟨.nil, fun a m => (nomatch m)⟩⟩
  · rw [if_neg h] at e; cases e
/-! calls -/
def lenD : List Dv → Option Dv
  | [.str z] => if z.length ≤ sizeLine then some (.int z.length) else none
  | [.lst xs] => some (.int xs.length)
  | [.tup xs] => some (.int xs.length)
  | [.frl xs] => some (.int xs.length)
  | _ => none
abbrev rLenA (K : PySem.W.Frag) : List V → Hp → VK → Prop := fun xs H Q => ∃ x n, xs = [x] ∧ LenV K x H n ∧ Q (.int n) H
theorem Reps.inv1 {vs : List V} {d : Dv} {G : List Addr} (r : Reps K H vs [d] G) : ∃ v, vs = [v] ∧ Rep K H v d G := by
  cases r with
  | cons h t =>
    cases t
    exact ⟨_, rfl, by rw [List.append_nil]; exact h⟩
theorem Reps.inv2 {vs : List V} {d e : Dv} {G : List Addr} (r : Reps K H vs [d, e] G) : ∃ v u G1 G2, vs = [v, u] ∧ Rep K H v d G1 ∧ Rep K H u e G2 ∧ G = G1 ++ G2 := by
  cases r with
  | cons h t =>
    obtain ⟨u, rfl, k⟩ := t.inv1
    exact ⟨_, u, _, _, rfl, h, k, rfl⟩
theorem callD_len : CallD K (rLenA K) true lenD := fun H vs ds d G Q r e q => by
  have fin : ∀ n : Nat, d = .int n → Q (.int n) H := fun n h => by
    subst h
    exact q _ H [] (.refl H) (.int _) (fun b k => (nomatch k)) fun _ _ => ⟨.nil, fun a m => (nomatch m)⟩
  unfold lenD at e
  split at e
  · obtain ⟨v, rfl, r1⟩ := r.inv1
    split at e
    · rename_i z h
      cases e
      cases r1
      exact ⟨_, _, rfl, ⟨h, rfl⟩, fin _ rfl⟩
    · cases e
  · obtain ⟨v, rfl, r1⟩ := r.inv1
    cases e
    cases r1 with
    | lst h rr => exact ⟨_, _, rfl, .inl ⟨_, (SqL.of h), rr.len.symm⟩, fin _ rfl⟩
  · obtain ⟨v, rfl, r1⟩ := r.inv1
    cases e
    cases r1 with
    | tup h rr => exact ⟨_, _, rfl, .inr ⟨_, h, rr.len.symm⟩, fin _ rfl⟩
  · obtain ⟨v, rfl, r1⟩ := r.inv1
    cases e
    cases r1 with
    | frl h => exact ⟨_, _, rfl, .inl ⟨_, h.sq, by rw [List.length_map]⟩, fin _ rfl⟩
  · cases e
def minmaxD (f : Int → Int → Int) : List Dv → Option Dv
  | [.int a, .int b] => some (.int (f a b))
  | _ => none
theorem callD_mm {f : Int → Int → Int} : CallD K (fun xs H Q => ∃ i j, xs = [.int i, .int j] ∧ Q (.int (f i j)) H) true (minmaxD f) := fun H vs ds d G Q r e q => by
  unfold minmaxD at e
  split at e
  · obtain ⟨v, u, G1, G2, rfl, r1, r2, _⟩ := r.inv2
    cases e
    cases r1
    cases r2
    exact ⟨_, _, rfl, q _ H [] (.refl H) (.int _) (fun b k => (nomatch k)) fun _ _ => ⟨.nil, fun a m => (nomatch m)⟩⟩
  · cases e
def intD : List Dv → Option Dv
  | [.int a] => some (.int a)
  | [.bl b] => some (.int (if b then 1 else 0))
  | _ => none
theorem callD_int : CallD K (fun xs H Q => (∃ i, xs = [.int i] ∧ Q (.int i) H) ∨ ∃ k, xs = [.bl k] ∧ Q (.int (if k then 1 else 0)) H) true intD := fun H vs ds d G Q r e q => by
  unfold intD at e
  split at e
  · obtain ⟨v, rfl, r1⟩ := r.inv1
    cases e
    cases r1
    exact .inl ⟨_, rfl, q _ H [] (.refl H) (.int _) (fun b k => (nomatch k)) fun _ _ => ⟨.nil, fun a m => (nomatch m)⟩⟩
  · obtain ⟨v, rfl, r1⟩ := r.inv1
    cases e
    cases r1
    exact .inr ⟨_, rfl, q _ H [] (.refl H) (.int _) (fun b k => (nomatch k)) fun _ _ => ⟨.nil, fun a m => (nomatch m)⟩⟩
  · cases e
def strIntD : List Dv → Option Dv
  | [.int a] => if a.natAbs.log2 < 1920 then some (.str (toString a)) else none
  | _ => none
theorem callD_strInt : CallD K (fun xs H Q => ∃ i, xs = [.int i] ∧ i.natAbs.log2 < 1920 ∧ Q (.str (toString i)) H) true strIntD := fun H vs ds d G Q r e q => by
  unfold strIntD at e
  split at e
  · obtain ⟨v, rfl, r1⟩ := r.inv1
    split at e
    · rename_i h
      cases e
      cases r1
      exact ⟨_, rfl, h, q _ H [] (.refl H) (.str _) (fun b k => (nomatch k)) fun _ _ => ⟨.nil, fun a m => (nomatch m)⟩⟩
    · cases e
  · cases e
/-- a list of truths -/
def blsD : List Dv → Option (List Bool)
  | [] => some []
  | .bl b :: r => (blsD r).map (b :: ·)
  | _ :: _ => none
theorem Reps.bls {vs : List V} : ∀ {ds : List Dv} {G : List Addr} {bs : List Bool}, Reps K H vs ds G → blsD ds = some bs → vs = bs.map V.bl := by
  induction vs with
  | nil =>
    intro ds G bs r e
    cases r
    cases e
    rfl
  | cons v vs ih =>
    intro ds G bs r e
    cases r with
    | @cons _ d G1 _ ds G' h t =>
      cases d <;> first | cases e | skip
      rename_i b
      obtain ⟨bs', h1, rfl⟩ := Option.map_eq_some_iff.mp (show (blsD ds).map (b :: ·) = some bs from e)
      cases h
      rw [ih t h1]; rfl
def quantD (f : List Bool → Bool) : List Dv → Option Dv
  | [.lst ds] => (blsD ds).map fun bs => .bl (f bs)
  | _ => none
theorem callD_quant {f : List Bool → Bool} : CallD K (fun vs H Q => ∃ (a : Addr) (bs : List Bool), vs = [V.ref a] ∧ SqL K H a (bs.map V.bl) ∧ Q (.bl (f bs)) H) true (quantD f) := fun H vs ds d G Q r e q => by
  unfold quantD at e
  split at e
  · obtain ⟨v, rfl, r1⟩ := r.inv1
    obtain ⟨bs, h1, rfl⟩ := Option.map_eq_some_iff.mp e
    cases r1 with
    | lst h rr =>
      have := rr.bls h1
      subst this
      exact ⟨_, bs, rfl, (SqL.of h), q _ H [] (.refl H) (.bl _) (fun b k => (nomatch k)) fun _ _ => ⟨.nil, fun a m => (nomatch m)⟩⟩
  · cases e
/-! isinstance -/
def isT (T : String) : Dv → Option Bool
  | .non => kitB "NoneType" T
  | .bl _ => kitB "bool" T
  | .int _ => kitB "int" T
  | .str _ => kitB "str" T
  | .tup _ => kitB "tuple" T
  | .lst _ => kitB "list" T
  | .frl _ => kitB "list" T
  | .dct _ => kitB "dict" T
  | .obj _ _ => none
def tyN : Dv → Option String
  | .non => some "NoneType"
  | .bl _ => some "bool"
  | .int _ => some "int"
  | .str _ => some "str"
  | .tup _ => some "tuple"
  | .lst _ => some "list"
  | .frl _ => some "list"
  | .dct _ => some "dict"
  | .obj _ _ => none
def frzT (H : Hp) (v : V) : Prop := ∃ a ob kvs, v = .ref a ∧ H a = some (.frz ob (.dT kvs))
theorem Rep.tyX {v : V} {d : Dv} {G : List Addr} (r : Rep K H v d G) {n : String} (h : tyN d = some n) : TyX K H v (.type n) ∨ (n = "dict" ∧ frzT H v) := by
  cases r with
  | non => cases h; exact .inl (.base .non)
  | bl b => cases h; exact .inl (.base (.bl b))
  | int b => cases h; exact .inl (.base (.int b))
  | str b => cases h; exact .inl (.base (.str b))
  | tup e _ =>
    cases h
    left
    rcases e with (e | ⟨o, e⟩) | ⟨o, its, n, e, c, _⟩
    · exact .base (.tup e)
    · exact .fTuple e
    · exact .kTuple e c
  | lst e _ =>
    cases h
    left
    exact .base (.lst e)
  | frl e =>
    cases h
    left
    rcases e with ⟨o, e⟩ | ⟨o, its, n, e, c, _⟩
    · exact .base (.frz e)
    · exact .kList e c
  | dct e _ _ =>
    cases h
    left
    rcases e with e | ⟨o, e⟩
    · exact .base (.dK e)
    · exact .fDict e
  | dctT e _ _ =>
    cases h
    rcases e with e | ⟨o, e⟩
    · exact .inl (.base (.dT e))
    · exact .inr ⟨rfl, _, _, _, rfl, e⟩
  | obj _ _ _ => cases h
def rIsiD (K : PySem.W.Frag) : List V → Hp → VK → Prop := fun xs H Q => rIsi K xs H Q ∨ ∃ v T b, xs = [v, .ty T] ∧ frzT H v ∧ kitB "dict" T = some b ∧ Q (.bl b) H
theorem call_isiD {X : Cx} : CallR X (.builtin "isinstance") (rIsiD X.K) := by
  intro pins s σ H xs us Q I r h
  rcases h with h | ⟨v, T, b, rfl, ⟨a, ob, kvs, rfl, ea⟩, hb, q⟩
  · exact call_isi pins s σ H xs us Q I r h
  · obtain ⟨u1, u2, rfl, r1, r2⟩ := vals2 r
    cases (show u1 = Value.ref a from r1)
    cases (show u2 = Value.type T from r2)
    obtain ⟨_, _, _, xs, _, o, es, ep, h1, h2, _⟩ := (show ObjOk X.prog X.w H s.heap a (.frz ob (.dT kvs)) from I.hok a _ ea)
    exact PySem.W.kia_one PySem.W.kitx_dict I.kIn ⟨o, h1, h2.1⟩ (kit_ty hb) (fun z => nomatch z) fun tk => ⟨.bl b, H, I.tok tk, rfl, q⟩
theorem isT_ty {T : String} {d : Dv} {b : Bool} (h : isT T d = some b) : ∃ n, tyN d = some n ∧ kitB n T = some b := by
  cases d <;> first | exact ⟨_, rfl, h⟩ | cases h
variable {B : Bs} {env : List Sl} {P : Dv → Fl → Bool → List Sl → Prop} {ta tb te : TE}
theorem dt_isi {T : String} (h : DT K B ta env fun d _ pu env1 => ∃ b, isT T d = some b ∧ P (.bl b) .fresh pu env1) : DT K B (tCB (rIsiD K) (tCons ta (tCons (tC (.ty T)) tNil))) env P := fun σ H G Q e q => by
  refine h σ H G _ e fun v H1 d fl pu env1 G1 Gv s r f ⟨b, hb, hP⟩ => ?_
  obtain ⟨n, h1, h2⟩ := isT_ty hb
  have fin := q _ H1 _ _ _ env1 G1 [] s (.bl b) .nil hP
  rcases r.tyX h1 with z | ⟨rfl, z⟩
  · exact .inl ⟨v, .ty T, .type n, .type T, b, rfl, .ty T, z, h2, fin⟩
  · exact .inr ⟨v, T, b, rfl, z, h2, fin⟩
/-! a chain of two comparisons -/
theorem dt_chain {r r' : R2} {tc : TE} {f f' : Dv → Dv → Option Dv} (o : OpD K r true f) (o' : OpD K r' true f')
    (h : DT K B ta env fun d1 f1 p1 env1 => DT K B tb env1 fun d2 f2 p2 env2 => p2 = true ∧ ∃ b, f d1 d2 = some (.bl b) ∧ if b = true then DT K B tc env2 fun d3 f3 p3 env3 => p3 = true ∧ ∃ c, f' d2 d3 = some (.bl c) ∧ P (.bl c) .fresh (p1 && p2 && p3) env3 else P (.bl false) .fresh (p1 && p2) env2) :
    DT K B (tChain r r' ta tb tc) env P := fun σ H G Q e q => by
  refine h σ H G _ e fun x H1 d1 f1 p1 env1 G1 Gx s1 rx fx h1 => ?_
  refine h1 σ H1 G1 _ s1.er fun y H2 d2 f2 p2 env2 G2 Gy s2 ry fy ⟨hp, b, hb, h2⟩ => ?_
  obtain ⟨rx2, fx2⟩ := pend s2 rx fx fun _ => hp
  refine o H2 x y d1 d2 _ Gx Gy _ rx2 ry hb fun z H3 Gz sm rz _ _ => ?_
  cases rz
  refine ⟨b, rfl, ?_⟩
  have s3 := (s1.trans s2).trans (.same s2.er sm)
  rw [Bool.and_true] at s3
  cases b with
  | false =>
    rw [if_neg Bool.false_ne_true] at h2 ⊢
    exact q _ H3 _ _ _ env2 G2 [] s3 (.bl _) .nil h2
  | true =>
    rw [if_pos rfl] at h2 ⊢
    refine h2 σ H3 G2 _ s3.er fun w' H4 d3 f3 p3 env3 G3 Gw s4 rw' fw ⟨hp3, c, hc, hP⟩ => ?_
    have ry3 : Rep K H3 y d2 Gy := ry.step (M := fun _ => False) (.same sm) fun _ _ z => z
    have ry4 : Rep K H4 y d2 Gy := by
      obtain ⟨sm4, _, _⟩ := s4.pr hp3
      exact ry3.step (M := fun _ => False) (.same sm4) fun _ _ z => z
    refine o' H4 y w' d2 d3 _ Gy Gw _ ry4 rw' hc fun z' H5 Gz' sm5 rz' _ _ => ?_
    cases rz'
    have s5 := (s3.trans s4).trans (.same s4.er sm5)
    rw [Bool.and_true] at s5
    exact q _ H5 _ _ _ env3 G3 [] s5 (.bl _) .nil hP
end
end Fd
namespace Fd
open PySem PySem.Spec PyProof.Rows L2
section
variable {K : PySem.W.Frag} {B : Bs} {env env1 env2 : List Sl} {D : Ds} {P : Dv → Fl → Bool → List Sl → Prop} {ta tb te tl : TE} {t u : TS} {c : TT} {tr : TA}
/-! ### what is one's own is not changed any more -/
theorem EnvR.cool {σ : L2.St} {H : Hp} {G : Nat → List Addr} {i : Nat} {d : Dv} (e : EnvR K B σ H env G) (hi : env[i]? = some (.ho d)) : EnvR K B σ H (env.set i (.co d)) G := by
  have hlt : i < env.length := (List.getElem?_eq_some_iff.mp hi).1
  have at_i : (env.set i (.co d))[i]? = some (.co d) := List.getElem?_set_self hlt
  have at_j : ∀ j, j ≠ i → (env.set i (.co d))[j]? = env[j]? := fun j n => List.getElem?_set_ne (Ne.symm n)
  have down : ∀ (j : Nat) (s : Sl), (env.set i (.co d))[j]? = some s → s.hot = true → env[j]? = some s := fun j s h k => by
    by_cases n : j = i
    · subst n; rw [at_i] at h; cases h; cases k
    · rw [at_j j n] at h; exact h
  refine ⟨by rw [List.length_set]; exact e.len, fun j s d' h1 h2 => ?_, fun j h => ?_, fun j s h1 h2 => e.nod j s (down j s h1 h2) h2, fun j k s a n h1 h2 m => e.dis j k s a n (down j s h1 h2) h2 m, fun j d' h => e.pin j d' (down j _ h rfl), fun j d' a h m => e.loc j d' a (down j _ h rfl) m, e.he, e.org, fun j d' a h m => e.pc j d' a (down j _ h rfl) m, fun j s a h1 h2 m => e.mu j s a (down j s h1 h2) h2 m, fun j h => ?_⟩
  · by_cases n : j = i
    · subst n; rw [at_i] at h1; cases h1
      exact e.rep j _ d' hi (by cases h2; rfl)
    · rw [at_j j n] at h1; exact e.rep j s d' h1 h2
  · by_cases n : j = i
    · subst n
      rcases h with h | h
      · rw [at_i] at h; cases h
      · rw [at_i] at h; cases h
    · rw [at_j j n] at h; exact e.non j h
  · obtain ⟨d', h'⟩ := e.kp j h
    have n : j ≠ i := fun z => by subst z; rw [hi] at h'; cases h'
    exact ⟨d', by rw [at_j j n]; exact h'⟩
theorem hot_cool {G : Nat → List Addr} {i : Nat} {d : Dv} {a : Addr} (h : Hot (env.set i (.co d)) G a) : Hot env G a := by
  obtain ⟨j, s, h1, h2, m⟩ := h
  by_cases n : j = i
  · subst n
    by_cases hl : j < env.length
    · rw [List.getElem?_set_self hl] at h1; cases h1; cases h2
    · rw [List.getElem?_eq_none (by rw [List.length_set]; exact Nat.not_lt.mp hl)] at h1; cases h1
  · rw [List.getElem?_set_ne (Ne.symm n)] at h1
    exact ⟨j, s, h1, h2, m⟩
theorem dts_cool (i : Nat) {d : Dv} (hi : env[i]? = some (.ho d)) (h : DTS K B t (env.set i (.co d)) D) : DTS K B t env D := fun σ H G E e l =>
  h σ H G E (e.cool hi) (l.on ⟨.refl, fun a z => .inl (hot_cool z)⟩)

/-! ### targets -/
def DG (K : PySem.W.Frag) (B : Bs) (ws : List Nat) (g : TG) (d : Dv) (env env' : List Sl) : Prop := ∀ (σ : L2.St) (H : Hp) (G : Nat → List Addr) (v : V) (Gv : List Addr) (Q : L2.St → Hp → Prop), EnvR K B σ H env G → Rep K H v d Gv → (∀ a ∈ Gv, ¬ Hot env G a) → (∀ a ∈ Gv, All B.G0 a ∨ B.He a = none) →
  (∀ σ' G', Mv env G H env' G' H → EnvR K B σ' H env' G' → σ'.length = σ.length → (∀ j, j ∉ ws → σ'[j]? = σ[j]?) → (∀ j, j ∉ ws → env'[j]? = env[j]? ∧ G' j = G j) → (∀ a, All G' a → All G a ∨ a ∈ Gv) → Q σ' H) → g v σ H Q
def DGs (K : PySem.W.Frag) (B : Bs) (ws : List Nat) (t : TGs) (ds : List Dv) (env env' : List Sl) : Prop := ∀ (σ : L2.St) (H : Hp) (G : Nat → List Addr) (vs : List V) (Gv : List Addr) (Q : L2.St → Hp → Prop), EnvR K B σ H env G → Reps K H vs ds Gv → (∀ a ∈ Gv, ¬ Hot env G a) → (∀ a ∈ Gv, All B.G0 a ∨ B.He a = none) →
  (∀ σ' G', Mv env G H env' G' H → EnvR K B σ' H env' G' → σ'.length = σ.length → (∀ j, j ∉ ws → σ'[j]? = σ[j]?) → (∀ j, j ∉ ws → env'[j]? = env[j]? ∧ G' j = G j) → (∀ a, All G' a → All G a ∨ a ∈ Gv) → Q σ' H) → t vs σ H Q
theorem dg_name {i : Nat} {d : Dv} {s : Sl} (hi : env[i]? = some s) (hs : s.free = true) : DG K B [i] (gName i) d env (env.set i (.co d)) := fun σ H G v Gv Q e r cold c3 q => by
  refine q _ (setG G i Gv) ⟨.refl, fun a z => ?_⟩ (e.set hi hs rfl rfl r cold (fun z => nomatch z) c3) List.length_set (fun j n => ?_) (fun j n => ?_) (fun a ⟨j, m⟩ => ?_)
  · rcases hot_set z with z | ⟨z, _⟩
    · exact .inl z
    · cases z
  · exact List.getElem?_set_ne fun z => n (by rw [z]; exact List.mem_cons_self)
  · have : j ≠ i := fun z => n (by rw [z]; exact List.mem_cons_self)
    exact ⟨List.getElem?_set_ne (Ne.symm this), setG_ne this⟩
  · by_cases n : j = i
    · subst n; rw [setG_same] at m; exact .inr m
    · rw [setG_ne n] at m; exact .inl ⟨j, m⟩
theorem dgs_nil : DGs K B [] gNil [] env env := fun σ H G vs Gv Q e r cold c3 q => by
  cases r
  exact ⟨rfl, q σ G .refl e rfl (fun _ _ => rfl) (fun _ _ => ⟨rfl, rfl⟩) fun _ z => .inl z⟩
theorem dgs_cons {g : TG} {tg : TGs} {d : Dv} {ds : List Dv} {ws ws' : List Nat} (h1 : DG K B ws g d env env1) (h2 : DGs K B ws' tg ds env1 env2) : DGs K B (ws ++ ws') (gCons g tg) (d :: ds) env env2 := fun σ H G vs Gv Q e r cold c3 q => by
  cases r with
  | @cons v _ G1 vs _ G2 r1 r2 =>
    refine ⟨v, vs, rfl, h1 σ H G v G1 _ e r1 (fun a m => cold a (List.mem_append_left _ m)) (fun a m => c3 a (List.mem_append_left _ m)) fun σ1 Ga m1 e1 l1 o1 p1 a1 => ?_⟩
    refine h2 σ1 H Ga vs G2 _ e1 r2 (fun a m z => ?_) (fun a m => c3 a (List.mem_append_right _ m)) fun σ2 Gb m2 e2 l2 o2 p2 a2 => ?_
    · rcases m1.c1 a z with z | z
      · exact cold a (List.mem_append_right _ m) z
      · obtain ⟨o, k⟩ := r2.alloc a m
        rw [z] at k; cases k
    · refine q σ2 Gb (m1.trans m2) e2 (l2.trans l1) (fun j n => ?_) (fun j n => ?_) (fun a z => ?_)
      · exact (o2 j fun z => n (List.mem_append_right _ z)).trans (o1 j fun z => n (List.mem_append_left _ z))
      · obtain ⟨x1, x2⟩ := p2 j fun z => n (List.mem_append_right _ z)
        obtain ⟨y1, y2⟩ := p1 j fun z => n (List.mem_append_left _ z)
        exact ⟨x1.trans y1, x2.trans y2⟩
      · rcases a2 a z with z | z
        · rcases a1 a z with z | z
          · exact .inl z
          · exact .inr (List.mem_append_left _ z)
        · exact .inr (List.mem_append_right _ z)
theorem dg_tup {tg : TGs} {ds : List Dv} {n : Nat} {ws : List Nat} (hl : ds.length = n) (h : DGs K B ws tg ds env env1) : DG K B ws (gTup K n tg) (.tup ds) env env1 := fun σ H G v Gv Q e r cold c3 q => by
  cases r with
  | @tup a xs _ _ ht rr => exact ⟨a, xs, rfl, ht, rr.len.trans hl, h σ H G xs Gv Q e rr cold c3 q⟩
theorem dg_unl {tg : TGs} {ds : List Dv} {n : Nat} {ws : List Nat} (hl : ds.length = n) (h : DGs K B ws tg ds env env1) : DG K B ws (gUnl K n tg) (.lst ds) env env1 := fun σ H G v Gv Q e r cold c3 q => by
  cases r with
  | @lst a xs _ g ht rr =>
    exact ⟨a, xs, rfl, SqL.of ht, rr.len.trans hl, h σ H G xs g Q e rr (fun b m => cold b (List.mem_cons_of_mem _ m)) (fun b m => c3 b (List.mem_cons_of_mem _ m)) fun σ' G' m e' l o p al => q σ' G' m e' l o p fun b z => (al b z).imp_right (List.mem_cons_of_mem _)⟩
/-- a target stored; what is handed over is not changed any more -/
theorem dts_asg {g : TG} (h : DT K B te env fun d fl pu env1 => ef d fl ≠ .view ∧ ∃ ws env2, DG K B ws g d env1 env2 ∧ D.nx env2) : DTS K B (tAsg te g) env D := fun σ H G E e l => by
  refine h σ H G _ e fun v H1 d fl pu env1 G1 Gv s r f ⟨nv, ws, env2, hg, h1⟩ => ?_
  have f' := f.ef r
  refine hg σ H1 G1 v Gv _ s.er r (f'.cold nv) (fun a m => e.org' (f'.c3 a m)) fun σ2 G2 m2 e2 _ _ _ _ => ?_
  exact l.nx σ2 H1 env2 G2 (s.mv.trans m2) e2 h1

/-! ### what is walked -/
structure ItD (K : PySem.W.Frag) (J : It) (St : Hp → Prop) (Gv0 : List Addr) (items : List Dv) : Prop where
  per : ∀ (M : Addr → Prop) (H H' : Hp), Stp M H H' → (∀ a ∈ Gv0, ¬ M a) → St H → St H'
  alloc : ∀ (H : Hp), St H → ∀ a ∈ Gv0, ∃ o, H a = some o
  go : ∀ (i : Nat) (x : Dv) (H : Hp), items[i]? = some x → St H → J.go i H ∧ ∀ y H', J.yld i H y H' → Same H H' ∧ ∃ Gx, Rep K H' y x Gx ∧ ∀ a ∈ Gx, a ∈ Gv0
  stop : ∀ (H : Hp), St H → J.stop items.length H
def DI (K : PySem.W.Frag) (B : Bs) (wi : TI) (env : List Sl) (PI : List Dv → Fl → Bool → List Sl → Prop) : Prop :=
  ∀ (σ : L2.St) (H : Hp) (G : Nat → List Addr) (R : It → Hp → Prop), EnvR K B σ H env G →
    (∀ J H1 pu env1 G1 St fl Gv0 items, Se K B σ env G H pu env1 G1 H1 → ItD K J St Gv0 items → St H1 → Vf H G env1 G1 H1 fl Gv0 → PI items fl pu env1 → R J H1) → wi σ H R
variable {PI : List Dv → Fl → Bool → List Sl → Prop}
def itemsL : Dv → Option (List Dv)
  | .lst ds => some ds
  | .frl ns => some (ns.map .int)
  | _ => none
theorem di_list (h : DT K B tl env fun d fl pu env1 => ∃ items, itemsL d = some items ∧ PI items (ef d fl) pu env1) : DI K B (iList K tl) env PI := fun σ H G R e q => by
  refine h σ H G _ e fun v H1 d fl pu env1 G1 Gv s r f ⟨items, hi, hp⟩ => ?_
  cases r with
  | @lst a xs ds g ha ra =>
    cases hi
    refine ⟨a, rfl, ⟨xs, SqL.of ha⟩, q _ H1 pu env1 G1 (fun H' => H' a = some (.lst xs) ∧ Reps K H' xs items g) _ (a :: g) items s ⟨fun M H H' st n z => ?_, fun H z b m => ?_, fun i x H hx z => ?_, fun H z => ?_⟩ ⟨ha, ra⟩ (f.ef (.lst ha ra)) hp⟩
    · exact ⟨st.keep _ _ z.1 fun _ => n _ List.mem_cons_self, z.2.step st fun b m => n b (List.mem_cons_of_mem _ m)⟩
    · exact (Rep.lst z.1 z.2).alloc b m
    · obtain ⟨v, G', hv, rv, m⟩ := z.2.getD i x hx
      refine ⟨⟨xs, v, SqL.of z.1, hv⟩, fun y H' ⟨e1, e2⟩ => ?_⟩
      subst e1
      have := e2 xs (SqL.of z.1)
      rw [hv] at this; cases this
      exact ⟨.refl _, G', rv, fun b k => List.mem_cons_of_mem _ (m b k)⟩
    · exact ⟨xs, SqL.of z.1, by rw [z.2.len]; exact Nat.le_refl _⟩
  | @frl a ns h0 =>
    cases hi
    refine ⟨a, rfl, ⟨_, h0.sq⟩, q _ H1 pu env1 G1 (fun H' => SqF K H' a (ns.map V.int)) _ [] _ s ⟨fun M H H' st n z => sqF_step z st, fun H z b m => (nomatch m), fun i x H hx z => ?_, fun H z => ⟨_, z.sq, by rw [List.length_map, List.length_map]; exact Nat.le_refl _⟩⟩ h0 .nil hp⟩
    rw [List.getElem?_map] at hx
    obtain ⟨n, hn, rfl⟩ := Option.map_eq_some_iff.mp hx
    have hv : (ns.map V.int)[i]? = some (.int n) := by rw [List.getElem?_map, hn]; rfl
    refine ⟨⟨_, _, z.sq, hv⟩, fun y H' ⟨e1, e2⟩ => ?_⟩
    subst e1
    have := e2 _ z.sq
    rw [hv] at this; cases this
    exact ⟨.refl _, [], .int n, fun b k => (nomatch k)⟩
  | _ => cases hi
theorem di_tup (h : DT K B tl env fun d fl pu env1 => ∃ items, d = .tup items ∧ PI items (ef d fl) pu env1) : DI K B (iTup K tl) env PI := fun σ H G R e q => by
  refine h σ H G _ e fun v H1 d fl pu env1 G1 Gv s r f ⟨items, hi, hp⟩ => ?_
  subst hi
  cases r with
  | @tup a xs _ _ ha ra =>
    refine ⟨a, rfl, ⟨xs, ha⟩, q _ H1 pu env1 G1 (fun H' => SqT K H' a xs ∧ Reps K H' xs items Gv) _ Gv items s ⟨fun M H H' st n z => ⟨sqT_step z.1 st, z.2.step st n⟩, fun H z b m => z.2.alloc b m, fun i x H hx z => ?_, fun H z => ⟨xs, z.1, by rw [z.2.len]; exact Nat.le_refl _⟩⟩ ⟨ha, ra⟩ (f.ef (.tup ha ra)) hp⟩
    obtain ⟨v, G', hv, rv, m⟩ := z.2.getD i x hx
    refine ⟨⟨xs, v, z.1, hv⟩, fun y H' ⟨e1, e2⟩ => ?_⟩
    subst e1
    have := e2 xs z.1
    rw [hv] at this; cases this
    exact ⟨.refl _, G', rv, m⟩
def rangeD (lo : Int) (n : Nat) : List Dv := (List.range n).map fun (i : Nat) => Dv.int (lo + (i : Int))
theorem rangeD_len {lo : Int} {n : Nat} : (rangeD lo n).length = n := by unfold rangeD; rw [List.length_map, List.length_range]
theorem rangeD_get {lo : Int} {n i : Nat} {x : Dv} (h : (rangeD lo n)[i]? = some x) : i < n ∧ x = .int (lo + i) := by
  unfold rangeD at h
  rw [List.getElem?_map] at h
  obtain ⟨j, hj, rfl⟩ := Option.map_eq_some_iff.mp h
  obtain ⟨h1, h2⟩ := List.getElem?_eq_some_iff.mp hj
  rw [List.length_range] at h1
  rw [List.getElem_range] at h2
  subst h2
  exact ⟨h1, rfl⟩
theorem itD_range {lo : Int} {n : Nat} : ItD K (Itr lo n) (fun _ => True) [] (rangeD lo n) :=
  ⟨fun _ _ _ _ _ _ => True.intro, fun _ _ _ m => (nomatch m), fun i x H hx _ => by
    obtain ⟨h1, rfl⟩ := rangeD_get hx
    exact ⟨h1, fun y H' ⟨e1, e2⟩ => by subst e1 e2; exact ⟨.refl _, [], .int _, fun b k => (nomatch k)⟩⟩, fun H _ => by
    rw [rangeD_len]; exact Nat.le_refl n⟩
theorem di_range1 (h : DTA K B tr env fun rs pu env1 => ∃ j fl, rs = [.val (.int j) fl] ∧ (-(2 ^ 62) ≤ j ∧ j < 2 ^ 62) ∧ PI (rangeD 0 j.toNat) .fresh pu env1) : DI K B (iRng1 tr) env PI := fun σ H G R e q => by
  refine h σ H G _ e fun vs H1 rs pu env1 G1 Gvs s ar ⟨j, fl, hr, hb, hp⟩ => ?_
  subst hr
  cases ar with
  | cons ok _ tl =>
    cases tl
    obtain ⟨r, _⟩ := ok
    cases r
    exact ⟨j, rfl, hb.1, hb.2, q _ H1 pu env1 G1 (fun _ => True) .fresh [] _ s itD_range True.intro .nil hp⟩
theorem di_range2 (h : DTA K B tr env fun rs pu env1 => ∃ i j fl fl', rs = [.val (.int i) fl, .val (.int j) fl'] ∧ (-(2 ^ 62) ≤ i ∧ i < 2 ^ 62 ∧ -(2 ^ 62) ≤ j ∧ j < 2 ^ 62) ∧ PI (rangeD i (j - i).toNat) .fresh pu env1) : DI K B (iRng2 tr) env PI := fun σ H G R e q => by
  refine h σ H G _ e fun vs H1 rs pu env1 G1 Gvs s ar ⟨i, j, fl, fl', hr, hb, hp⟩ => ?_
  subst hr
  cases ar with
  | cons ok _ tl =>
    cases tl with
    | cons ok2 _ tl =>
      cases tl
      obtain ⟨r, _⟩ := ok
      obtain ⟨r2, _⟩ := ok2
      cases r
      cases r2
      exact ⟨i, j, rfl, hb, q _ H1 pu env1 G1 (fun _ => True) .fresh [] _ s itD_range True.intro .nil hp⟩
def signsD (x : Str) : List Dv := x.cps.toList.map fun c => .str ⟨#[c]⟩
theorem di_str (h : DT K B tl env fun d fl pu env1 => ∃ x, d = .str x ∧ PI (signsD x) .fresh pu env1) : DI K B (iStr tl) env PI := fun σ H G R e q => by
  refine h σ H G _ e fun v H1 d fl pu env1 G1 Gv s r f ⟨x, hx, hp⟩ => ?_
  subst hx
  cases r
  refine ⟨x, rfl, q _ H1 pu env1 G1 (fun _ => True) .fresh [] _ s ⟨fun _ _ _ _ _ _ => True.intro, fun _ _ _ m => (nomatch m), fun i y H hy _ => ?_, fun H _ => ?_⟩ True.intro .nil hp⟩
  · unfold signsD at hy
    rw [List.getElem?_map] at hy
    obtain ⟨c, hc, rfl⟩ := Option.map_eq_some_iff.mp hy
    rw [Array.getElem?_toList] at hc
    refine ⟨(Array.getElem?_eq_some_iff.mp hc).1, fun z H' ⟨e1, c', e2, e3⟩ => ?_⟩
    subst e1 e3
    rw [hc] at e2; cases e2
    exact ⟨.refl _, [], .str _, fun b k => (nomatch k)⟩
  · unfold signsD
    rw [List.length_map, Array.length_toList]
    exact Nat.le_refl _
/-! ### for -/
theorem dts_for {wi : TI} {g : TG} {tb : TS} (h : DI K B wi env fun items fl pu env1 => ∃ I : Nat → List Sl → Prop, fl ≠ .view ∧ I 0 env1 ∧
    (∀ k x env2, items[k]? = some x → I k env2 → ∃ ws env3, DG K B ws g x env2 env3 ∧ DTS K B tb env3 { D with nx := I (k + 1), ct := I (k + 1), bk := D.nx }) ∧ (∀ env2, I items.length env2 → D.nx env2)) : DTS K B (tFor wi g tb) env D := fun σ H G E e l => by
  refine h σ H G _ e fun J H1 pu env1 G1 St fl Gv0 items s it st f ⟨I, nv, i0, turn, fin⟩ => ?_
  have l1 := l.on s.mv
  have cold := f.cold nv
  refine ⟨fun i m σ' H' => m = items.length - i ∧ i ≤ items.length ∧ ∃ env' G', Mv env1 G1 H1 env' G' H' ∧ EnvR K B σ' H' env' G' ∧ I i env', ⟨_, rfl, Nat.zero_le _, env1, G1, .refl, s.er, i0⟩, ?_⟩
  rintro i m σ' H' ⟨rfl, hi, env', G', mv, e', ii⟩
  have st' : St H' := it.per _ _ _ mv.stp cold st
  have cold' : ∀ a ∈ Gv0, ¬ Hot env' G' a := fun a ma z => by
    rcases mv.c1 a z with z | z
    · exact cold a ma z
    · obtain ⟨o, k⟩ := it.alloc H1 st a ma
      rw [z] at k; cases k
  by_cases hlt : i < items.length
  · right
    obtain ⟨x, hx⟩ : ∃ x, items[i]? = some x := ⟨_, List.getElem?_eq_getElem hlt⟩
    obtain ⟨go, yl⟩ := it.go i x H' hx st'
    refine ⟨go, fun σ2 H2 => ∃ env2 G2, Mv env1 G1 H1 env2 G2 H2 ∧ EnvR K B σ2 H2 env2 G2 ∧ I (i + 1) env2, fun σ2 H2 ⟨env2, G2, m2, e2, i2⟩ => ⟨items.length - (i + 1), by omega, rfl, hlt, env2, G2, m2, e2, i2⟩, fun y H2 hy => ?_⟩
    obtain ⟨sm, Gx, rx, sub⟩ := yl y H2 hy
    obtain ⟨ws, env3, hg, hb⟩ := turn i x env' hx ii
    have m2 : Mv env1 G1 H1 env' G' H2 := mv.trans (.same sm)
    refine hg σ' H2 G' y Gx _ (e'.same sm) rx (fun a ma => cold' a (sub a ma)) (fun a ma => e.org' (f.c3 a (sub a ma))) fun σ3 G3 m3 e3 _ _ _ _ => ?_
    have m13 := m2.trans m3
    refine hb σ3 H2 G3 _ e3 ⟨fun σ4 H4 env4 G4 m4 e4 h4 => ⟨env4, G4, m13.trans m4, e4, h4⟩, fun σ4 H4 env4 G4 m4 e4 h4 => l1.nx σ4 H4 env4 G4 (m13.trans m4) e4 h4, fun σ4 H4 env4 G4 m4 e4 h4 => ⟨env4, G4, m13.trans m4, e4, h4⟩, fun σ4 H4 env4 G4 v d fl' Gv m4 e4 r4 f4 h4 => l1.rt σ4 H4 env4 G4 v d fl' Gv (m13.trans m4) e4 r4 f4 h4⟩
  · have hi' : i = items.length := by omega
    subst hi'
    exact .inl ⟨it.stop H' st', l1.nx σ' H' env' G' mv e' (fin env' ii)⟩
/-! ### while -/
theorem dts_while {tc : TT} {tb : TS} (I : Nat → List Sl → Prop) (n0 : Nat) (i0 : I n0 env) (h : ∀ n env1, I n env1 → DTT K B tc env1 fun b pu env2 => if b = true then DTS K B tb env2 { D with nx := fun env3 => ∃ m, m < n ∧ I m env3, ct := fun env3 => ∃ m, m < n ∧ I m env3, bk := D.nx } else D.nx env2) : DTS K B (tWhile tc tb) env D := fun σ H G E e l => by
  refine ⟨fun m σ' H' => ∃ env' G', Mv env G H env' G' H' ∧ EnvR K B σ' H' env' G' ∧ I m env', ⟨n0, env, G, .refl, e, i0⟩, ?_⟩
  rintro m σ' H' ⟨env', G', mv, e', ii⟩
  refine h m env' ii σ' H' G' _ e' fun b H2 pu env2 G2 s hb => ?_
  have l2 := l.on (mv.trans s.mv)
  cases b with
  | false =>
    rw [if_neg Bool.false_ne_true] at hb ⊢
    exact l2.nx σ' H2 env2 G2 .refl s.er hb
  | true =>
    rw [if_pos rfl] at hb ⊢
    refine ⟨fun σ4 H4 => ∃ m', m' < m ∧ ∃ env4 G4, Mv env G H env4 G4 H4 ∧ EnvR K B σ4 H4 env4 G4 ∧ I m' env4, fun σ4 H4 ⟨m', lt, x⟩ => ⟨m', lt, x⟩, ?_⟩
    refine hb σ' H2 G2 _ s.er ⟨fun σ4 H4 env4 G4 m4 e4 ⟨m', lt, h4⟩ => ⟨m', lt, env4, G4, (mv.trans s.mv).trans m4, e4, h4⟩, fun σ4 H4 env4 G4 m4 e4 h4 => l2.nx σ4 H4 env4 G4 m4 e4 h4, fun σ4 H4 env4 G4 m4 e4 ⟨m', lt, h4⟩ => ⟨m', lt, env4, G4, (mv.trans s.mv).trans m4, e4, h4⟩, fun σ4 H4 env4 G4 v d fl' Gv m4 e4 r4 f4 h4 => l2.rt σ4 H4 env4 G4 v d fl' Gv m4 e4 r4 f4 h4⟩
end
end Fd
namespace Fd
open PySem PySem.Spec PyProof.Rows L2
/-! ### comprehensions -/
def wipeE (env : List Sl) : List Nat → List Sl
  | [] => env
  | v :: vs => (wipeE env vs).set v .no
def wipeG (G : Nat → List Addr) (vs : List Nat) (j : Nat) : List Addr := if j ∈ vs then [] else G j
theorem wipeE_len {env : List Sl} : ∀ vs : List Nat, (wipeE env vs).length = env.length
  | [] => rfl
  | v :: vs => by unfold wipeE; rw [List.length_set, wipeE_len vs]
theorem wipeE_out {env : List Sl} {j : Nat} : ∀ {vs : List Nat}, j ∉ vs → (wipeE env vs)[j]? = env[j]?
  | [], _ => rfl
  | v :: vs, h => by
    unfold wipeE
    rw [List.getElem?_set_ne fun z => h (by rw [z]; exact List.mem_cons_self)]
    exact wipeE_out fun z => h (List.mem_cons_of_mem _ z)
theorem wipeE_in {env : List Sl} {j : Nat} (hj : j < env.length) : ∀ {vs : List Nat}, j ∈ vs → (wipeE env vs)[j]? = some .no
  | [], h => nomatch h
  | v :: vs, h => by
    unfold wipeE
    by_cases e : v = j
    · subst e
      exact List.getElem?_set_self (by rw [wipeE_len]; exact hj)
    · rw [List.getElem?_set_ne e]
      exact wipeE_in hj ((List.mem_cons.mp h).resolve_left fun z => e z.symm)
theorem wipe_in {σ : L2.St} {j : Nat} (hj : j < σ.length) : ∀ {vs : List Nat}, j ∈ vs → (wipe σ vs)[j]? = some none
  | [], h => nomatch h
  | v :: vs, h => by
    unfold wipe
    by_cases e : v = j
    · subst e
      exact List.getElem?_set_self (by rw [wipe_length]; exact hj)
    · rw [List.getElem?_set_ne e]
      exact wipe_in hj ((List.mem_cons.mp h).resolve_left fun z => e z.symm)
theorem wipe_eq {σ σ2 : L2.St} {vs : List Nat} (hl : σ2.length = σ.length) (h : ∀ j, j ∉ vs → σ2[j]? = (wipe σ vs)[j]?) : wipe σ2 vs = wipe σ vs := by
  refine List.ext_getElem? fun j => ?_
  by_cases hj : j ∈ vs
  · by_cases hlt : j < σ.length
    · rw [wipe_in hlt hj, wipe_in (by rw [hl]; exact hlt) hj]
    · rw [List.getElem?_eq_none (by rw [wipe_length, hl]; exact Nat.not_lt.mp hlt), List.getElem?_eq_none (by rw [wipe_length]; exact Nat.not_lt.mp hlt)]
  · rw [wipe_out hj, h j hj]
section
variable {K : PySem.W.Frag} {B : Bs} {env env1 env2 : List Sl}
theorem EnvR.slots {σ σ' : L2.St} {H : Hp} {G : Nat → List Addr} (e : EnvR K B σ H env G) (hl : σ'.length = σ.length) (h : ∀ (j : Nat) (s : Sl), env[j]? = some s → s ≠ .no → σ'[j]? = σ[j]?) : EnvR K B σ' H env G :=
  ⟨hl.trans e.len, fun i s d h1 h2 => (let ⟨v, h3, r⟩ := e.rep i s d h1 h2; ⟨v, (h i s h1 fun z => by subst z; cases h2).trans h3, r⟩), e.non, e.nod, e.dis, fun i d h1 => (h i _ h1 fun z => nomatch z).trans (e.pin i d h1), e.loc, e.he, e.org, e.pc, e.mu, e.kp⟩
theorem EnvR.forget {σ : L2.St} {H : Hp} {G : Nat → List Addr} {vs : List Nat} (e : EnvR K B σ H env G) (np : ∀ j ∈ vs, ∀ d, env[j]? ≠ some (.pi d)) : EnvR K B σ H (wipeE env vs) (wipeG G vs) := by
  have down : ∀ (j : Nat) (s : Sl), (wipeE env vs)[j]? = some s → s ≠ .no → j ∉ vs ∧ env[j]? = some s := fun j s h n => by
    by_cases hj : j ∈ vs
    · by_cases hlt : j < env.length
      · rw [wipeE_in hlt hj] at h; cases h; exact absurd rfl n
      · rw [List.getElem?_eq_none (by rw [wipeE_len]; exact Nat.not_lt.mp hlt)] at h; cases h
    · rw [wipeE_out hj] at h; exact ⟨hj, h⟩
  have nn : ∀ s : Sl, s.hot = true → s ≠ .no := fun s h z => by subst z; cases h
  have g_out : ∀ j, j ∉ vs → wipeG G vs j = G j := fun j h => if_neg h
  have g_sub : ∀ j a, a ∈ wipeG G vs j → a ∈ G j := fun j a m => by
    unfold wipeG at m
    by_cases h : j ∈ vs
    · rw [if_pos h] at m; cases m
    · rw [if_neg h] at m; exact m
  refine ⟨by rw [wipeE_len]; exact e.len, fun j s d h1 h2 => ?_, fun j h => ?_, fun j s h1 h2 => ?_, fun j k s a n h1 h2 m m' => ?_, fun j d h => ?_, fun j d a h m => ?_, e.he, fun j a m => e.org j a (g_sub j a m), fun j d a h m => ?_, fun j s a h1 h2 m => ?_, fun j h => ?_⟩
  · obtain ⟨hj, h1⟩ := down j s h1 fun z => by subst z; cases h2
    rw [g_out j hj]; exact e.rep j s d h1 h2
  · unfold wipeG
    by_cases hj : j ∈ vs
    · exact if_pos hj
    · rw [if_neg hj]
      rw [wipeE_out hj] at h
      exact e.non j h
  · obtain ⟨hj, h1⟩ := down j s h1 (nn s h2)
    rw [g_out j hj]; exact e.nod j s h1 h2
  · obtain ⟨hj, h1⟩ := down j s h1 (nn s h2)
    exact e.dis j k s a n h1 h2 (g_sub j a m) (g_sub k a m')
  · obtain ⟨hj, h1⟩ := down j _ h fun z => nomatch z
    exact e.pin j d h1
  · obtain ⟨hj, h1⟩ := down j _ h fun z => nomatch z
    exact e.loc j d a h1 (g_sub j a m)
  · obtain ⟨hj, h1⟩ := down j _ h fun z => nomatch z
    exact e.pc j d a h1 (g_sub j a m)
  · obtain ⟨hj, h1⟩ := down j s h1 (nn s h2)
    exact e.mu j s a h1 h2 (g_sub j a m)
  · obtain ⟨d, h1⟩ := e.kp j h
    exact ⟨d, by rw [wipeE_out fun z => np j z d h1]; exact h1⟩
theorem hot_wipe {G : Nat → List Addr} {vs : List Nat} {a : Addr} (h : Hot (wipeE env vs) (wipeG G vs) a) : Hot env G a := by
  obtain ⟨j, s, h1, h2, m⟩ := h
  have hj : j ∉ vs := fun z => by
    unfold wipeG at m
    rw [if_pos z] at m; cases m
  rw [wipeE_out hj] at h1
  unfold wipeG at m
  rw [if_neg hj] at m
  exact ⟨j, s, h1, h2, m⟩
/-- a turn's end: the block's own names are forgotten -/
theorem turn_back {σ σ2 : L2.St} {H1 H' H2 H3 : Hp} {G1 G' G3 G4 : Nat → List Addr} {env' env3 env4 : List Sl} {pb p : Bool} {vs ws : List Nat} (s1 : Se K B σ env1 G1 H1 pb env' G' H') (sm : Same H' H2) (m3 : Mv env' G' H2 env3 G3 H2) (e3 : EnvR K B σ2 H2 env3 G3)
    (l3 : σ2.length = σ.length) (o3 : ∀ j, j ∉ ws → σ2[j]? = σ[j]?) (p3 : ∀ j, j ∉ ws → env3[j]? = env'[j]? ∧ G3 j = G' j) (s4 : Se K B σ2 env3 G3 H2 p env4 G4 H3) (hp : pb = true → p = true) (hw : ∀ j ∈ ws, j ∈ vs) (no : ∀ j ∈ vs, env'[j]? = some .no) (no1 : ∀ j ∈ vs, env1[j]? = some .no) (np : ∀ j ∈ vs, ∀ d, env4[j]? ≠ some (.pi d)) :
    Se K B σ env1 G1 H1 pb (wipeE env4 vs) (wipeG G4 vs) H3 ∧ (∀ a, All (wipeG G4 vs) a → All G' a ∨ H' a = none) ∧ ∀ j ∈ vs, (wipeE env4 vs)[j]? = some .no := by
  have hotd : ∀ a, Hot env3 G3 a → Hot env' G' a ∨ H' a = none := fun a z => by
    rcases m3.c1 a z with z | z
    · exact .inl z
    · exact .inr (sm.free z)
  have hot4 : ∀ a, Hot (wipeE env4 vs) (wipeG G4 vs) a → Hot env' G' a ∨ H' a = none := fun a z => by
    rcases s4.mv.c1 a (hot_wipe z) with z | z
    · exact hotd a z
    · exact .inr (sm.free z)
  have len4 : env4.length = env'.length := by
    rw [s4.ln, ← e3.len, l3, s1.er.len]
  have all4 : ∀ a, All (wipeG G4 vs) a → All G' a ∨ H' a = none := fun a ⟨j, m⟩ => by
    have hj : j ∉ vs := fun z => by unfold wipeG at m; rw [if_pos z] at m; cases m
    have hjw : j ∉ ws := fun z => hj (hw j z)
    have m' : a ∈ G4 j := by unfold wipeG at m; rw [if_neg hj] at m; exact m
    obtain ⟨x1, x2⟩ := p3 j hjw
    cases h : env3[j]? with
    | none =>
      have : env4[j]? = none := by
        rw [List.getElem?_eq_none_iff] at h ⊢
        rw [s4.ln]; exact h
      rw [s4.er.non j (.inr this)] at m'; cases m'
    | some sl =>
      cases hh : sl.hot with
      | false =>
        obtain ⟨_, g⟩ := s4.cs j sl h hh
        rw [g, x2] at m'
        exact .inl ⟨j, m'⟩
      | true =>
        obtain ⟨d, h4⟩ := s4.hs j sl h hh
        rcases s4.mv.c1 a ⟨j, _, h4, Sl.put_hot hh d, m'⟩ with z | z
        · exact (hotd a z).imp_left Hot.all
        · exact .inr (sm.free z)
  have er6 : EnvR K B σ H3 (wipeE env4 vs) (wipeG G4 vs) := by
    refine (s4.er.forget np).slots l3.symm fun j s h n => ?_
    have hj : j ∉ vs := fun z => by
      by_cases hlt : j < env4.length
      · rw [wipeE_in hlt z] at h; cases h; exact n rfl
      · rw [List.getElem?_eq_none (by rw [wipeE_len]; exact Nat.not_lt.mp hlt)] at h; cases h
    exact (o3 j fun z => hj (hw j z)).symm
  refine ⟨⟨⟨s1.mv.stp.trans ((Stp.same sm).trans (s4.mv.stp.mono fun a z => z) (M1 := Hot env3 G3) (M := Hot env' G') hotd) s1.mv.c1, fun a z => ?_⟩, fun a z => ?_, fun j s h k => ?_, fun j s h k => ?_, ?_, er6, fun hpb => ?_⟩, all4, fun j hj => ?_⟩
  · rcases hot4 a z with z | z
    · exact s1.mv.c1 a z
    · exact .inr (s1.mv.stp.al a z)
  · rcases all4 a z with z | z
    · exact s1.c2 a z
    · exact .inr (s1.mv.stp.al a z)
  · by_cases hj : j ∈ vs
    · have hlt : j < env4.length := by
        rw [len4]; exact (List.getElem?_eq_some_iff.mp (no j hj)).1
      rw [no1 j hj] at h; cases h
      refine ⟨wipeE_in hlt hj, ?_⟩
      unfold wipeG
      rw [if_pos hj]
      -- nothing hung there
      have := s1.cs j .no (no1 j hj) rfl
      rw [← this.2]
      exact (s1.er.non j (.inl (no j hj))).symm
    · obtain ⟨y1, y2⟩ := s1.cs j s h k
      obtain ⟨x1, x2⟩ := p3 j fun z => hj (hw j z)
      obtain ⟨z1, z2⟩ := s4.cs j s (x1.trans y1) k
      refine ⟨by rw [wipeE_out hj]; exact z1, ?_⟩
      unfold wipeG
      rw [if_neg hj]
      exact z2.trans (x2.trans y2)
  · have hj : j ∉ vs := fun z => by rw [no1 j z] at h; cases h; cases k
    obtain ⟨d1, y1⟩ := s1.hs j s h k
    obtain ⟨x1, _⟩ := p3 j fun z => hj (hw j z)
    obtain ⟨d2, z1⟩ := s4.hs j _ (x1.trans y1) (Sl.put_hot k d1)
    rw [Sl.put_put] at z1
    exact ⟨d2, by rw [wipeE_out hj]; exact z1⟩
  · rw [wipeE_len, len4]; exact s1.ln
  · obtain ⟨q1, q2, q3⟩ := s1.pr hpb
    obtain ⟨r1, r2, r3⟩ := s4.pr (hp hpb)
    refine ⟨q1.trans (sm.trans r1), ?_, ?_⟩
    · rw [← q2]
      refine List.ext_getElem? fun j => ?_
      by_cases hj : j ∈ vs
      · rw [no j hj]
        exact wipeE_in (by rw [len4]; exact (List.getElem?_eq_some_iff.mp (no j hj)).1) hj
      · rw [wipeE_out hj, r2]
        exact (p3 j fun z => hj (hw j z)).1
    · rw [← q3]
      funext j
      unfold wipeG
      by_cases hj : j ∈ vs
      · rw [if_pos hj]
        exact (s1.er.non j (.inl (no j hj))).symm
      · rw [if_neg hj, r3]
        exact (p3 j fun z => hj (hw j z)).2
  · exact wipeE_in (by rw [len4]; exact (List.getElem?_eq_some_iff.mp (no j hj)).1) hj
theorem EnvR.upd1 {σ : L2.St} {H : Hp} {G : Nat → List Addr} {D : Addr} {o : HO} (e : EnvR K B σ H env G) (h : ¬ All G D) (hD : H D ≠ none) (nm : ∀ u, H D = some u → Mu u) : EnvR K B σ (upd H D o) env G := by
  have st : Stp (fun a => a = D) H (upd H D o) := ⟨fun a u q n => by
    by_cases z : a = D
    · subst z; exact absurd rfl (n (nm u q))
    · rw [upd_ne z]; exact q, fun a q => by
    by_cases z : a = D
    · subst z; rw [upd_same] at q; cases q
    · rw [upd_ne z] at q; exact q⟩
  exact ⟨e.len, fun i s d h1 h2 => (let ⟨v, h3, r⟩ := e.rep i s d h1 h2; ⟨v, h3, r.step st fun a m z => h ⟨i, by rw [← z]; exact m⟩⟩), e.non, e.nod, e.dis, e.pin, e.loc, fun a q => e.he a (st.al a q), e.org, e.pc, fun i s a h1 h2 m => (by
    obtain ⟨u, q, mm⟩ := e.mu i s a h1 h2 m
    refine ⟨u, ?_, mm⟩
    rw [upd_ne fun z => h ⟨i, by rw [← z]; exact m⟩]
    exact q), e.kp⟩
theorem Se.puW {σ : L2.St} {H H1 : Hp} {G G1 : Nat → List Addr} (s : Se K B σ env G H true env1 G1 H1) (pb : Bool) : Se K B σ env G H pb env1 G1 H1 := ⟨s.mv, s.c2, s.cs, s.hs, s.ln, s.er, fun _ => s.pr rfl⟩
theorem flm_nv {a b : Fl} (h1 : a ≠ .view) (h2 : b ≠ .view) : flm a b ≠ .view := by
  cases a <;> cases b <;> first | exact absurd rfl h1 | exact absurd rfl h2 | decide
theorem dt_lc {P : Dv → Fl → Bool → List Sl → Prop} {wi : TI} {g : TG} {tt : TT} {te : TE} {vs : List Nat} (pb : Bool) (h : DI K B wi env fun items fl pu env1 => ∃ I : Nat → List Dv → Fl → List Sl → Prop, (fl = .view → pb = true) ∧ (∀ j ∈ vs, env1[j]? = some .no) ∧ I 0 [] .fresh env1 ∧
    (∀ k x acc f env2, items[k]? = some x → I k acc f env2 → ∃ ws env3, (∀ j ∈ ws, j ∈ vs) ∧ DG K B ws g x env2 env3 ∧ (∀ j ∈ vs, ∀ d, env3[j]? ≠ some (.pi d)) ∧ (fl = .view → x.pur = true) ∧
      DTT K B tt env3 fun b p env4 => (pb = true → p = true) ∧ if b = true then DT K B te env4 fun y fy p2 env5 => (pb = true → p2 = true) ∧ ef y fy ≠ .view ∧ acc.length < sizeLine ∧ I (k + 1) (acc ++ [y]) (flm f (ef y fy)) (wipeE env5 vs) else I (k + 1) acc f (wipeE env4 vs)) ∧
    (∀ acc f env2, I items.length acc f env2 → P (.lst acc) f (pu && pb) env2)) : DT K B (tLc wi g tt te vs) env P := fun σ H G Q e q => by
  refine h σ H G _ e fun J H1 pu env1 G1 St fl Gv0 items s it st f ⟨I, nv, no, i0, turn, fin⟩ => ?_
  intro D hD
  have D0 : ¬ All G1 D := s.er.not_all hD
  have DH : H D = none := s.mv.stp.al D hD
  have DG0 : D ∉ Gv0 := fun m => by
    obtain ⟨o, k⟩ := it.alloc H1 st D m
    rw [hD] at k; cases k
  have slot_b : ∀ (j : Nat) (sl : Sl), env1[j]? = some sl → sl ≠ .no → (wipe σ vs)[j]? = σ[j]? := fun j sl h1 h2 => wipe_out fun z => by
    rw [no j z] at h1; cases h1; exact h2 rfl
  have eb : EnvR K B (wipe σ vs) H1 env1 G1 := s.er.slots (wipe_length σ vs) slot_b
  -- the walk's word
  refine ⟨fun i m H' => m = items.length - i ∧ i ≤ items.length ∧ ∃ acc f' env' G' accV Gacc, Se K B (wipe σ vs) env1 G1 H1 pb env' G' H' ∧ H' D = some (.lst accV) ∧ Reps K H' accV acc Gacc ∧ ¬ All G' D ∧ D ∉ Gacc ∧ f' ≠ .view ∧ Vf H G env' G' H' f' Gacc ∧ (∀ j ∈ vs, env'[j]? = some .no) ∧ I i acc f' env',
    ⟨_, rfl, Nat.zero_le _, [], .fresh, env1, G1, [], [], .puW (.same eb (same_new hD)) pb, upd_same, .nil, D0, (fun m => nomatch m), (fun z => nomatch z), .nil, no, i0⟩, ?_⟩
  rintro i m H' ⟨rfl, hi, acc, f', env', G', accV, Gacc, s1, hDl, racc, nD, nDg, nvf, vf, no', ii⟩
  have st' : St H' := by
    cases hfl : fl with
    | view =>
      obtain ⟨sm, _, _⟩ := s1.pr (nv hfl)
      exact it.per (fun _ => False) _ _ (.same sm) (fun _ _ z => z) st
    | cold => exact it.per _ _ _ s1.mv.stp (f.cold (by rw [hfl]; exact fun z => nomatch z)) st
    | fresh => exact it.per _ _ _ s1.mv.stp (f.cold (by rw [hfl]; exact fun z => nomatch z)) st
  by_cases hlt : i < items.length
  case neg =>
    have hi' : i = items.length := by omega
    subst hi'
    left
    refine ⟨it.stop H' st', ?_⟩
    have es : EnvR K B σ H' env' G' := s1.er.slots (wipe_length σ vs).symm fun j sl h1 h2 => (wipe_out fun z => by rw [no' j z] at h1; cases h1; exact h2 rfl).symm
    have s2 : Se K B σ env1 G1 H1 pb env' G' H' := ⟨s1.mv, s1.c2, s1.cs, s1.hs, s1.ln, es, s1.pr⟩
    refine q (.ref D) H' (.lst acc) f' _ env' G' (D :: Gacc) (s.trans s2) (.lst hDl racc) ⟨fun _ a ma => ?_, fun hf => ⟨List.nodup_cons.mpr ⟨nDg, (vf.fr hf).1⟩, fun a ma => ?_⟩, fun a ma => ?_⟩ (fin acc f' env' ii)
    · rcases List.mem_cons.mp ma with rfl | ma
      · exact fun z => nD z.all
      · exact vf.cold nvf a ma
    · rcases List.mem_cons.mp ma with rfl | ma
      · exact ⟨⟨DH, nD⟩, _, hDl, True.intro⟩
      · exact (vf.fr hf).2 a ma
    · rcases List.mem_cons.mp ma with rfl | ma
      · exact .inr DH
      · exact vf.c3 a ma
  case pos =>
    right
    obtain ⟨x, hx⟩ : ∃ x, items[i]? = some x := ⟨_, List.getElem?_eq_getElem hlt⟩
    obtain ⟨go, yl⟩ := it.go i x H' hx st'
    refine ⟨go, fun H3 => ∃ acc f' env' G' accV Gacc, Se K B (wipe σ vs) env1 G1 H1 pb env' G' H3 ∧ H3 D = some (.lst accV) ∧ Reps K H3 accV acc Gacc ∧ ¬ All G' D ∧ D ∉ Gacc ∧ f' ≠ .view ∧ Vf H G env' G' H3 f' Gacc ∧ (∀ j ∈ vs, env'[j]? = some .no) ∧ I (i + 1) acc f' env',
      fun H3 h3 => ⟨items.length - (i + 1), by omega, rfl, hlt, h3⟩, fun y H2 hy => ?_⟩
    obtain ⟨sm, Gx, rx, sub⟩ := yl y H2 hy
    obtain ⟨ws, env3, hws, hg, np, pv, hb⟩ := turn i x acc f' env' hx ii
    have coldx : ∀ a ∈ Gx, ¬ Hot env' G' a := fun a ma z => by
      cases hfl : fl with
      | view =>
        have := rx.purG (pv hfl)
        rw [this] at ma; cases ma
      | cold =>
        rcases s1.mv.c1 a z with z | z
        · exact f.cold (by rw [hfl]; exact fun z => nomatch z) a (sub a ma) z
        · obtain ⟨o, k⟩ := it.alloc H1 st a (sub a ma)
          rw [z] at k; cases k
      | fresh =>
        rcases s1.mv.c1 a z with z | z
        · exact f.cold (by rw [hfl]; exact fun z => nomatch z) a (sub a ma) z
        · obtain ⟨o, k⟩ := it.alloc H1 st a (sub a ma)
          rw [z] at k; cases k
    refine hg _ H2 G' y Gx _ (s1.er.same sm) rx coldx (fun a ma => e.org' (f.c3 a (sub a ma))) fun σ2 G3 m3 e3 l3 o3 p3 a3 => ⟨?_, ?_⟩
    · exact wipe_eq (l3.trans (wipe_length σ vs)) fun j hj => o3 j fun z => hj (hws j z)
    have nD3 : ¬ All G3 D := fun z => by
      rcases a3 D z with z | z
      · exact nD z
      · exact DG0 (sub D z)
    refine hb σ2 H2 G3 _ e3 fun b H3 p env4 G4 s4 ⟨hp, hb⟩ => ?_
    have np4 : ∀ j ∈ vs, ∀ d, env4[j]? ≠ some (.pi d) := fun j hj d z => by
      cases h3 : env3[j]? with
      | none =>
        have : env4[j]? = none := by rw [List.getElem?_eq_none_iff] at h3 ⊢; rw [s4.ln]; exact h3
        rw [this] at z; cases z
      | some sl =>
        cases hh : sl.hot with
        | false =>
          obtain ⟨k, _⟩ := s4.cs j sl h3 hh
          rw [k] at z; cases z; cases hh
        | true =>
          obtain ⟨d', k⟩ := s4.hs j sl h3 hh
          rw [k] at z
          cases sl with
          | no => cases hh
          | co d => cases hh
          | ho d => cases z
          | pi d => exact np j hj d h3
    -- what lies at D, and what was made so far, stays while an element is reckoned
    have lay : ∀ {H4 : Hp} {pz : Bool} {env5 : List Sl} {G5 : Nat → List Addr}, Se K B σ2 env3 G3 H2 pz env5 G5 H4 → H4 D = some (.lst accV) ∧ Reps K H4 accV acc Gacc := fun {H4 pz env5 G5} sz => by
      have hot3 : ∀ a, Hot env3 G3 a → Hot env' G' a ∨ H' a = none := fun a z => by
        rcases m3.c1 a z with z | z
        · exact .inl z
        · exact .inr (sm.free z)
      refine ⟨sz.mv.stp.keep D _ (sm D _ hDl) fun _ z => nD3 z.all, (racc.step (M := fun _ => False) (.same sm) fun _ _ z => z).step sz.mv.stp fun a ma z => ?_⟩
      rcases hot3 a z with z | z
      · exact vf.cold nvf a ma z
      · obtain ⟨o, k⟩ := racc.alloc a ma
        rw [z] at k; cases k
    have vfK : ∀ {H4 : Hp} {pz : Bool} {env5 : List Sl} {G5 : Nat → List Addr}, Se K B σ2 env3 G3 H2 pz env5 G5 H4 → (∀ a, All (wipeG G5 vs) a → All G' a ∨ H' a = none) → Vf H G (wipeE env5 vs) (wipeG G5 vs) H4 f' Gacc := fun {H4 pz env5 G5} sz all5 => by
      have al : ∀ a ∈ Gacc, H' a ≠ none := fun a ma z => by
        obtain ⟨o, k⟩ := racc.alloc a ma
        rw [z] at k; cases k
      have hot3 : ∀ a, Hot env3 G3 a → Hot env' G' a ∨ H' a = none := fun a z => by
        rcases m3.c1 a z with z | z
        · exact .inl z
        · exact .inr (sm.free z)
      refine ⟨fun _ a ma z => ?_, fun hf => ⟨(vf.fr hf).1, fun a ma => ⟨⟨((vf.fr hf).2 a ma).1.1, fun z => ?_⟩, ?_⟩⟩, vf.c3⟩
      · rcases sz.mv.c1 a (hot_wipe z) with z | z
        · rcases hot3 a z with z | z
          · exact vf.cold nvf a ma z
          · exact al a ma z
        · exact al a ma (sm.free z)
      · rcases all5 a z with z | z
        · exact ((vf.fr hf).2 a ma).1.2 z
        · exact al a ma z
      · obtain ⟨o, k, mm⟩ := ((vf.fr hf).2 a ma).2
        refine ⟨o, sz.mv.stp.keep a o (sm a o k) fun _ z => ?_, mm⟩
        rcases hot3 a z with z | z
        · exact vf.cold nvf a ma z
        · exact al a ma z
    cases b with
    | false =>
      rw [if_neg Bool.false_ne_true] at hb ⊢
      obtain ⟨sb, all5, no5⟩ := turn_back s1 sm m3 e3 l3 o3 p3 s4 hp hws no' no np4
      obtain ⟨q1, q2⟩ := lay s4
      refine ⟨acc, f', _, _, accV, Gacc, sb, q1, q2, fun z => ?_, nDg, nvf, vfK s4 all5, no5, hb⟩
      rcases all5 D z with z | z
      · exact nD z
      · rw [hDl] at z; cases z
    | true =>
      rw [if_pos rfl] at hb ⊢
      refine hb σ2 H3 G4 _ s4.er fun v H4 yd fy p2 env5 G5 Gy s5 ry fvy ⟨hp2, nvy, hsz, hI⟩ => ?_
      have s45 := s4.trans s5
      have np5 : ∀ j ∈ vs, ∀ d, env5[j]? ≠ some (.pi d) := fun j hj d z => by
        cases h3 : env4[j]? with
        | none =>
          have : env5[j]? = none := by rw [List.getElem?_eq_none_iff] at h3 ⊢; rw [s5.ln]; exact h3
          rw [this] at z; cases z
        | some sl =>
          cases hh : sl.hot with
          | false =>
            obtain ⟨k, _⟩ := s5.cs j sl h3 hh
            rw [k] at z; cases z; cases hh
          | true =>
            obtain ⟨d', k⟩ := s5.hs j sl h3 hh
            rw [k] at z
            cases sl with
            | no => cases hh
            | co d => cases hh
            | ho d => cases z
            | pi d => exact np4 j hj d h3
      obtain ⟨sb, all5, no5⟩ := turn_back s1 sm m3 e3 l3 o3 p3 s45 (fun z => by rw [hp z, hp2 z]; rfl) hws no' no np5
      obtain ⟨q1, q2⟩ := lay s45
      have nD6 : ¬ All (wipeG G5 vs) D := fun z => by
        rcases all5 D z with z | z
        · exact nD z
        · rw [hDl] at z; cases z
      have q3 : H3 D = some (.lst accV) := (lay s4).1
      have nDy : D ∉ Gy := fun m => by
        rcases fvy.c3 D m with z | z
        · rcases s4.c2 D z with z | z
          · exact nD3 z
          · rw [sm D _ hDl] at z; cases z
        · rw [q3] at z; cases z
      refine ⟨accV, q1, by rw [q2.len]; exact hsz, acc ++ [yd], flm f' (ef yd fy), _, _, accV ++ [v], Gacc ++ Gy, ?_, upd_same, ?_, nD6, ?_, ?_, ?_, no5, hI⟩
      · have er7 := sb.er.upd1 (o := .lst (accV ++ [v])) nD6 (by rw [q1]; exact fun z => nomatch z) (fun u z => by rw [q1] at z; cases z; exact True.intro)
        refine ⟨⟨⟨fun a o k n => ?_, fun a k => ?_⟩, sb.mv.c1⟩, sb.c2, sb.cs, sb.hs, sb.ln, er7, fun z => ?_⟩
        · have : a ≠ D := fun z => by rw [z, hD] at k; cases k
          rw [upd_ne this]; exact sb.mv.stp.keep a o k n
        · refine sb.mv.stp.al a ?_
          by_cases z : a = D
          · subst z; rw [upd_same] at k; cases k
          · rw [upd_ne z] at k; exact k
        · obtain ⟨k1, k2, k3⟩ := sb.pr z
          refine ⟨fun a o k => ?_, k2, k3⟩
          have : a ≠ D := fun z => by rw [z, hD] at k; cases k
          rw [upd_ne this]; exact k1 a o k
      · have st1 : Stp (fun a => a = D) H4 (upd H4 D (.lst (accV ++ [v]))) := ⟨fun a u k n => by
          by_cases z : a = D
          · subst z; rw [q1] at k; cases k; exact absurd rfl (n True.intro)
          · rw [upd_ne z]; exact k, fun a k => by
          by_cases z : a = D
          · subst z; rw [upd_same] at k; cases k
          · rw [upd_ne z] at k; exact k⟩
        exact (q2.app (Reps.one ry)).step st1 fun a m z => by
          subst z
          rcases List.mem_append.mp m with m | m
          · exact nDg m
          · exact nDy m
      · exact fun m => (List.mem_append.mp m).elim nDg nDy
      · exact flm_nv nvf nvy
      · have v1 := vfK s45 all5
        have v2 := fvy.ef ry
        have al3 : ∀ a, H3 a = none → H a = none := fun a z => s.mv.stp.al a (s1.mv.stp.al a (sm.free (s4.mv.stp.al a z)))
        refine ⟨fun _ a m => ?_, fun hf => ?_, fun a m => ?_⟩
        · rcases List.mem_append.mp m with m | m
          · exact v1.cold nvf a m
          · exact fun z => v2.cold nvy a m (hot_wipe z)
        · obtain ⟨n1, n2⟩ := flm_fresh hf
          refine ⟨List.nodup_append.mpr ⟨(v1.fr n1).1, (v2.fr n2).1, fun a ma b mb z => ?_⟩, fun a m => ?_⟩
          · subst z
            have k1 := ((v2.fr n2).2 a mb).1.1
            obtain ⟨o, k⟩ := (lay s4).2.alloc a ma
            rw [k1] at k; cases k
          · rcases List.mem_append.mp m with m | m
            · obtain ⟨k1, o, k2, mm⟩ := (v1.fr n1).2 a m
              exact ⟨k1, o, (upd_ne (show a ≠ D from fun z => nDg (by rw [← z]; exact m))).trans k2, mm⟩
            · obtain ⟨⟨k1, k3⟩, o, k2, mm⟩ := (v2.fr n2).2 a m
              refine ⟨⟨al3 a k1, fun ⟨j, z⟩ => k3 ⟨j, ?_⟩⟩, o, (upd_ne (show a ≠ D from fun z => nDy (by rw [← z]; exact m))).trans k2, mm⟩
              unfold wipeG at z
              by_cases hj : j ∈ vs
              · rw [if_pos hj] at z; cases z
              · rw [if_neg hj] at z; exact z
        · rcases List.mem_append.mp m with m | m
          · exact vf.c3 a m
          · rcases fvy.c3 a m with z | z
            · rcases s4.c2 a z with z | z
              · rcases a3 a z with z | z
                · rcases s1.c2 a z with z | z
                  · exact s.c2 a z
                  · exact .inr (s.mv.stp.al a z)
                · exact f.c3 a (sub a z)
              · exact .inr (s.mv.stp.al a (s1.mv.stp.al a (sm.free z)))
            · exact .inr (al3 a z)
end
end Fd
namespace Fd
open PySem PySem.Spec PyProof.Rows L2
section
variable {K : PySem.W.Frag} {B : Bs} {env env1 env2 : List Sl} {D : Ds} {P : Dv → Fl → Bool → List Sl → Prop} {ta tb te tl : TE} {t u : TS} {c : TT} {tr : TA}
/-! ### one's own thing changes -/
theorem EnvR.put {σ : L2.St} {H H' : Hp} {G : Nat → List Addr} {i : Nat} {s : Sl} {v : V} {d : Dv} {g : List Addr} (e : EnvR K B σ H env G) (hi : env[i]? = some s) (hs : s.hot = true) (hv : σ[i]? = some (some v)) (st : Stp (fun a => a ∈ G i) H H') (r : Rep K H' v d g)
    (nd : g.Nodup) (from_ : ∀ a ∈ g, a ∈ G i ∨ (H a = none)) (mu : ∀ a ∈ g, ∃ o, H' a = some o ∧ Mu o) : EnvR K B σ H' (env.set i (s.put d)) (setG G i g) := by
  have hlt : i < env.length := (List.getElem?_eq_some_iff.mp hi).1
  have at_i : (env.set i (s.put d))[i]? = some (s.put d) := List.getElem?_set_self hlt
  have at_j : ∀ j, j ≠ i → (env.set i (s.put d))[j]? = env[j]? := fun j n => List.getElem?_set_ne (Ne.symm n)
  have alive : ∀ j a, a ∈ G j → H a ≠ none := fun j a m z => by
    obtain ⟨o, k⟩ := e.alloc m
    rw [z] at k; cases k
  refine ⟨by rw [List.length_set]; exact e.len, fun j sj dj h1 h2 => ?_, fun j h => ?_, fun j sj h1 h2 => ?_, fun j k sj a n h1 h2 m => ?_, fun j dj h => ?_, fun j dj a h m => ?_, fun a h => e.he a (st.al a h), fun j a m => ?_, fun j dj a h m => ?_, fun j sj a h1 h2 m => ?_, fun j h => ?_⟩
  · by_cases n : j = i
    · subst n
      rw [at_i] at h1; cases h1
      rw [put_dv] at h2; cases h2
      rw [setG_same]
      exact ⟨v, hv, r⟩
    · rw [at_j j n] at h1
      rw [setG_ne n]
      obtain ⟨w', h3, r'⟩ := e.rep j sj dj h1 h2
      exact ⟨w', h3, r'.step st fun a m z => e.dis i j s a (Ne.symm n) hi hs z m⟩
  · by_cases n : j = i
    · subst n
      rcases h with h | h
      · rw [at_i] at h
        cases s with
        | no => cases hs
        | co d' => cases hs
        | ho d' =>
          have h : some (Sl.ho d) = some Sl.no := h
          cases h
        | pi d' =>
          have h : some (Sl.pi d) = some Sl.no := h
          cases h
      · rw [at_i] at h; cases h
    · rw [at_j j n] at h
      rw [setG_ne n]; exact e.non j h
  · by_cases n : j = i
    · subst n; rw [setG_same]; exact nd
    · rw [at_j j n] at h1
      rw [setG_ne n]; exact e.nod j sj h1 h2
  · by_cases nj : j = i
    · subst nj
      rw [setG_same] at m
      rw [setG_ne (Ne.symm n)]
      rcases from_ a m with z | z
      · exact e.dis j k s a n hi hs z
      · exact fun m' => alive k a m' z
    · rw [at_j j nj] at h1
      rw [setG_ne nj] at m
      by_cases nk : k = i
      · subst nk
        rw [setG_same]
        intro m'
        rcases from_ a m' with z | z
        · exact e.dis j k sj a n h1 h2 m z
        · exact alive j a m z
      · rw [setG_ne nk]
        exact e.dis j k sj a n h1 h2 m
  · by_cases n : j = i
    · subst n
      rw [at_i] at h
      cases s with
      | no => cases hs
      | co d => cases hs
      | ho d => cases h
      | pi d' => exact e.pin j d' hi
    · rw [at_j j n] at h
      exact e.pin j dj h
  · by_cases n : j = i
    · subst n
      rw [at_i] at h
      rw [setG_same] at m
      cases s with
      | no => cases hs
      | co d => cases hs
      | ho d' =>
        rcases from_ a m with z | z
        · exact e.loc j d' a hi z
        · exact e.he a z
      | pi d' => cases h
    · rw [at_j j n] at h
      rw [setG_ne n] at m
      exact e.loc j dj a h m
  · by_cases n : j = i
    · subst n
      rw [setG_same] at m
      rcases from_ a m with z | z
      · exact e.org j a z
      · exact .inr (e.he a z)
    · rw [setG_ne n] at m
      exact e.org j a m
  · by_cases n : j = i
    · subst n
      rw [at_i] at h
      rw [setG_same] at m
      cases s with
      | no => cases hs
      | co d => cases hs
      | ho d' => cases h
      | pi d' =>
        rcases from_ a m with z | z
        · exact e.pc j d' a hi z
        · exact .inr (e.he a z)
    · rw [at_j j n] at h
      rw [setG_ne n] at m
      exact e.pc j dj a h m
  · by_cases n : j = i
    · subst n
      rw [setG_same] at m
      exact mu a m
    · rw [at_j j n] at h1
      rw [setG_ne n] at m
      obtain ⟨o, k, mm⟩ := e.mu j sj a h1 h2 m
      exact ⟨o, st.keep a o k fun _ z => e.dis i j s a (Ne.symm n) hi hs z m, mm⟩
  · obtain ⟨dj, h'⟩ := e.kp j h
    by_cases n : j = i
    · subst n
      rw [hi] at h'; cases h'
      exact ⟨d, at_i⟩
    · exact ⟨dj, by rw [at_j j n]; exact h'⟩
theorem mv_put {H H' : Hp} {G : Nat → List Addr} {i : Nat} {s s' : Sl} {g : List Addr} (hi : env[i]? = some s) (hs : s.hot = true) (st : Stp (fun a => a ∈ G i) H H') (from_ : ∀ a ∈ g, a ∈ G i ∨ H a = none) : Mv env G H (env.set i s') (setG G i g) H' :=
  ⟨st.mono fun a m => ⟨i, s, hi, hs, m⟩, fun a z => by
    rcases hot_set z with z | ⟨_, m⟩
    · exact .inl z
    · rcases from_ a m with z | z
      · exact .inl ⟨i, s, hi, hs, z⟩
      · exact .inr z⟩
theorem hot_dv {s : Sl} (h : s.hot = true) : ∃ d, s.dv = some d := by
  cases s with
  | no => cases h
  | co d => cases h
  | ho d => exact ⟨d, rfl⟩
  | pi d => exact ⟨d, rfl⟩
theorem stp_one {H : Hp} {a : Addr} {o u : HO} {M : Addr → Prop} (h : H a = some u) (hu : Mu u) (m : M a) : Stp M H (upd H a o) :=
  ⟨fun b w q n => by
    by_cases z : b = a
    · subst z; rw [h] at q; cases q; exact absurd m (n hu)
    · rw [upd_ne z]; exact q, fun b q => by
    by_cases z : b = a
    · subst z; rw [upd_same] at q; cases q
    · rw [upd_ne z] at q; exact q⟩
theorem Reps.setP {H : Hp} : ∀ {vs : List V} {ds : List Dv} {G : List Addr} (j : Nat) {v : V} {d : Dv}, Reps K H vs ds G → Dv.purs ds = true → Rep K H v d [] → Reps K H (vs.set j v) (ds.set j d) []
  | _, _, _, j, v, d, .nil, _, _ => .nil
  | _, _, _, 0, v, d, .cons h r, p, q => by
    have p' : _ ∧ _ := Bool.and_eq_true_iff.mp p
    have := r.purG p'.2
    subst this
    exact .cons q r
  | _, _, _, j + 1, v, d, .cons h r, p, q => by
    have p' : _ ∧ _ := Bool.and_eq_true_iff.mp p
    have := h.purG p'.1
    subst this
    exact .cons h (Reps.setP j r p'.2 q)
/-- x[i] = e, x a list of one's own of what can't change -/
theorem dts_setIx {i : Nat} {ti : TE} (h : DT K B te env fun d fl p1 env1 => d.pur = true ∧ (∃ s, env1[i]? = some s ∧ s.hot = true) ∧ DT K B ti env1 fun di _ _ env2 => ∃ s xs k j, env2[i]? = some s ∧ s.hot = true ∧ s.dv = some (.lst xs) ∧ di = .int k ∧ ixN xs.length k = some j ∧ Dv.purs xs = true ∧ D.nx (env2.set i (s.put (.lst (xs.set j d))))) :
    DTS K B (tAsg te (gSub (tVar i) ti rSetL)) env D := fun σ H G E e l => by
  refine h σ H G _ e fun v H1 d fl p1 env1 G1 Gv s1 r f ⟨hp, ⟨sl1, k1, k2⟩, h1⟩ => ?_
  have hG := r.purG hp
  subst hG
  obtain ⟨dx, hdx⟩ := hot_dv k2
  obtain ⟨x, hx, _⟩ := s1.er.rep i sl1 dx k1 hdx
  refine ⟨x, hx, h1 σ H1 G1 _ s1.er fun vi H2 di fi p2 env2 G2 Gi s2 ri fi' ⟨sl, xs, k, j, e1, e2, e3, e4, e5, e6, hn⟩ => ?_⟩
  subst e4
  cases ri
  obtain ⟨x', hx', rx⟩ := s2.er.rep i sl _ e1 e3
  rw [hx] at hx'; cases hx'
  obtain ⟨r2, _⟩ := pend s2 r (f.ef r) (fun z => by unfold Fd.ef at z; rw [if_pos hp] at z; cases z)
  generalize hg : G2 i = g at rx
  cases rx with
  | @lst a vs _ g ha ra =>
    have hz := ra.purG e6
    subst hz
    refine ⟨a, vs, k, j, rfl, rfl, ha, by rw [ra.len]; exact e5, ?_⟩
    have st : Stp (fun b => b ∈ G2 i) H2 (upd H2 a (.lst (vs.set j v))) := stp_one ha True.intro (by rw [hg]; exact List.mem_cons_self)
    have st1 : Stp (fun b => b = a) H2 (upd H2 a (.lst (vs.set j v))) := stp_one ha True.intro rfl
    have rn : Rep K (upd H2 a (.lst (vs.set j v))) (.ref a) (.lst (xs.set j d)) [a] := .lst upd_same ((ra.setP j e6 r2).step st1 fun b m => (nomatch m))
    have fr : ∀ b ∈ [a], b ∈ G2 i ∨ H2 b = none := fun b m => .inl (by rw [hg]; exact m)
    have er := s2.er.put e1 e2 hx st rn (List.nodup_cons.mpr ⟨fun m => (nomatch m), .nil⟩) fr fun b m => by
      rcases List.mem_cons.mp m with rfl | m
      · exact ⟨_, upd_same, True.intro⟩
      · cases m
    exact l.nx σ _ _ _ ((s1.mv.trans s2.mv).trans (mv_put e1 e2 st fr)) er hn
/-- x.append(e), x a list of one's own -/
theorem dts_append {i : Nat} (h : DT K B te env fun d fl p1 env1 => d.pur = true ∧ ∃ s xs, env1[i]? = some s ∧ s.hot = true ∧ s.dv = some (.lst xs) ∧ xs.length < sizeLine ∧ D.nx (env1.set i (s.put (.lst (xs ++ [d]))))) (hi : ∃ s xs, env[i]? = some s ∧ s.hot = true ∧ s.dv = some (.lst xs)) :
    DTS K B (tDrop (tBM K "list" rAppend (tVar i) (tCons te tNil))) env D := fun σ H G E e l => by
  obtain ⟨s0, xs0, k1, k2, k3⟩ := hi
  obtain ⟨x, hx, rx0⟩ := e.rep i s0 _ k1 k3
  refine ⟨x, hx, ?_, ?_⟩
  · generalize G i = g0 at rx0
    cases rx0 with
    | lst ha _ => exact .inl ⟨rfl, _, SqL.of ha⟩
  · refine h σ H G _ e fun v H1 d fl p1 env1 G1 Gv s1 r f ⟨hp, sl, xs, e1, e2, e3, e4, hn⟩ => ?_
    have hG := r.purG hp
    subst hG
    obtain ⟨x', hx', rx⟩ := s1.er.rep i sl _ e1 e3
    rw [hx] at hx'; cases hx'
    have nd := s1.er.nod i sl e1 e2
    generalize hg : G1 i = g at rx
    cases rx with
    | @lst a vs _ g ha ra =>
      refine ⟨a, vs, v, rfl, rfl, ha, by rw [ra.len]; exact e4, ?_⟩
      have st : Stp (fun b => b ∈ G1 i) H1 (upd H1 a (.lst (vs ++ [v]))) := stp_one ha True.intro (by rw [hg]; exact List.mem_cons_self)
      have st1 : Stp (fun b => b = a) H1 (upd H1 a (.lst (vs ++ [v]))) := stp_one ha True.intro rfl
      rw [hg] at nd
      have na : a ∉ g := (List.nodup_cons.mp nd).1
      have rr := (ra.app (Reps.one r)).step st1 (fun b m z => by
        rw [List.append_nil] at m
        subst z; exact na m)
      rw [List.append_nil] at rr
      have fr : ∀ b ∈ a :: g, b ∈ G1 i ∨ H1 b = none := fun b m => .inl (by rw [hg]; exact m)
      have er := s1.er.put e1 e2 hx st (.lst upd_same rr) nd fr fun b m => by
        rcases List.mem_cons.mp m with rfl | m
        · exact ⟨_, upd_same, True.intro⟩
        · obtain ⟨o, k, mm⟩ := s1.er.mu i sl b e1 e2 (by rw [hg]; exact List.mem_cons_of_mem _ m)
          exact ⟨o, by rw [upd_ne (show b ≠ a from fun z => na (by rw [← z]; exact m))]; exact k, mm⟩
      exact l.nx σ _ _ _ (s1.mv.trans (mv_put e1 e2 st fr)) er hn
/-! slices -/
def DO (K : PySem.W.Frag) (B : Bs) (to : TO) (env : List Sl) (PO : Option Int → Bool → List Sl → Prop) : Prop := ∀ (σ : L2.St) (H : Hp) (G : Nat → List Addr) (Q : Option Int → Hp → Prop), EnvR K B σ H env G →
  (∀ o H' pu env' G', Se K B σ env G H pu env' G' H' → PO o pu env' → Q o H') → to σ H Q
variable {PO : Option Int → Bool → List Sl → Prop} {tlo thi : TO}
theorem do_none (h : PO none true env) : DO K B tNoPart env PO := fun σ H G Q e q => q none H true env G (.refl e) h
theorem do_some (h : DT K B te env fun d _ pu env1 => ∃ i, d = .int i ∧ PO (some i) pu env1) : DO K B (tPart te) env PO := fun σ H G Q e q => by
  refine h σ H G _ e fun v H1 d fl p1 env1 G1 Gv s1 r f ⟨i, hd, hP⟩ => ?_
  subst hd
  cases r
  exact ⟨i, rfl, q (some i) H1 p1 env1 G1 s1 hP⟩
def cutD (xs : List Dv) (lo hi : Option Int) : List Dv := (xs.drop (HT.sIx xs.length 0 lo)).take (HT.sIx xs.length xs.length hi - HT.sIx xs.length 0 lo)
def slD : Dv → Option Int → Option Int → Option Dv
  | .str z, lo, hi => if z.length ≤ sizeLine then some (.str (cutS z lo hi)) else none
  | .lst xs, lo, hi => some (.lst (cutD xs lo hi))
  | .tup xs, lo, hi => some (.tup (cutD xs lo hi))
  | _, _, _ => none
def rSlD (K : PySem.W.Frag) : V → Option Int → Option Int → Hp → VK → Prop := fun x lo hi H Q => rSlS x lo hi H Q ∨ rSlL K x lo hi H Q ∨ rSlA K x lo hi H Q
theorem sl_any {X : Cx} : SlR X (rSlD X.K) := SlR_or sl_str (SlR_or sl_list sl_tupA)
theorem Reps.take {H : Hp} : ∀ {vs : List V} {ds : List Dv} {G : List Addr} (n : Nat), Reps K H vs ds G → ∃ G', Reps K H (vs.take n) (ds.take n) G' ∧ ∀ a ∈ G', a ∈ G
  | _, _, _, 0, _ => ⟨[], .nil, fun a m => (nomatch m)⟩
  | _, _, _, _ + 1, .nil => ⟨[], .nil, fun a m => (nomatch m)⟩
  | _, _, _, n + 1, .cons h r => (let ⟨G', r', m⟩ := Reps.take n r; ⟨_, .cons h r', fun a k => (List.mem_append.mp k).elim (fun k => List.mem_append_left _ k) fun k => List.mem_append_right _ (m a k)⟩)
theorem Reps.drop {H : Hp} : ∀ {vs : List V} {ds : List Dv} {G : List Addr} (n : Nat), Reps K H vs ds G → ∃ G', Reps K H (vs.drop n) (ds.drop n) G' ∧ ∀ a ∈ G', a ∈ G
  | _, _, _, 0, r => ⟨_, r, fun a m => m⟩
  | _, _, _, _ + 1, .nil => ⟨[], .nil, fun a m => (nomatch m)⟩
  | _, _, _, n + 1, .cons h r => (let ⟨G', r', m⟩ := Reps.drop n r; ⟨G', r', fun a k => List.mem_append_right _ (m a k)⟩)
theorem Reps.cut {H : Hp} {vs : List V} {ds : List Dv} {G : List Addr} (lo hi : Option Int) (r : Reps K H vs ds G) : ∃ G', Reps K H (cutV vs lo hi) (cutD ds lo hi) G' ∧ ∀ a ∈ G', a ∈ G := by
  unfold cutV cutD
  rw [r.len]
  obtain ⟨G1, r1, m1⟩ := r.drop (HT.sIx ds.length 0 lo)
  obtain ⟨G2, r2, m2⟩ := r1.take (HT.sIx ds.length ds.length hi - HT.sIx ds.length 0 lo)
  exact ⟨G2, r2, fun a m => m1 a (m2 a m)⟩
theorem dt_sl (h : DT K B te env fun d f1 p1 env1 => DO K B tlo env1 fun lo p2 env2 => DO K B thi env2 fun hi p3 env3 => (f1 = .view → p2 = true ∧ p3 = true) ∧ ∃ z, slD d lo hi = some z ∧ P z (flr true z f1) (p1 && p2 && p3) env3) : DT K B (tSl (rSlD K) te tlo thi) env P := fun σ H G Q e q => by
  refine h σ H G _ e fun x H1 d f1 p1 env1 G1 Gx s1 rx fx h1 => ?_
  refine h1 σ H1 G1 _ s1.er fun lo H2 p2 env2 G2 s2 h2 => ?_
  refine h2 σ H2 G2 _ s2.er fun hi H3 p3 env3 G3 s3 ⟨hv, z, hz, hP⟩ => ?_
  have s23 := s2.trans s3
  obtain ⟨rx3, fx3⟩ := pend s23 rx fx fun w => by rw [(hv w).1, (hv w).2]; rfl
  have s123 := (s1.trans s2).trans s3
  have back : ∀ a, H3 a = none → H a = none := s123.mv.stp.al
  have src : ∀ (Gz : List Addr), (∀ a ∈ Gz, a ∈ Gx ∨ H3 a = none) → ∀ a ∈ Gz, H3 a ≠ none → (f1 ≠ .view → ¬ Hot env3 G3 a) ∧ (All G a ∨ H a = none) := fun Gz k a m n => by
    rcases k a m with w | w
    · exact ⟨fun nv => fx3.cold nv a w, fx3.c3 a w⟩
    · exact (n w).elim
  cases rx3 with
  | str zz =>
    obtain ⟨hc, rfl⟩ := ite_some (C := zz.length ≤ sizeLine) hz
    exact .inl ⟨zz, rfl, hc, q _ H3 _ _ _ env3 G3 [] s123 (.str _) .nil hP⟩
  | @lst a vs ds g ha ra =>
    cases hz
    obtain ⟨G', rc, sub⟩ := ra.cut lo hi
    refine .inr (.inl ⟨a, vs, rfl, SqL.of ha, fun p hp => ?_⟩)
    have sm : Same H3 (upd H3 p (.lst (cutV vs lo hi))) := same_new hp
    have s4 := s123.trans (.same s123.er sm)
    rw [Bool.and_true] at s4
    refine q _ _ _ _ _ env3 G3 (p :: G') s4 (.lst upd_same (rc.step (M := fun _ => False) (.same sm) fun _ _ z => z)) (made s123.er back (.lst upd_same (rc.step (M := fun _ => False) (.same sm) fun _ _ z => z)) (src _ fun b m => ?_) fun _ hs => ?_) hP
    · rcases List.mem_cons.mp m with rfl | m
      · exact .inr hp
      · exact .inl (List.mem_cons_of_mem _ (sub b m))
    · rw [rc.purG hs]
      exact ⟨List.nodup_cons.mpr ⟨fun m => (nomatch m), .nil⟩, fun b m => by
        rcases List.mem_cons.mp m with rfl | m
        · exact ⟨hp, _, upd_same, True.intro⟩
        · cases m⟩
  | @tup a vs ds _ ha ra =>
    cases hz
    obtain ⟨G', rc, sub⟩ := ra.cut lo hi
    refine .inr (.inr ⟨a, vs, rfl, ha, fun hw => ?_, fun hw p hp => ?_⟩)
    · have ew : cutD ds lo hi = ds := by
        rw [ra.len] at hw
        unfold cutD
        rw [hw.1, hw.2, List.drop_zero, Nat.sub_zero, List.take_length]
      rw [ew] at hP
      refine q _ H3 _ _ _ env3 G3 Gx s123 (.tup ha ra) (made s123.er back (.tup ha ra) (src _ fun b m => .inl m) fun _ hs => ?_) hP
      rw [ra.purG hs]
      exact ⟨.nil, fun a m => (nomatch m)⟩
    · have sm : Same H3 (upd H3 p (.tup (cutV vs lo hi))) := same_new hp
      have s4 := s123.trans (.same s123.er sm)
      rw [Bool.and_true] at s4
      have rt : Rep K (upd H3 p (.tup (cutV vs lo hi))) (.ref p) (.tup (cutD ds lo hi)) G' := .tup (SqT.of upd_same) (rc.step (M := fun _ => False) (.same sm) fun _ _ z => z)
      refine q _ _ _ _ _ env3 G3 G' s4 rt (made s123.er back rt (src _ fun b m => .inl (sub b m)) fun _ hs => ?_) hP
      rw [rc.purG hs]
      exact ⟨.nil, fun a m => (nomatch m)⟩
  | _ => cases hz
/-! methods of texts -/
def strM0 (C : Str → Prop) [∀ a, Decidable (C a)] (g : Str → Dv) : Dv → List Dv → Option Dv
  | .str a, [] => if C a then some (g a) else none
  | _, _ => none
theorem mtD_str0 {C : Str → Prop} [∀ a, Decidable (C a)] {g : Str → V} {g' : Str → Dv} (hr : ∀ a H, Rep K H (g a) (g' a) []) : MtD K "str" (fun x xs H Q => ∃ a, x = .str a ∧ xs = [] ∧ C a ∧ Q (g a) H) true (strM0 C g') := fun H x vs d1 ds d G1 G Q r1 r e q => by
  cases r1 with
  | str a =>
    cases ds with
    | nil =>
      cases r
      obtain ⟨hc, rfl⟩ := ite_some (C := C a) e
      exact ⟨a, rfl, rfl, hc, q _ H [] (.refl H) (hr a H) (fun a m => (nomatch m)) fun _ _ => ⟨.nil, fun a m => (nomatch m)⟩⟩
    | cons _ _ => cases e
  | _ => cases e
def isStr : Dv → Bool
  | .str _ => true
  | _ => false
theorem tyD_str : TyD K "str" isStr := fun H x d G r h => by
  cases r <;> first | cases h | skip
  exact rfl
end

/-! ### defs by their names -/
structure Cal (P : Program) (w : World) (K : PySem.W.Frag) (mg : Str → Option Value) (base : Heap) (k : Nat) (x : Str) (sp : Sp) : Prop where
  ex : ∃ (f : Addr) (fd : FuncData) (ps : List Str), FnOk P w K mg base CX0 k f fd ps sp ∧ mg x = some (.ref f) ∧ PySem.W.keepIn K (.ref f) = true ∧ Binds K fd ps []
theorem pe_c {X : Cx} {k j : Nat} {x : Str} {sp : Sp} {p pos : Pos} {e : Expr} {es : List Expr} {t : TA} (c : Cal X.prog X.w X.K X.mg X.base k x sp) (hr : Room j X.A) (hk : k ≤ j) (hg : Gl X x) (ha : PA X (e :: es) t)
    (hdb : (x == ("__debug__" : Str)) = false := by decide) (he : starEach (e :: es) X.env = (false, eval e X.env) :: starEach es X.env := by rfl) (hpl : (backTo pos (starEach es X.env)).any (·.1) = false := by rfl) :
    PE X (.Call (.Name x p) (e :: es) [] pos) (tCall sp [] E0 t) := by
  obtain ⟨f, fd, ps, F, hm, kp, b⟩ := c.ex
  exact pe_call F (hr.mono hk) hg hm kp b .nil pass0 ha hdb he hpl
theorem pe_c0 {X : Cx} {k j : Nat} {x : Str} {sp : Sp} {p pos : Pos} (c : Cal X.prog X.w X.K X.mg X.base k x sp) (hr : Room j X.A) (hk : k ≤ j) (hg : Gl X x)
    (hdb : (x == ("__debug__" : Str)) = false := by decide) :
    PE X (.Call (.Name x p) [] [] pos) (tCall sp [] E0 tNil) := by
  obtain ⟨f, fd, ps, F, hm, kp, b⟩ := c.ex
  exact pe_call0 F (hr.mono hk) hg hm kp b .nil pass0 hdb
/-- a constant of the module -/
theorem pe_gc {X : Cx} {x : Str} {p : Pos} {v : V} (hg : Gl X x) (h : ∃ u, X.mg x = some u ∧ RelV v u) (hd : (x == ("__debug__" : Str)) = false := by decide) : PE X (.Name x p) (tC v) := by
  obtain ⟨u, hm, r⟩ := h
  exact pe_glob hg hm r hd
section
variable {P : Program} {w : World} {K : PySem.W.Frag} {mg : Str → Option Value} {base : Heap}
theorem fn_spE {x qual : Str} {params : Arguments} {body : List Stmt} {scope : Scope} {f : Addr} {fd : FuncData} {N ps : List Str} {k : Nat} {ms : List Bool} {run : Fs} (F : FunD K x qual params body scope [] [] f fd) (S : FnScope N ps scope) (hm : ms.length = ps.length) (hN : ps.length ≤ N.length)
    (hbody : ∀ (cdv : Value) (A : Around) (outer : List Env) (s : Shared) (H : Hp) (E : XK), Room k (A.deeper (envOfC qual scope s.heap.objs.size f cdv)) →
      ∃ t, PSs (cxOf CX0 P w K mg base N qual scope f cdv A outer s H E).nox body t ∧
        ∀ (B : Bs) (ds : List Dv) (R : Dv → Fl → List Dv → Prop), B.ms = ms → ds.length = ms.length → run ds R →
          DTS K B t (argEnv ms ds ++ List.replicate (N.length - ps.length) .no) { nx := fun env' => R .non .fresh (fin ms ds env'), rt := fun d fl env' => R d fl (fin ms ds env') }) :
    FnOk P w K mg base CX0 (k + 1) f fd ps (spD K ms run) := by
  have e : ∃ st : Stmt, defArgs st = params ∧ defBody st = body ∧ defScope st = scope := ⟨.FunctionDef (name := x) (args := params) (body := body) (decorator_list := []) (returns := none) (type_params := []) (scope := scope) (tscope := none) (bind := x) (pos := ⟨0, 0, 0, 0⟩), rfl, rfl, rfl⟩
  obtain ⟨st, rfl, rfl, rfl⟩ := e
  obtain ⟨oc, od, dV, kV, doc, pm, an, cdv, ct, osl, h1, h2, h3, h4, _⟩ := F.ex
  rcases h4 with ⟨_, rfl⟩ | ⟨z, _⟩
  · exact fn_spD (st := st) ⟨⟨oc, od, kV, doc, pm, an, cdv, ct, osl, h1, h2, h3⟩, F.kp⟩ S hm hN hbody
  · exact absurd rfl z
end
end Fd
namespace Fd
open PySem PySem.Spec PyProof.Rows L2
section
variable {K : PySem.W.Frag} {B : Bs} {env : List Sl} {P : Dv → Fl → Bool → List Sl → Prop}
/-! ### the law's own promise -/
theorem law_sp {run : Fs} {H : Hp} {a : Addr} {ns : List Int} {E : XK} (hO : Only H) (hS : SqL K H a (ns.map V.int)) (h : run [.frl ns] fun d _ _ => d = .bl true) : spD K [false] run [.ref a] H (fun v _ => v = .bl true) E := by
  have hF : SqF K H a (ns.map V.int) := by
    rcases hS with (h | ⟨o, h⟩) | h
    · rcases hO a with z | ⟨o, xs, z⟩ <;> (rw [h] at z; cases z)
    · exact .inl ⟨o, h⟩
    · exact .inr h
  refine ⟨[.frl ns], fun _ => [], _, rfl, rfl, ⟨rfl, fun i s d h1 h2 => ?_, fun i _ => rfl, fun i s _ _ => .nil, fun i j s b _ _ _ m => (nomatch m), fun i d h1 => rfl, fun i d b _ m => (nomatch m), fun b q => q, fun i b m => (nomatch m), fun i d b _ m => (nomatch m), fun i s b _ _ m => (nomatch m), fun i h1 => ?_⟩, h, fun v H' d fl ds' G' Gv pf hd => ?_⟩
  · cases i with
    | zero =>
      cases h1
      cases h2
      exact ⟨_, rfl, .frl hF⟩
    | succ i => cases h1
  · cases i with
    | zero => cases h1
    | succ i => cases h1
  · have hd : d = .bl true := hd
    subst hd
    have r := pf.rep
    cases r
    rfl
theorem cal_fn {Pg : Program} {w : World} {mg : Str → Option Value} {base : Heap} {k : Nat} {x : Str} {sp : Sp} {f : Addr} (c : Cal Pg w K mg base k x sp) (hg : mg x = some (.ref f)) :
    ∃ (fd : FuncData) (ps : List Str), FnOk Pg w K mg base CX0 k f fd ps sp := by
  obtain ⟨f', fd, ps, F, hm, _, _⟩ := c.ex
  rw [hg] at hm
  cases hm
  exact ⟨fd, ps, F⟩
/-! ### displays of dicts, the values such as nobody changes -/
def DTP (K : PySem.W.Frag) (B : Bs) (trs : List (TE × TE)) (env : List Sl) (PP : List (Key × Dv) → Bool → List Sl → Prop) : Prop := ∀ (σ : L2.St) (H : Hp) (G : Nat → List Addr) (Q : List (V × V) → Hp → Prop), EnvR K B σ H env G →
  (∀ (kvs : List (Key × V)) (des : List (Key × Dv)) H' pu env' G', Se K B σ env G H pu env' G' H' → des.map (·.1) = kvs.map (·.1) → Reps K H' (kvs.map (·.2)) (des.map (·.2)) [] → PP des pu env' → Q (kvs.map fun kv => (kV kv.1, kv.2)) H') → tPairs trs σ H Q
def dK : Dv → Option Key
  | .int i => some (.inl i)
  | .str x => some (.inr x)
  | _ => none
theorem Rep.key {H : Hp} {v : V} {d : Dv} {G : List Addr} {k : Key} (r : Rep K H v d G) (h : dK d = some k) : v = kV k := by
  cases r <;> first | cases h | skip
  · rfl
  · rfl
theorem dtp_nil {PP : List (Key × Dv) → Bool → List Sl → Prop} (h : PP [] true env) : DTP K B [] env PP := fun σ H G Q e q => q [] [] H true env G (.refl e) rfl .nil h
theorem dtp_cons {PP : List (Key × Dv) → Bool → List Sl → Prop} {tk tv : TE} {trs : List (TE × TE)} (h : DT K B tk env fun d _ p1 env1 => ∃ k, dK d = some k ∧ DT K B tv env1 fun d2 _ p2 env2 => d2.pur = true ∧ DTP K B trs env2 fun des p3 env3 => PP ((k, d2) :: des) (p1 && p2 && p3) env3) : DTP K B ((tk, tv) :: trs) env PP := fun σ H G Q e q => by
  refine h σ H G _ e fun x H1 d f1 p1 env1 G1 Gx s1 rx fx ⟨k, hk, h1⟩ => ?_
  have hx := rx.key hk
  subst hx
  refine h1 σ H1 G1 _ s1.er fun y H2 d2 f2 p2 env2 G2 Gy s2 ry fy ⟨hp, h2⟩ => ?_
  have hG := ry.purG hp
  subst hG
  refine h2 σ H2 G2 _ s2.er fun kvs des H3 p3 env3 G3 s3 hk3 r3 hP => ?_
  refine q ((k, y) :: kvs) ((k, d2) :: des) H3 _ env3 G3 ((s1.trans s2).trans s3) ?_ ?_ hP
  · show k :: des.map (·.1) = k :: kvs.map (·.1)
    rw [hk3]
  · exact .cons (ry.step s3.mv.stp fun a m => (nomatch m)) r3
def putKD (kvs : List (Key × Dv)) (k : Key) (d : Dv) : List (Key × Dv) := match kvs with
  | [] => [(k, d)]
  | p :: r => if p.1 = k then (k, d) :: r else p :: putKD r k d
/-- {k: v}, one pair -/
theorem dt_disp1 {tk tv : TE} (h : DTP K B [(tk, tv)] env fun des pu env1 => ∃ k d, des = [(k, d)] ∧ P (.dct [(kD k, d)]) .fresh pu env1) : DT K B (tDisp [(tk, tv)]) env P := fun σ H G Q e q p hp => by
  have sm : Same H (upd H p (.dK [])) := same_new hp
  have np : ¬ All G p := e.not_all hp
  refine h σ _ G _ (e.same sm) fun kvs des H' pu env' G' s hk r ⟨k, d, hd, hP⟩ => ?_
  subst hd
  have keep : H' p = some (.dK []) := s.mv.stp.keep p _ upd_same fun _ z => np z.all
  have np' : ¬ All G' p := fun z => by
    rcases s.c2 p z with z | z
    · exact np z
    · rw [upd_same] at z; cases z
  refine ⟨keep, kvs, rfl, ?_, ?_⟩
  · have : kvs.length = 1 := by
      have := congrArg List.length hk
      simpa using this.symm
    omega
  · match kvs, hk, r with
    | [(k', v)], hk, r =>
      have hk : [k] = [k'] := hk
      cases hk
      have rr : Reps K H' [v] [d] [] := r
      have st : Stp (fun a => a = p) H' (upd H' p (.dK (mergeK [] [(k, v)]))) := stp_one keep True.intro rfl
      have s0 : Se K B σ env G H pu env' G' H' := by
        have := (Se.same e sm).trans s
        rwa [Bool.true_and] at this
      have er' := s.er.upd1 (o := .dK [(k, v)]) np' (fun z => by rw [keep] at z; cases z) (fun u hu => by rw [keep] at hu; cases hu; exact True.intro)
      have s1 : Se K B σ env G H pu env' G' (upd H' p (.dK [(k, v)])) := by
        refine ⟨⟨⟨fun a o ha n => ?_, fun a ha => ?_⟩, fun a z => s0.mv.c1 a z⟩, s0.c2, s0.cs, s0.hs, s0.ln, er', fun hpu => ?_⟩
        · have ne : a ≠ p := fun z => by subst z; rw [hp] at ha; cases ha
          rw [upd_ne ne]; exact s0.mv.stp.keep a o ha n
        · have ne : a ≠ p := fun z => by subst z; rw [upd_same] at ha; cases ha
          rw [upd_ne ne] at ha; exact s0.mv.stp.al a ha
        · obtain ⟨q1, q2, q3⟩ := s0.pr hpu
          refine ⟨fun a o ha => ?_, q2, q3⟩
          have ne : a ≠ p := fun z => by subst z; rw [hp] at ha; cases ha
          rw [upd_ne ne]; exact q1 a o ha
      have e1 : mergeK [] [(k, v)] = [(k, v)] := rfl
      rw [e1] at st ⊢
      refine q (.ref p) _ (.dct [(kD k, d)]) .fresh pu env' G' [p] s1 (.dct (kvs := [(k, v)]) (.inl upd_same) rfl (rr.step st fun a m => (nomatch m))) ?_ hP
      refine ⟨fun _ a m z => ?_, fun _ => ⟨List.nodup_cons.mpr ⟨fun m => (nomatch m), .nil⟩, fun a m => ?_⟩, fun a m => ?_⟩
      · rcases List.mem_cons.mp m with rfl | m
        · exact np' z.all
        · cases m
      · rcases List.mem_cons.mp m with rfl | m
        · exact ⟨⟨hp, np'⟩, _, upd_same, True.intro⟩
        · cases m
      · rcases List.mem_cons.mp m with rfl | m
        · exact .inr hp
        · cases m
end
end Fd
namespace Fd
open PySem PySem.Spec PyProof.Rows L2
section
variable {K : PySem.W.Frag} {B : Bs} {env : List Sl} {P : Dv → Fl → Bool → List Sl → Prop} {te : TE}
def decMul (a b : Int) : Decidable (CMulW a b) := inferInstanceAs (Decidable (a.natAbs.log2 + b.natAbs.log2 < 1000000))
def decDiv (a b : Int) : Decidable (CDivW a b) := inferInstanceAs (Decidable (0 < b ∧ b.natAbs.log2 < 9000))
def decPow (a b : Int) : Decidable (CPow a b) := inferInstanceAs (Decidable (0 ≤ b ∧ b ≤ 1000000 ∧ a.natAbs < 2 ^ 64))
abbrev mulD : Dv → Dv → Option Dv := @intOpC CMulW decMul fun i j => .int (i * j)
abbrev fdivD : Dv → Dv → Option Dv := @intOpC CDivW decDiv fun i j => .int (i / j)
abbrev powD : Dv → Dv → Option Dv := @intOpC CPow decPow fun i j => .int (i ^ j.toNat)
abbrev modD : Dv → Dv → Option Dv := intOpC (fun _ j => 0 < j) fun i j => .int (i % j)
theorem intOpC_ok {C : Int → Int → Prop} {dc : ∀ a b, Decidable (C a b)} {g : Int → Int → Dv} {a b : Int} (h : C a b) : @intOpC C dc g (.int a) (.int b) = some (g a b) := if_pos h
theorem opD_sub : OpD K (rI0 fun i j => .int (i - j)) true (intOp fun i j => .int (i - j)) := opD_int fun _ _ _ => .int _
theorem opD_mulW : OpD K (rI CMulW fun i j => .int (i * j)) true mulD := letI := @decMul; opD_intC fun _ _ _ => .int _
theorem opD_fdivW : OpD K (rI CDivW fun i j => .int (i / j)) true fdivD := letI := @decDiv; opD_intC fun _ _ _ => .int _
theorem opD_mod : OpD K (rI (fun _ j => 0 < j) fun i j => .int (i % j)) true modD := opD_intC fun _ _ _ => .int _
theorem opD_pow : OpD K (rI CPow fun i j => .int (i ^ j.toNat)) true powD := letI := @decPow; opD_intC fun _ _ _ => .int _
theorem opD_lt : OpD K (rI0 fun i j => .bl (decide (i < j))) true (intOp fun i j => .bl (decide (i < j))) := opD_int fun _ _ _ => .bl _
theorem opD_le : OpD K (rI0 fun i j => .bl (decide (i ≤ j))) true (intOp fun i j => .bl (decide (i ≤ j))) := opD_int fun _ _ _ => .bl _
theorem opD_gt : OpD K (rI0 fun i j => .bl (decide (j < i))) true (intOp fun i j => .bl (decide (j < i))) := opD_int fun _ _ _ => .bl _
theorem opD_ge : OpD K (rI0 fun i j => .bl (decide (j ≤ i))) true (intOp fun i j => .bl (decide (j ≤ i))) := opD_int fun _ _ _ => .bl _
def negD : Dv → Option Dv
  | .int a => some (.int (-a))
  | _ => none
theorem unD_neg : UnD K (rU fun i => .int (-i)) negD := fun H x d1 d G1 Q r e q => by
  cases r <;> first | cases e | skip
  exact ⟨_, rfl, q _ (.int _)⟩
/-- x.upper() -/
theorem dt_upper (h : DT K B te env fun d _ p env1 => ∃ a, d = .str a ∧ a.length ≤ 5592405 ∧ P (.str (Txt.upper a)) .fresh p env1) : DT K B (tM0 (fun x xs H Q => ∃ a, x = .str a ∧ xs = [] ∧ a.length ≤ 5592405 ∧ Q (.str (Txt.upper a)) H) te) env P := fun σ H G Q e q => by
  refine h σ H G _ e fun x H1 d1 f1 p1 env1 G1 Gx s1 rx fx ⟨a, hd, hl, hP⟩ => ?_
  subst hd
  cases rx
  exact ⟨⟨a, rfl⟩, a, rfl, rfl, hl, q _ H1 _ _ _ env1 G1 [] s1 (.str _) .nil hP⟩
/-! what gives scalars -/
def Sc (f : Dv → Dv → Option Dv) : Prop := ∀ d1 d2 d, f d1 d2 = some d → d.pur = true
theorem sc_int {g : Int → Int → Dv} (h : ∀ i j, (g i j).pur = true) : Sc (intOp g) := fun d1 d2 d e => by
  cases d1 <;> first | cases e | skip
  cases d2 <;> first | cases e | skip
  exact h _ _
theorem sc_intC {C : Int → Int → Prop} {dc : ∀ a b, Decidable (C a b)} {g : Int → Int → Dv} (h : ∀ i j, (g i j).pur = true) : Sc (@intOpC C dc g) := fun d1 d2 d e => by
  cases d1 with
  | int i =>
    cases d2 with
    | int j =>
      obtain ⟨_, rfl⟩ := ite_some (C := C i j) e
      exact h _ _
    | _ => cases e
  | _ => cases e
theorem sc_eq {neg : Bool} : Sc (eqP neg) := fun d1 d2 d e => by
  unfold eqP at e
  split at e
  · split at e
    · cases e; rfl
    · cases e
  · cases e
theorem sc_is {neg : Bool} : Sc (isD neg) := fun d1 d2 d e => by
  unfold isD at e
  split at e
  · cases e; rfl
  · cases e; rfl
  · cases e
theorem sc_inS {neg : Bool} : Sc (inS neg) := fun d1 d2 d e => by
  unfold inS at e
  split at e
  · split at e
    · cases e; rfl
    · cases e
  · cases e
theorem dt_opS {ta tb : TE} {r : R2} {nw : Bool} {f : Dv → Dv → Option Dv} (o : OpD K r nw f) (sc : Sc f)
    (h : DT K B ta env fun d1 f1 p1 env1 => DT K B tb env1 fun d2 f2 p2 env2 => (f1 = .view → p2 = true) ∧ ∃ d, f d1 d2 = some d ∧ P d .fresh (p1 && p2) env2) : DT K B (tOp r ta tb) env P :=
  dt_op o (h.imp fun d1 f1 p1 env1 h1 => h1.imp fun d2 f2 p2 env2 ⟨hv, d, hd, hP⟩ => ⟨hv, d, hd, by
    have e : flr nw d (flj f1 f2) = .fresh := by
      unfold flr; rw [sc _ _ _ hd]; rfl
    rw [e]; exact hP⟩)
def Sc1 (f : List Dv → Option Dv) : Prop := ∀ ds d, f ds = some d → d.pur = true
theorem sc_len : Sc1 lenD := fun ds d e => by
  unfold lenD at e
  split at e
  · split at e
    · cases e; rfl
    · cases e
  · cases e; rfl
  · cases e; rfl
  · cases e; rfl
  · cases e
theorem sc_mm {f : Int → Int → Int} : Sc1 (minmaxD f) := fun ds d e => by
  unfold minmaxD at e
  split at e
  · cases e; rfl
  · cases e
theorem sc_intD : Sc1 intD := fun ds d e => by
  unfold intD at e
  split at e
  · cases e; rfl
  · cases e; rfl
  · cases e
theorem sc_strInt : Sc1 strIntD := fun ds d e => by
  unfold strIntD at e
  split at e
  · split at e
    · cases e; rfl
    · cases e
  · cases e
theorem sc_quant {f : List Bool → Bool} : Sc1 (quantD f) := fun ds d e => by
  unfold quantD at e
  split at e
  · obtain ⟨_, _, rfl⟩ := Option.map_eq_some_iff.mp e; rfl
  · cases e
theorem dt_cbS {tr : TA} {r : List V → Hp → VK → Prop} {nw : Bool} {f : List Dv → Option Dv} (o : CallD K r nw f) (sc : Sc1 f)
    (h : DTA K B tr env fun rs pu env1 => ∃ ds fl d, valsOf rs = some (ds, fl) ∧ f ds = some d ∧ P d .fresh pu env1) : DT K B (tCB r tr) env P :=
  dt_cb o (fun σ H G Q e q => h σ H G Q e fun vs H' rs pu env' G' Gvs s ar ⟨ds, fl, d, h1, h2, hP⟩ => q vs H' rs pu env' G' Gvs s ar ⟨ds, fl, d, h1, h2, by
    have e : flr nw d fl = .fresh := by
      unfold flr; rw [sc _ _ h2]; rfl
    rw [e]; exact hP⟩)
theorem upds_v {d e : Dv} {fl : Fl} {rs : List Ar} {ds : List Dv} {env : List Sl} : upds (.val d fl :: rs) (e :: ds) env = upds rs ds env := rfl
theorem upds_s {j : Nat} {e : Dv} {rs : List Ar} {ds : List Dv} {env : List Sl} : upds (.slt j :: rs) (e :: ds) env = upds rs ds (putS env j e) := rfl
theorem upds_n {ds : List Dv} {env : List Sl} : upds [] ds env = env := rfl
theorem putS_0 {s : Sl} {env : List Sl} {d : Dv} : putS (s :: env) 0 d = s.put d :: env := rfl
theorem putS_s {s : Sl} {env : List Sl} {j : Nat} {d : Dv} : putS (s :: env) (j + 1) d = s :: putS env j d := by
  unfold putS
  rw [List.getElem?_cons_succ]
  cases env[j]? <;> rfl
theorem put_pi {d e : Dv} : (Sl.pi d).put e = .pi e := rfl
theorem put_ho {d e : Dv} : (Sl.ho d).put e = .ho e := rfl
theorem cmul_dec {i j : Int} (h : decide (i.natAbs.log2 + j.natAbs.log2 < 1000000) = true) : CMulW i j := (of_decide_eq_true h : i.natAbs.log2 + j.natAbs.log2 < 1000000)
theorem cpow_dec {i j : Int} (h : decide (0 ≤ j ∧ j ≤ 1000000 ∧ i.natAbs < 2 ^ 64) = true) : CPow i j := (of_decide_eq_true h : 0 ≤ j ∧ j ≤ 1000000 ∧ i.natAbs < 2 ^ 64)
theorem cdiv_dec {i j : Int} (h : decide (0 < j ∧ j.natAbs.log2 < 9000) = true) : CDivW i j := (of_decide_eq_true h : 0 < j ∧ j.natAbs.log2 < 9000)
theorem lf_mul {i j : Int} (h : i.natAbs < 2 ^ 2000) (h' : j.natAbs < 2 ^ 2000) : CMulW i j := wide_mul h h' (by decide) (by decide) (by decide)
theorem dts_retC {D : Ds} (h : DT K B te env fun d fl pu env1 => ef d fl ≠ .view ∧ D.rt d .cold env1) : DTS K B (tRet te) env D := fun σ H G E e l => by
  refine h σ H G _ e fun v H1 d fl pu env1 G1 Gv s r f ⟨nv, h1⟩ => ?_
  have f' := f.ef r
  refine l.rt σ H1 env1 G1 v d .cold Gv s.mv s.er r ⟨fun a m z => f'.cold nv a m z.hot, fun fr => (nomatch fr), fun a m => ?_⟩ h1
  rcases f'.c3 a m with ⟨i, k⟩ | k
  · exact e.org i a k
  · exact .inr (e.he a k)
theorem sz {n : Nat} (h : n ≤ 1000000) : n ≤ sizeLine := Nat.le_trans h (by decide)
theorem str_add_len (a b : Str) : (a ++ b).length = a.length + b.length := by
  show (a.cps ++ b.cps).size = _
  rw [Array.size_append]; rfl
theorem sign_len (c : Nat) : (⟨#[c]⟩ : Str).length = 1 := rfl
theorem cut_len (w : Str) (lo hi : Option Int) : (cutS w lo hi).length ≤ w.length := by
  show (((w.cps.toList.drop (HT.sIx w.length 0 lo)).take (HT.sIx w.length w.length hi - HT.sIx w.length 0 lo)).toArray).size ≤ w.cps.size
  rw [List.size_toArray, List.length_take, List.length_drop, Array.length_toList]
  omega
theorem iteT {A C : Prop} (h : A) : (if true = true then A else C) := h
theorem iteF {A C : Prop} (h : C) : (if false = true then A else C) := h
theorem argEnv_f {ms : List Bool} {d : Dv} {ds : List Dv} : argEnv (false :: ms) (d :: ds) = .co d :: argEnv ms ds := rfl
theorem argEnv_t {ms : List Bool} {d : Dv} {ds : List Dv} : argEnv (true :: ms) (d :: ds) = .pi d :: argEnv ms ds := rfl
theorem argEnv_n {ds : List Dv} : argEnv [] ds = [] := rfl
theorem iteT1 {A C : Prop} {b : Bool} (e : b = true) (h : A) : (if b = true then A else C) := by subst e; exact h
theorem iteF1 {A C : Prop} {b : Bool} (e : b = false) (h : C) : (if b = true then A else C) := by subst e; exact h
theorem iteB {A C : Prop} {b : Bool} (h : b = true → A) (h' : b = false → C) : (if b = true then A else C) := by
  cases b with
  | true => exact h rfl
  | false => exact h' rfl
theorem fm_take {α β : Type} {f : α → Option β} {xs : List α} {k : Nat} {x : α} (h : xs[k]? = some x) : (xs.take (k + 1)).filterMap f = (xs.take k).filterMap f ++ (f x).toList := by
  rw [List.take_add_one, h, List.filterMap_append]
  cases e : f x <;> simp [e]
theorem purs_app' {a : List Dv} {d : Dv} (h : Dv.purs a = true) (hd : d.pur = true) : Dv.purs (a ++ [d]) = true := by
  rw [purs_app, h]; show (true && (d.pur && true)) = true; rw [hd]; rfl
/-- [y for x in ..], of what can't change, the slots as they were -/
theorem dt_lcF {wi : TI} {g : TG} {tt : TT} {te : TE} {vs : List Nat} (fm : Dv → Option Dv) (h : DI K B wi env fun items fl pu env1 => (∀ j ∈ vs, env1[j]? = some .no) ∧ items.length ≤ sizeLine ∧
    (∀ x ∈ items, ∃ ws env3, (∀ j ∈ ws, j ∈ vs) ∧ DG K B ws g x env1 env3 ∧ (∀ j ∈ vs, ∀ d, env3[j]? ≠ some (.pi d)) ∧ (fl = .view → x.pur = true) ∧
      DTT K B tt env3 fun b p env4 => p = true ∧ if b = true then DT K B te env4 fun y fy p2 env5 => p2 = true ∧ y.pur = true ∧ fm x = some y ∧ wipeE env5 vs = env1 else fm x = none ∧ wipeE env4 vs = env1) ∧
    P (.lst (items.filterMap fm)) .fresh pu env1) : DT K B (tLc wi g tt te vs) env P := by
  refine dt_lc true ?_
  intro σ H G R e q
  refine h σ H G R e fun J H1 pu env1 G1 St fl Gv0 items s it st f ⟨no, hl, turn, fin⟩ => ?_
  refine q J H1 pu env1 G1 St fl Gv0 items s it st f ⟨fun k acc f env2 => acc = (items.take k).filterMap fm ∧ f = .fresh ∧ env2 = env1 ∧ k ≤ items.length, fun _ => rfl, no, ⟨rfl, rfl, rfl, Nat.zero_le _⟩, fun k x acc f env2 hx ⟨ha, hf, he, hk⟩ => ?_, fun acc f env2 ⟨ha, hf, he, _⟩ => ?_⟩
  · subst ha hf he
    have hk1 : k + 1 ≤ items.length := (List.getElem?_eq_some_iff.mp hx).1
    obtain ⟨ws, env3, h1, h2, h3, h4, h5⟩ := turn x (List.mem_of_getElem? hx)
    refine ⟨ws, env3, h1, h2, h3, h4, h5.imp fun b p env4 ⟨hp, h6⟩ => ⟨fun _ => hp, ?_⟩⟩
    cases b with
    | true =>
      rw [if_pos rfl] at h6 ⊢
      refine h6.imp fun y fy p2 env5 ⟨hp2, hy, hfm, hw⟩ => ⟨fun _ => hp2, ?_, ?_, ?_, ?_, ?_, hk1⟩
      · unfold ef; rw [if_pos hy]; exact fun z => nomatch z
      · have := List.length_filterMap_le fm (items.take k)
        rw [List.length_take] at this
        omega
      · rw [fm_take hx, hfm]; rfl
      · unfold ef; rw [if_pos hy]; rfl
      · exact hw
    | false =>
      rw [if_neg Bool.false_ne_true] at h6 ⊢
      refine ⟨?_, rfl, h6.2, hk1⟩
      rw [fm_take hx, h6.1]
      exact (List.append_nil _).symm
  · subst ha hf he
    rw [List.take_length, Bool.and_true]
    exact fin
theorem dtt_yes {PT : Bool → Bool → List Sl → Prop} (h : PT true true env) : DTT K B tYes env PT := fun σ H G Q e q => q true H true env G (.refl e) h
/-- one name in the comprehension -/
theorem dt_lc1 {wi : TI} {tt : TT} {te : TE} {i : Nat} (fm : Dv → Option Dv) (h : DI K B wi env fun items fl pu env1 => env1[i]? = some .no ∧ items.length ≤ sizeLine ∧ (fl = .view → ∀ x ∈ items, x.pur = true) ∧
    (∀ x ∈ items, DTT K B tt (env1.set i (.co x)) fun b p env4 => p = true ∧ if b = true then DT K B te env4 fun y fy p2 env5 => p2 = true ∧ y.pur = true ∧ fm x = some y ∧ env5.set i .no = env1 else fm x = none ∧ env4.set i .no = env1) ∧
    P (.lst (items.filterMap fm)) .fresh pu env1) : DT K B (tLc wi (gName i) tt te [i]) env P := by
  refine dt_lcF fm ?_
  intro σ H G R e q
  refine h σ H G R e fun J H1 pu env1 G1 St fl Gv0 items s it st f ⟨no, hl, hv, turn, fin⟩ => ?_
  have hlt : i < env1.length := (List.getElem?_eq_some_iff.mp no).1
  refine q J H1 pu env1 G1 St fl Gv0 items s it st f ⟨fun j hj => ?_, hl, fun x hx => ⟨[i], env1.set i (.co x), fun j h => h, dg_name no rfl, fun j hj d => ?_, fun z => hv z x hx, turn x hx⟩, fin⟩
  · rcases List.mem_cons.mp hj with rfl | z
    · exact no
    · cases z
  · rcases List.mem_cons.mp hj with rfl | z
    · rw [List.getElem?_set_self hlt]; exact fun z => nomatch z
    · cases z
theorem blsD_map : ∀ bs : List Bool, blsD (bs.map Dv.bl) = some bs
  | [] => rfl
  | b :: bs => by
    show (blsD (bs.map Dv.bl)).map (b :: ·) = _
    rw [blsD_map bs]; rfl
theorem quantD_ok {f : List Bool → Bool} {ds : List Dv} {bs : List Bool} (h : ds = bs.map Dv.bl) : quantD f [.lst ds] = some (.bl (f bs)) := by
  subst h
  show (blsD (bs.map Dv.bl)).map (fun bs => Dv.bl (f bs)) = _
  rw [blsD_map]; rfl
theorem signs_len (x : Str) : (signsD x).length = x.length := by
  unfold signsD; rw [List.length_map]; exact Array.length_toList
def Fl.nv : Fl → Bool
  | .view => false
  | _ => true
theorem nv_of {a : Fl} (h : a.nv = true) : a ≠ .view := fun z => by subst z; cases h
theorem ef_nv {d : Dv} {a : Fl} (h : a.nv = true) : ef d a ≠ .view := by
  unfold ef
  split
  · exact fun z => nomatch z
  · exact nv_of h
theorem ef_fr {d : Dv} : ef d .fresh = .fresh := by
  unfold ef
  split <;> rfl
theorem ef_pur {d : Dv} {a : Fl} (h : d.pur = true) : ef d a = .fresh := if_pos h
theorem ef_pnv {d : Dv} {a : Fl} (h : d.pur = true) : ef d a ≠ .view := by rw [ef_pur h]; exact fun z => nomatch z
theorem ef_flr {nw : Bool} {d : Dv} {fl : Fl} (h : fl.nv = true) : ef d (flr nw d fl) ≠ .view := by
  apply ef_nv
  unfold flr
  split
  · rfl
  · cases fl <;> first | rfl | cases h
theorem slD_str {z : Str} {lo hi : Option Int} (h : z.length ≤ sizeLine) : slD (.str z) lo hi = some (.str (cutS z lo hi)) := if_pos h
theorem addD_str {a b : Str} (h : a.length + b.length ≤ sizeLine) : addD (.str a) (.str b) = some (.str (a ++ b)) := if_pos h
theorem addD_lst {a b : List Dv} (h : a.length + b.length ≤ sizeLine) : addD (.lst a) (.lst b) = some (.lst (a ++ b)) := if_pos h
theorem addD_tup {a b : List Dv} (h : a.length + b.length ≤ sizeLine) : addD (.tup a) (.tup b) = some (.tup (a ++ b)) := if_pos h
theorem lenD_str {z : Str} (h : z.length ≤ sizeLine) : lenD [.str z] = some (.int z.length) := if_pos h
theorem ixD_str {z : Str} {i : Int} {c : Nat} (h : z.length ≤ sizeLine) (hc : atI z.cps.toList i = some c) : ixD (.str z) (.int i) = some (.str ⟨#[c]⟩) := by
  show (if z.length ≤ sizeLine then (atI z.cps.toList i).map (fun c => Dv.str ⟨#[c]⟩) else none) = _
  rw [if_pos h, hc]; rfl
end
end Fd
namespace Fd
open PySem PySem.Spec PyProof.Rows L2
/-- a text of one to eight small letters -/
def lowC (c : Nat) : Bool := decide (97 ≤ c) && decide (c ≤ 122)
def wordS (x : Str) : Bool := decide (1 ≤ x.length) && (decide (x.length ≤ 8) && x.cps.toList.all lowC)
def wordB : Dv → Bool
  | .str x => wordS x
  | _ => false
def nobj : Dv → Bool
  | .obj _ _ => false
  | _ => true
theorem in_abc (c : Nat) : decide (c ∈ (Str.ofString "abcdefghijklmnopqrstuvwxyz").cps.toList) = lowC c := by
  have e : (Str.ofString "abcdefghijklmnopqrstuvwxyz").cps.toList = (List.range 26).map (· + 97) := by decide +kernel
  rw [e, Bool.eq_iff_iff]
  simp only [decide_eq_true_eq, List.mem_map, List.mem_range, lowC, Bool.and_eq_true]
  exact ⟨fun ⟨a, h, e⟩ => by omega, fun h => ⟨c - 97, by omega, by omega⟩⟩
theorem abc_sign {d : Dv} (h : d ∈ signsD "abcdefghijklmnopqrstuvwxyz") : ∃ c, d = .str ⟨#[c]⟩ ∧ lowC c = true := by
  obtain ⟨c, hc, rfl⟩ := List.mem_map.mp h
  exact ⟨c, rfl, by rw [← in_abc]; exact decide_eq_true hc⟩
theorem str_add_all {p : Nat → Bool} {a b : Str} (h1 : a.cps.toList.all p = true) (h2 : b.cps.toList.all p = true) : (a ++ b).cps.toList.all p = true := by
  show (a.cps ++ b.cps).toList.all p = true
  rw [Array.toList_append, List.all_append, h1, h2]; rfl
theorem wordS_of {w : Str} (h1 : 1 ≤ w.length) (h2 : w.length ≤ 8) (h3 : w.cps.toList.all lowC = true) : wordS w = true := by
  unfold wordS
  rw [decide_eq_true h1, decide_eq_true h2, h3]; rfl
/-- no sign above the last one -/
def vS (y : Str) : Prop := ∀ c ∈ y.cps.toList, c < 1114112
theorem vS_ok {y : Str} (h : vS y) : PyData.strOk y = true := by
  unfold PyData.strOk
  rw [Array.all_eq_true']
  exact fun c hc => decide_eq_true (h c (Array.mem_toList_iff.mpr hc))
theorem vS_add {a b : Str} (h1 : vS a) (h2 : vS b) : vS (a ++ b) := fun c hc => by
  have hc : c ∈ (a.cps ++ b.cps).toList := hc
  rw [Array.toList_append] at hc
  exact (List.mem_append.mp hc).elim (h1 c) (h2 c)
theorem vS_cut {w : Str} {lo hi : Option Int} (h : vS w) : vS (cutS w lo hi) := fun c hc => h c (List.mem_of_mem_drop (List.mem_of_mem_take hc))
theorem vS_dec {y : Str} (h : y.cps.toList.all (fun c => decide (c < 1114112)) = true) : vS y := fun c hc => of_decide_eq_true (List.all_eq_true.mp h c hc)
theorem vS_low {w : Str} (h : w.cps.toList.all lowC = true) : vS w := fun c hc => by
  have := List.all_eq_true.mp h c hc
  simp [lowC] at this; omega
theorem vS_sign {x : Str} {c : Nat} (h : vS x) (hc : c ∈ x.cps.toList) : vS ⟨#[c]⟩ := fun d hd => by
  have : d = c := by simpa using hd
  subst this; exact h _ hc
theorem up_low : ∀ c ∈ List.range 26, Unicode.upperOf (c + 97) = [c + 65] := by decide +kernel
theorem vS_upper {w : Str} (h : w.cps.toList.all lowC = true) : vS (Txt.upper w) := fun c hc => by
  have hc : c ∈ ((w.cps.mapIdx fun i c => (Unicode.upperOf c).toArray).flatten).toList := hc
  rw [Array.mem_toList_iff, Array.mem_flatten] at hc
  obtain ⟨a, ha, hca⟩ := hc
  obtain ⟨i, hi, rfl⟩ := Array.mem_mapIdx.mp ha
  have hl := List.all_eq_true.mp h w.cps[i] (Array.mem_toList_iff.mpr (Array.getElem_mem hi))
  simp [lowC] at hl
  have := up_low (w.cps[i] - 97) (List.mem_range.mpr (by omega))
  rw [show w.cps[i] - 97 + 97 = w.cps[i] by omega] at this
  rw [this] at hca
  simp at hca
  omega
theorem wordS_le {x : Str} (h : wordS x = true) : 1 ≤ x.length ∧ x.length ≤ 8 ∧ x.cps.toList.all lowC = true := by
  unfold wordS at h
  obtain ⟨h1, h2⟩ := Bool.and_eq_true_iff.mp h
  obtain ⟨h2, h3⟩ := Bool.and_eq_true_iff.mp h2
  exact ⟨of_decide_eq_true h1, of_decide_eq_true h2, h3⟩
theorem wordS_long {x : Str} (h : 8 < x.length) : wordS x = false := by
  unfold wordS; rw [decide_eq_false (show ¬ x.length ≤ 8 by omega), Bool.false_and, Bool.and_false]
theorem wordS_bad {x : Str} (h : x.cps.toList.all lowC = false) : wordS x = false := by
  unfold wordS; rw [h, Bool.and_false, Bool.and_false]
theorem all_add (a b : Str) : (a ++ b).cps.toList.all lowC = (a.cps.toList.all lowC && b.cps.toList.all lowC) := by
  show (a.cps ++ b.cps).toList.all lowC = _
  rw [Array.toList_append, List.all_append]
theorem wordS_badR {a b : Str} (h : b.cps.toList.all lowC = false) : wordS (a ++ b) = false := wordS_bad (by rw [all_add, h, Bool.and_false])
theorem wordS_badL {a b : Str} (h : a.cps.toList.all lowC = false) : wordS (a ++ b) = false := wordS_bad (by rw [all_add, h, Bool.false_and])
theorem wordS_upper {x : Str} (h : wordS x = true) : wordS (Txt.upper x) = false := by
  obtain ⟨h1, _, h3⟩ := wordS_le h
  apply wordS_bad
  rw [List.all_eq_false]
  have hs : 0 < x.cps.size := h1
  have hl := List.all_eq_true.mp h3 x.cps[0] (Array.mem_toList_iff.mpr (Array.getElem_mem hs))
  simp [lowC] at hl
  have hu := up_low (x.cps[0] - 97) (List.mem_range.mpr (by omega))
  rw [show x.cps[0] - 97 + 97 = x.cps[0] by omega] at hu
  refine ⟨x.cps[0] - 97 + 65, ?_, ?_⟩
  · show _ ∈ ((x.cps.mapIdx fun i c => (Unicode.upperOf c).toArray).flatten).toList
    rw [Array.mem_toList_iff, Array.mem_flatten]
    exact ⟨_, Array.mem_mapIdx.mpr ⟨0, hs, rfl⟩, by rw [hu]; simp⟩
  · simp [lowC]; omega
theorem strIntD_ok {a : Int} (h : a.natAbs.log2 < 1920) : strIntD [.int a] = some (.str (toString a)) := if_pos h
theorem log2_lt {a : Int} (h : a.natAbs < 2 ^ 200) : a.natAbs.log2 < 1920 := Nat.lt_of_lt_of_le (PySem.Flt.log2_lt_of (by decide) h) (by decide)
section
variable {K : PySem.W.Frag} {B : Bs} {env : List Sl} {P : Dv → Fl → Bool → List Sl → Prop}
/-- a comprehension of one truth again and again -/
theorem dt_lcB {wi : TI} {te : TE} {i : Nat} (b : Bool) (h : DI K B wi env fun items fl pu env1 => env1[i]? = some .no ∧ items.length ≤ sizeLine ∧ (fl = .view → ∀ x ∈ items, x.pur = true) ∧
    (∀ x ∈ items, DT K B te (env1.set i (.co x)) fun y fy p2 env5 => p2 = true ∧ y = .bl b ∧ env5.set i .no = env1) ∧
    P (.lst (List.replicate items.length (.bl b))) .fresh pu env1) : DT K B (tLc wi (gName i) tYes te [i]) env P := by
  refine dt_lc1 (fun _ => some (.bl b)) ?_
  intro σ H G R e q
  refine h σ H G R e fun J H1 pu env1 G1 St fl Gv0 items s it st f ⟨no, hl, hv, turn, fin⟩ => ?_
  refine q J H1 pu env1 G1 St fl Gv0 items s it st f ⟨no, hl, hv, fun x hx => dtt_yes ⟨rfl, ?_⟩, ?_⟩
  · rw [if_pos rfl]
    exact (turn x hx).imp fun y fy p2 env5 ⟨h1, h2, h3⟩ => ⟨h1, by rw [h2]; rfl, by rw [h2], h3⟩
  · have e1 : items.filterMap (fun _ => some (Dv.bl b)) = List.replicate items.length (.bl b) := by
      rw [show (fun _ : Dv => some (Dv.bl b)) = some ∘ (fun _ => Dv.bl b) from rfl, List.filterMap_eq_map, List.map_const']
    rw [e1]; exact fin
theorem bls_rep {n : Nat} {b : Bool} : List.replicate n (Dv.bl b) = (List.replicate n b).map Dv.bl := by rw [List.map_replicate]
theorem quant_any0 {n : Nat} : quantD (fun bs => bs.any id) [.lst (List.replicate n (.bl false))] = some (.bl false) := by
  rw [quantD_ok bls_rep]
  congr 2
  simp
theorem quant_all1 {n : Nat} : quantD (fun bs => bs.all id) [.lst (List.replicate n (.bl true))] = some (.bl true) := by
  rw [quantD_ok bls_rep]
  congr 2
  simp
end
theorem pyDs_strs : ∀ xs : List Str, pyDs (xs.map Dv.str) = some (xs.map .str)
  | [] => rfl
  | x :: xs => by
    rw [List.map_cons, pyDs, pyDs_strs xs]; rfl
theorem lay_strs : ∀ xs : List Str, (∀ x ∈ xs, PyData.strOk x = true) → PyData.canLayAll0 (xs.map .str) = true ∧ PyData.depthAll (xs.map .str) = 0
  | [], _ => ⟨by simp [PyData.canLayAll0], by simp [PyData.depthAll]⟩
  | x :: xs, h => by
    obtain ⟨h1, h2⟩ := lay_strs xs fun y hy => h y (List.mem_cons_of_mem _ hy)
    rw [List.map_cons]
    exact ⟨by simp [PyData.canLayAll0, PyData.canLay0, h x List.mem_cons_self, h1], by simp [PyData.depthAll, PyData.depth, h2]⟩
theorem shaped_strs {xs : List Str} (h : ∀ x ∈ xs, PyData.strOk x = true) : SeqAt.shaped (.list (xs.map .str)) = true := by
  obtain ⟨h1, h2⟩ := lay_strs xs h
  unfold SeqAt.shaped
  simp [PyData.canLay0, PyData.depth, h1, h2]
theorem eqP_strsNil {xs : List Str} (h : ∀ x ∈ xs, PyData.strOk x = true) : eqP false (.lst (xs.map Dv.str)) (.lst []) = some (.bl xs.isEmpty) := by
  have e1 : pyD (.lst (xs.map Dv.str)) = some (.list (xs.map .str)) := by
    rw [pyD, pyDs_strs]; rfl
  have e2 : pyD (.lst []) = some (.list []) := rfl
  unfold eqP
  rw [e1, e2]
  simp only
  rw [if_pos (by rw [shaped_strs h]; exact shaped_strs (xs := []) (fun x hx => nomatch hx))]
  cases xs <;> simp [PyData.eqv, PyData.eqvAll]
theorem shI (a : Int) : SeqAt.shaped (.int a) = true := rfl
theorem eqF_int {a b : Int} : eqP false (.int a) (.int b) = some (.bl (decide (a = b))) := by
  show some (Dv.bl (PyData.eqv (.int a) (.int b))) = _
  rw [PyData.eqv]; rfl
theorem eqT_int {a b : Int} : eqP true (.int a) (.int b) = some (.bl (!decide (a = b))) := by
  show some (Dv.bl (!PyData.eqv (.int a) (.int b))) = _
  rw [PyData.eqv]; rfl
theorem eqF_bl {a b : Bool} : eqP false (.bl a) (.bl b) = some (.bl (decide (a = b))) := by cases a <;> cases b <;> rfl
theorem eqT_bl {a b : Bool} : eqP true (.bl a) (.bl b) = some (.bl (!decide (a = b))) := by cases a <;> cases b <;> rfl
theorem isF_bl {a b : Bool} : isD false (.bl a) (.bl b) = some (.bl (decide (a = b))) := rfl
theorem isT_bl {a b : Bool} : isD true (.bl a) (.bl b) = some (.bl (!decide (a = b))) := rfl
end Fd
namespace Lw
open PySem PySem.Spec PyProof.Rows L2 Fd
local macro_rules | `(tactic| walk_at "fdhot") => `(tactic| fail)
local macro_rules | `(tactic| walk_at "fds") => `(tactic| first
  | walk_at "fdhot"
  | ((with_reducible show DTS _ _ (tSeq _ _) _ _); refine dts_seq ?_)
  | ((with_reducible show DTS _ _ (tIfS _ _ _) _ _); refine dts_if ?_)
  | ((with_reducible show DTS _ _ (tRet (tVar _)) _ _); first | refine dts_retL rfl ?_ | refine dts_ret ?_)
  | ((with_reducible show DTS _ _ (tRet _) _ _); refine dts_ret ?_)
  | ((with_reducible show DTS _ _ tRetN _ _); refine dts_retN ?_)
  | ((with_reducible show DTS _ _ tNext _ _); refine dts_next ?_)
  | ((with_reducible show DTS _ _ tBreak _ _); refine dts_brk ?_)
  | ((with_reducible show DTS _ _ tCont _ _); refine dts_cont ?_)
  | ((with_reducible show DTS _ _ (tAsg _ (gName _)) _ _); refine dts_set ?_)
  | ((with_reducible show DTS _ _ (tAsg _ (gSub (tVar _) _ rSetL)) _ _); refine dts_setIx ?_)
  | ((with_reducible show DTS _ _ (tAsg _ _) _ _); refine dts_asg ?_)
  | ((with_reducible show DTS _ _ (tDrop (tBM _ "list" rAppend (tVar _) (tCons _ tNil))) _ _); refine dts_append ?_ ⟨_, _, rfl, rfl, rfl⟩)
  | ((with_reducible show DTS _ _ (tDrop _) _ _); refine dts_drop ?_))
local macro_rules | `(tactic| walk_at "fdop") => `(tactic| first | with_reducible refine dt_op opD_add ?_ | with_reducible refine dt_opS opD_sub (sc_int fun _ _ => rfl) ?_ | with_reducible refine dt_op opD_ix ?_ | with_reducible refine dt_opS opD_eq sc_eq ?_ | with_reducible refine dt_opS opD_ne sc_eq ?_ | with_reducible refine dt_opS opD_lt (sc_int fun _ _ => rfl) ?_ | with_reducible refine dt_opS opD_le (sc_int fun _ _ => rfl) ?_ | with_reducible refine dt_opS opD_gt (sc_int fun _ _ => rfl) ?_ | with_reducible refine dt_opS opD_ge (sc_int fun _ _ => rfl) ?_ | with_reducible refine dt_opS opD_mod (sc_intC fun _ _ => rfl) ?_ | with_reducible refine dt_opS opD_mulW (sc_intC fun _ _ => rfl) ?_ | with_reducible refine dt_opS opD_fdivW (sc_intC fun _ _ => rfl) ?_ | with_reducible refine dt_opS opD_pow (sc_intC fun _ _ => rfl) ?_ | with_reducible refine dt_opS opD_is sc_is ?_ | with_reducible refine dt_opS opD_isnt sc_is ?_ | refine dt_opS opD_inS sc_inS ?_ | refine dt_opS opD_notInS sc_inS ?_)
local macro_rules | `(tactic| walk_at "fde") => `(tactic| first
  | ((with_reducible show DT _ _ (tVar _) _ _); first | refine dt_var rfl ?_ | refine dt_varH rfl rfl ?_)
  | ((with_reducible show DT _ _ (tC _) _ _); first | (with_reducible refine dt_int ?_) | (with_reducible refine dt_str ?_) | (with_reducible refine dt_bl ?_) | (with_reducible refine dt_non ?_))
  | ((with_reducible show DT _ _ (tOp _ _ _) _ _); walk_at "fdop")
  | ((with_reducible show DT _ _ (tCall _ _ _ _) _ _); first | refine dt_call rfl (dta_slot rfl rfl ?_) | refine dt_call rfl ?_)
  | ((with_reducible show DT _ _ (tCB _ _) _ _); first | with_reducible refine dt_isi ?_ | with_reducible refine dt_cbS callD_len sc_len ?_ | with_reducible refine dt_cbS callD_int sc_intD ?_ | with_reducible refine dt_cbS callD_strInt sc_strInt ?_ | refine dt_cbS callD_mm sc_mm ?_ | refine dt_cbS callD_quant sc_quant ?_)
  | ((with_reducible show DT _ _ (tTup _) _ _); refine dt_tup ?_)
  | ((with_reducible show DT _ _ (tLst _) _ _); refine dt_lst ?_)
  | ((with_reducible show DT _ _ (tSl _ _ _ _) _ _); refine dt_sl ?_)
  | ((with_reducible show DT _ _ (tAndV _ _) _ _); refine dt_andV ?_)
  | ((with_reducible show DT _ _ (tOrV _ _) _ _); refine dt_orV ?_)
  | ((with_reducible show DT _ _ (tNotV _) _ _); refine dt_notV ?_)
  | ((with_reducible show DT _ _ (tUn _ _) _ _); refine dt_un unD_neg ?_)
  | ((with_reducible show DT _ _ (tIf _ _ _) _ _); refine dt_if ?_)
  | ((with_reducible show DT _ _ (tM0 _ _) _ _); refine dt_upper ?_)
  | ((with_reducible show DT _ _ (tChain _ _ _ _ _) _ _); with_reducible refine dt_chain opD_le opD_le ?_)
  | (with_reducible refine dt_dnewK ?_)
  | ((with_reducible show DT _ _ (tDisp [(_, _)]) _ _); refine dt_disp1 (dtp_cons ?_)))
local macro_rules | `(tactic| walk_at "fdt") => `(tactic| first
  | ((with_reducible show DTT _ _ (tB _) _ _); refine dtt_B ?_)
  | ((with_reducible show DTT _ _ (tTest _) _ _); refine dtt_test ?_)
  | ((with_reducible show DTT _ _ (tNot _) _ _); refine dtt_not ?_)
  | ((with_reducible show DTT _ _ (tAnd _ _) _ _); refine dtt_and ?_)
  | ((with_reducible show DTT _ _ (tOr _ _) _ _); refine dtt_or ?_)
  | ((with_reducible show DTT _ _ tYes _ _); refine dtt_yes ?_))
local macro_rules | `(tactic| walk_at "fdi") => `(tactic| first
  | ((with_reducible show DI _ _ (iList _ _) _ _); refine di_list ?_)
  | ((with_reducible show DI _ _ (iTup _ _) _ _); refine di_tup ?_)
  | ((with_reducible show DI _ _ (iStr _) _ _); refine di_str ?_)
  | ((with_reducible show DI _ _ (iRng1 _) _ _); refine di_range1 ?_)
  | ((with_reducible show DI _ _ (iRng2 _) _ _); refine di_range2 ?_))
local macro_rules | `(tactic| walk_at "fdite") => `(tactic| first
  | (with_reducible refine iteT ?_)
  | (with_reducible refine iteF ?_)
  | refine iteT1 rfl ?_
  | refine iteF1 rfl ?_
  | refine iteT1 (by assumption) ?_
  | refine iteF1 (by assumption) ?_)
local macro_rules | `(tactic| walk_at "fdb") => `(tactic| first | assumption | decide | omega | exact sz (by omega) | exact sz (by simp only [str_add_len, sign_len]; omega) | exact cmul_dec (by decide +kernel) | exact cpow_dec (by decide +kernel) | exact cdiv_dec (by decide +kernel))
local macro_rules | `(tactic| walk_at "env") => `(tactic| simp only [upds_v, upds_s, upds_n, putS_0, putS_s, put_pi, put_ho, List.set_cons_zero, List.set_cons_succ, Int.reduceToNat])
local macro_rules | `(tactic| walk_at "fit") => `(tactic| repeat (first | exact Fit.nil | apply Fit.val (fun z => absurd z Bool.false_ne_true) | apply Fit.val (fun _ => nv_of rfl) | apply Fit.val (fun _ => ef_nv rfl) | apply Fit.slt rfl rfl rfl | apply Fit.new))
local macro_rules | `(tactic| walk_at "nod") => `(tactic| (simp only [slots]; decide))
local macro_rules | `(tactic| walk_at "fdl") => `(tactic| first
  | refine ⟨fun _ => rfl, ?_⟩
  | refine ⟨nv_of rfl, ?_⟩
  | refine ⟨ef_nv rfl, ?_⟩
  | refine ⟨ef_flr rfl, ?_⟩
  | (refine ⟨⟨_, rfl, rfl⟩, ?_⟩; try walk_at "env")
  | (refine ⟨⟨_, rfl, by assumption⟩, ?_⟩; try walk_at "env")
  | refine ⟨fun z => (nomatch z), ?_⟩
  | refine ⟨fun z => (nomatch (show Fl.fresh = Fl.view from z)), ?_⟩
  | refine ⟨fun z => (nomatch (show Fl.cold = Fl.view from z)), ?_⟩
  | refine ⟨fun _ => ⟨rfl, rfl⟩, ?_⟩
  | refine ⟨(rfl : (_ : Bool) = true), ?_⟩
  | refine ⟨(by first | rfl | exact ef_fr : ef _ _ = Fl.fresh), ?_⟩)
local macro_rules | `(tactic| walk_at "fre") => `(tactic| first | rfl | assumption)
local macro_rules | `(tactic| walk_at "dgn") => `(tactic| first
  | (refine ⟨_, _, dg_tup rfl (dgs_cons (dg_name rfl (by walk_at "fre")) (dgs_cons (dg_name rfl (by walk_at "fre")) dgs_nil)), ?_⟩)
  | (refine ⟨_, _, dg_tup rfl (dgs_cons (dg_name rfl (by walk_at "fre")) (dgs_cons (dg_name rfl (by walk_at "fre")) (dgs_cons (dg_name rfl (by walk_at "fre")) dgs_nil))), ?_⟩)
  | (refine ⟨_, _, dg_name rfl (by walk_at "fre"), ?_⟩))
local macro_rules | `(tactic| walk_at "fdx") => `(tactic| first
  | ((with_reducible show (∃ ws env2, DG _ _ ws _ _ _ env2 ∧ _)); walk_at "dgn"; try walk_at "env")
  | (with_reducible refine ⟨_, _, _, rfl, quant_any0, ?_⟩)
  | (with_reducible refine ⟨_, _, _, rfl, quant_all1, ?_⟩)
  | (refine ⟨_, _, _, rfl, rfl, ?_⟩; try dsimp only)
  | (refine ⟨_, _, _, rfl, lenD_str ?_, ?_⟩; focus walk_at "fdb")
  | refine ⟨_, (by walk_at "fit"), (by walk_at "nod"), ?_⟩
  | refine ⟨true, rfl, ?_⟩
  | refine ⟨false, rfl, ?_⟩
  | (with_reducible refine ⟨_, eqF_int, ?_⟩)
  | (with_reducible refine ⟨_, eqT_int, ?_⟩)
  | (with_reducible refine ⟨_, eqF_bl, ?_⟩)
  | (with_reducible refine ⟨_, eqT_bl, ?_⟩)
  | (with_reducible refine ⟨_, isF_bl, ?_⟩)
  | (with_reducible refine ⟨_, isT_bl, ?_⟩)
  | (refine ⟨_, rfl, ?_⟩; try dsimp only)
  | (refine ⟨_, intOpC_ok ?_, ?_⟩; focus walk_at "fdb")
  | (refine ⟨_, addD_str ?_, ?_⟩; focus walk_at "fdb")
  | (refine ⟨_, addD_lst ?_, ?_⟩; focus walk_at "fdb")
  | (refine ⟨_, slD_str ?_, ?_⟩; focus walk_at "fdb")
  | (refine ⟨_, rfl, ?_, ?_⟩; focus walk_at "fdb")
  | refine ⟨_, _, rfl, Nat.le_of_ble_eq_true rfl, ?_⟩
  | ((with_reducible show (∃ k d, [(_, _)] = [(k, d)] ∧ _)); refine ⟨_, _, rfl, ?_⟩)
  | (refine ⟨_, _, _, _, rfl, rfl, rfl, rfl, rfl, rfl, ?_⟩; try walk_at "env"))
local macro_rules | `(tactic| walk_at "fd") => `(tactic| first
  | ((with_reducible show DTS _ _ _ _ _); walk_at "fds")
  | ((with_reducible show DT _ _ _ _ _); walk_at "fde")
  | ((with_reducible show DTA _ _ tNil _ _); refine dta_nil ?_)
  | ((with_reducible show DTA _ _ (tCons _ _) _ _); refine dta_cons ?_)
  | ((with_reducible show DTT _ _ _ _ _); walk_at "fdt")
  | ((with_reducible show (ite _ _ _)); walk_at "fdite")
  | ((with_reducible show DO _ _ tNoPart _ _); refine do_none ?_)
  | ((with_reducible show DO _ _ (tPart _) _ _); refine do_some ?_)
  | ((with_reducible show DI _ _ _ _ _); walk_at "fdi")
  | (with_reducible refine dtp_nil ?_)
  | ((with_reducible show (_ ∧ _)); walk_at "fdl")
  | ((with_reducible show (∃ _, _)); walk_at "fdx"))
local macro_rules | `(tactic| walk_at "ini") => `(tactic| dsimp only [argEnv_f, argEnv_t, argEnv_n, List.length_cons, List.length_nil, Nat.reduceAdd, Nat.reduceSub, List.replicate, List.cons_append, List.nil_append, List.map_cons, List.map_nil])
local macro_rules | `(tactic| walk_at "go") => `(tactic| (try walk_at "ini"); repeat walk_at "fd")

def top (i : Nat) : Stmt := PySem.Challenge.pw_farcopies_k02_stamps_or_not.main.body.getD i (.Pass ⟨0, 0, 0, 0⟩)
abbrev s_is_whole : Stmt := top 3
abbrev s_is_word : Stmt := top 4
abbrev s_is_stamp : Stmt := top 5
abbrev s__law_cell_at : Stmt := top 7
abbrev s__law_left : Stmt := top 8
abbrev s__law_pick : Stmt := top 9
abbrev s__law_one_of : Stmt := top 10
abbrev s__law_word : Stmt := top 11
abbrev s__law_stamp : Stmt := top 12
abbrev s_law : Stmt := top 13
structure Txt (K : PySem.W.Frag) (mg : Str → Option Value) : Prop where
  f_is_whole : ∃ fd, FunD K "is_whole" "is_whole" (defArgs s_is_whole) (defBody s_is_whole) (defScope s_is_whole) [] [] (He.ga K "is_whole") fd
  g_is_whole : mg "is_whole" = some (.ref (He.ga K "is_whole"))
  f_is_word : ∃ fd, FunD K "is_word" "is_word" (defArgs s_is_word) (defBody s_is_word) (defScope s_is_word) [] [] (He.ga K "is_word") fd
  g_is_word : mg "is_word" = some (.ref (He.ga K "is_word"))
  f_is_stamp : ∃ fd, FunD K "is_stamp" "is_stamp" (defArgs s_is_stamp) (defBody s_is_stamp) (defScope s_is_stamp) [] [] (He.ga K "is_stamp") fd
  g_is_stamp : mg "is_stamp" = some (.ref (He.ga K "is_stamp"))
  f__law_cell_at : ∃ fd, FunD K "_law_cell_at" "_law_cell_at" (defArgs s__law_cell_at) (defBody s__law_cell_at) (defScope s__law_cell_at) [] [] (He.ga K "_law_cell_at") fd
  g__law_cell_at : mg "_law_cell_at" = some (.ref (He.ga K "_law_cell_at"))
  f__law_left : ∃ fd, FunD K "_law_left" "_law_left" (defArgs s__law_left) (defBody s__law_left) (defScope s__law_left) [] [] (He.ga K "_law_left") fd
  g__law_left : mg "_law_left" = some (.ref (He.ga K "_law_left"))
  f__law_pick : ∃ fd, FunD K "_law_pick" "_law_pick" (defArgs s__law_pick) (defBody s__law_pick) (defScope s__law_pick) [] [] (He.ga K "_law_pick") fd
  g__law_pick : mg "_law_pick" = some (.ref (He.ga K "_law_pick"))
  f__law_one_of : ∃ fd, FunD K "_law_one_of" "_law_one_of" (defArgs s__law_one_of) (defBody s__law_one_of) (defScope s__law_one_of) [] [] (He.ga K "_law_one_of") fd
  g__law_one_of : mg "_law_one_of" = some (.ref (He.ga K "_law_one_of"))
  f__law_word : ∃ fd, FunD K "_law_word" "_law_word" (defArgs s__law_word) (defBody s__law_word) (defScope s__law_word) [] [] (He.ga K "_law_word") fd
  g__law_word : mg "_law_word" = some (.ref (He.ga K "_law_word"))
  f__law_stamp : ∃ fd, FunD K "_law_stamp" "_law_stamp" (defArgs s__law_stamp) (defBody s__law_stamp) (defScope s__law_stamp) [] [] (He.ga K "_law_stamp") fd
  g__law_stamp : mg "_law_stamp" = some (.ref (He.ga K "_law_stamp"))
  f_law : ∃ fd, FunD K "law" "law" (defArgs s_law) (defBody s_law) (defScope s_law) [] [] (He.ga K "law") fd
  g_law : mg "law" = some (.ref (He.ga K "law"))
  n_all : mg "all" = none
  n_any : mg "any" = none
  n_bool : mg "bool" = none
  n_int : mg "int" = none
  n_isinstance : mg "isinstance" = none
  n_len : mg "len" = none
  n_max : mg "max" = none
  n_min : mg "min" = none
  n_range : mg "range" = none
  n_str : mg "str" = none
  n_tuple : mg "tuple" = none
  k_LETTERS : ∃ u, mg "LETTERS" = some u ∧ RelV (.str "abcdefghijklmnopqrstuvwxyz") u
  k_MOST_SIGNS : ∃ u, mg "MOST_SIGNS" = some u ∧ RelV (.int 8) u
section
variable {P : Program} {w : World} {K : PySem.W.Frag} {mg : Str → Option Value} {base : Heap}
def wholeB : Dv → Bool
  | .int _ => true
  | _ => false
def fs_is_whole : Fs := fun ds P => ∃ d, ds = [d] ∧ nobj d = true ∧ P (.bl (wholeB d)) .fresh ds
theorem sc_is_whole : FnScope ["thing"] ["thing"] (defScope s_is_whole) := ⟨rfl, rfl, rfl, by decide +kernel, rfl, by decide +kernel, by decide +kernel⟩
theorem ok_is_whole (T : Txt K mg) {fd : FuncData} (F : FunD K "is_whole" "is_whole" (defArgs s_is_whole) (defBody s_is_whole) (defScope s_is_whole) [] [] (He.ga K "is_whole") fd) : FnOk P w K mg base CX0 1 (He.ga K "is_whole") fd ["thing"] (spD K [false] fs_is_whole) := by
  have sc := sc_is_whole
  refine fn_spE F sc rfl (by decide) fun cdv A outer s H E hr => ?_
  have hu : A.units + 3 + 1 < cLine := hu_of hr
  have hu64 : A.units + 3 + 64 < cLine := hr.units
  have hu65 : A.units + 3 + 65 < cLine := by have := hr.un; show A.units + 3 + 65 < cLine; have h2 : (A.deeper (envOfC "is_whole" (defScope s_is_whole) s.heap.objs.size (He.ga K "is_whole") cdv)).units = A.units + 3 := rfl; omega
  refine ⟨_, (pss_one (ps_ret (pe_and (pe_callB call_isiD (by rfl) T.n_isinstance (by decide +kernel) (pa_cons (pv 0) (pa_cons (pe_bltn (v := .ty "int") (by rfl) T.n_int (by decide +kernel) rfl) pa_nil))) (pe_one (pe_not (pe_callB call_isiD (by rfl) T.n_isinstance (by decide +kernel) (pa_cons (pv 0) (pa_cons (pe_bltn (v := .ty "bool") (by rfl) T.n_bool (by decide +kernel) rfl) pa_nil)))))))), fun B ds R hB hl h => ?_⟩
  dsimp only [cxOf, Cx.nox]
  obtain ⟨d, rfl, hn, hP⟩ := h
  cases d with
  | obj => cases hn
  | _ =>
    walk_at "go"
    exact hP
theorem cal_is_whole (T : Txt K mg) : Fd.Cal P w K mg base 1 "is_whole" (spD K [false] fs_is_whole) := by
  obtain ⟨fd, F⟩ := T.f_is_whole
  exact ⟨_, fd, ["thing"], ok_is_whole T F, T.g_is_whole, F.kp, F.bindsN fun _ _ _ _ _ _ us hl => match us, hl with | [_], _ => rfl⟩

def fs_is_word : Fs := fun ds P => ∃ d, ds = [d] ∧ nobj d = true ∧ (∀ x, d = .str x → x.length ≤ sizeLine) ∧ P (.bl (wordB d)) .fresh ds
theorem sc_is_word : FnScope ["thing", "sign"] ["thing"] (defScope s_is_word) := ⟨rfl, rfl, rfl, by decide +kernel, rfl, by decide +kernel, by decide +kernel⟩
theorem ok_is_word (T : Txt K mg) {fd : FuncData} (F : FunD K "is_word" "is_word" (defArgs s_is_word) (defBody s_is_word) (defScope s_is_word) [] [] (He.ga K "is_word") fd) : FnOk P w K mg base CX0 1 (He.ga K "is_word") fd ["thing"] (spD K [false] fs_is_word) := by
  have sc := sc_is_word
  refine fn_spE F sc rfl (by decide) fun cdv A outer s H E hr => ?_
  have hu : A.units + 3 + 1 < cLine := hu_of hr
  have hu64 : A.units + 3 + 64 < cLine := hr.units
  have hu65 : A.units + 3 + 65 < cLine := by have := hr.un; show A.units + 3 + 65 < cLine; have h2 : (A.deeper (envOfC "is_word" (defScope s_is_word) s.heap.objs.size (He.ga K "is_word") cdv)).units = A.units + 3 := rfl; omega
  refine ⟨_, (pss_cons (ps_if (PW.pt (pw_or (pt_not (pt_val (pe_callB call_isiD (by rfl) T.n_isinstance (by decide +kernel) (pa_cons (pv 0) (pa_cons (pe_bltn (v := .ty "str") (by rfl) T.n_str (by decide +kernel) rfl) pa_nil))))) (pw_or1 (pt_not (pt_chain op_le op_le pe_int (pe_callB call_len (by rfl) T.n_len (by decide +kernel) (pa_cons (pv 0) pa_nil)) (Fd.pe_gc (by rfl) T.k_MOST_SIGNS)))))) (pss_one (ps_ret pe_bl)) pss_nil)
      (pss_one (ps_ret (pe_callB (cr_all rfl) (by rfl) T.n_all (by decide +kernel) (pa_cons (pe_lc rfl sc.nd (pi_str (pv 0)) (blkOk_by (own := [("sign", 1)]) (N := ["thing", "sign"]) (sc := defScope s_is_word) (by decide +kernel)) (fun _ _ _ _ _ => (pg_name (i := 1) sc.nd rfl (Or.inl rfl))) (fun _ _ _ _ _ => pts_nil) (fun _ _ _ _ _ => (pe_cmpR op_in_sign (pv 1) (Fd.pe_gc (by rfl) T.k_LETTERS) rfl))) pa_nil))))), fun B ds R hB hl h => ?_⟩
  dsimp only [cxOf, Cx.nox]
  obtain ⟨d, rfl, hn, hx, hP⟩ := h
  cases d with
  | str x =>
    have hx := hx x rfl
    walk_at "go"
    refine iteB (fun c1 => ?_) fun c1 => ?_
    · walk_at "go"
      refine iteB (fun c2 => ?_) fun c2 => ?_
      · walk_at "go"
        rw [show wordB (.str x) = false from by
          show (decide (1 ≤ x.length) && (decide (x.length ≤ 8) && _)) = false
          rw [show decide (x.length ≤ 8) = false from decide_eq_false (by simp at c2; omega)]; simp] at hP
        exact hP
      · walk_at "go"
        refine dt_lc1 (fun d => match d with | .str y => some (.bl (lowC (y.cps.getD 0 0))) | _ => none) ?_
        refine di_str (dt_var rfl ⟨_, rfl, rfl, ?_, (fun z => nomatch z), fun y hy => ?_, ?_⟩)
        · rw [signs_len]; exact hx
        · obtain ⟨c, hc, rfl⟩ := List.mem_map.mp hy
          walk_at "go"
          rw [← in_abc]
          exact ⟨rfl, rfl⟩
        · walk_at "go"
          refine ⟨_, _, _, rfl, quantD_ok (bs := x.cps.toList.map lowC) ?_, ?_⟩
          · unfold signsD
            rw [List.filterMap_map, List.map_map]
            exact congrFun (List.filterMap_eq_map (f := Dv.bl ∘ lowC)) _
          · walk_at "go"
            rw [show wordB (.str x) = (x.cps.toList.map lowC).all id from by
              show (decide (1 ≤ x.length) && (decide (x.length ≤ 8) && _)) = _
              rw [show decide (1 ≤ x.length) = true from decide_eq_true (by simp at c1; omega), show decide (x.length ≤ 8) = true from decide_eq_true (by simp at c2; omega), List.all_map]; rfl] at hP
            exact hP
    · walk_at "go"
      rw [show wordB (.str x) = false from by
        show (decide (1 ≤ x.length) && _) = false
        rw [show decide (1 ≤ x.length) = false from decide_eq_false (by simp at c1; omega)]; rfl] at hP
      exact hP
  | obj => cases hn
  | _ =>
    walk_at "go"
    exact hP
theorem cal_is_word (T : Txt K mg) : Fd.Cal P w K mg base 1 "is_word" (spD K [false] fs_is_word) := by
  obtain ⟨fd, F⟩ := T.f_is_word
  exact ⟨_, fd, ["thing"], ok_is_word T F, T.g_is_word, F.kp, F.bindsN fun _ _ _ _ _ _ us hl => match us, hl with | [_], _ => rfl⟩
def stampB : Dv → Bool
  | .tup [.int a, b] => decide (1 ≤ a) && wordB b
  | _ => false
/-- what may be asked: no object, no too long text -/
def plW (d : Dv) : Prop := nobj d = true ∧ ∀ x, d = .str x → x.length ≤ sizeLine
def plS : Dv → Prop
  | .tup [a, b] => nobj a = true ∧ plW b
  | .tup _ => True
  | d => nobj d = true
theorem plW_int {i : Int} : plW (.int i) := ⟨rfl, fun x h => (nomatch h)⟩
theorem plW_str {x : Str} (h : x.length ≤ 1000000) : plW (.str x) := ⟨rfl, fun y e => by cases e; exact sz h⟩
theorem plS_two {a b : Dv} (ha : plW a) (hb : plW b) : plS (.tup [a, b]) := ⟨ha.1, hb⟩
theorem stampB_two {i : Int} {b : Dv} (h : 1 ≤ i) : stampB (.tup [.int i, b]) = wordB b := by
  show (decide (1 ≤ i) && wordB b) = _
  rw [decide_eq_true h]; rfl
theorem stampB_low {i : Int} {b : Dv} (h : i < 1) : stampB (.tup [.int i, b]) = false := by
  show (decide (1 ≤ i) && wordB b) = _
  rw [decide_eq_false (by omega)]; rfl
def fs_is_stamp : Fs := fun ds P => ∃ d, ds = [d] ∧ plS d ∧ P (.bl (stampB d)) .fresh ds
theorem sc_is_stamp : FnScope ["thing"] ["thing"] (defScope s_is_stamp) := ⟨rfl, rfl, rfl, by decide +kernel, rfl, by decide +kernel, by decide +kernel⟩
theorem ok_is_stamp (T : Txt K mg) {fd : FuncData} (F : FunD K "is_stamp" "is_stamp" (defArgs s_is_stamp) (defBody s_is_stamp) (defScope s_is_stamp) [] [] (He.ga K "is_stamp") fd) : FnOk P w K mg base CX0 2 (He.ga K "is_stamp") fd ["thing"] (spD K [false] fs_is_stamp) := by
  have sc := sc_is_stamp
  refine fn_spE F sc rfl (by decide) fun cdv A outer s H E hr => ?_
  have hu : A.units + 3 + 1 < cLine := hu_of hr
  have hu64 : A.units + 3 + 64 < cLine := hr.units
  have hu65 : A.units + 3 + 65 < cLine := by have := hr.un; show A.units + 3 + 65 < cLine; have h2 : (A.deeper (envOfC "is_stamp" (defScope s_is_stamp) s.heap.objs.size (He.ga K "is_stamp") cdv)).units = A.units + 3 := rfl; omega
  refine ⟨_, (pss_cons (ps_if (PW.pt (pw_or (pt_not (pt_val (pe_callB call_isiD (by rfl) T.n_isinstance (by decide +kernel) (pa_cons (pv 0) (pa_cons (pe_bltn (v := .ty "tuple") (by rfl) T.n_tuple (by decide +kernel) rfl) pa_nil))))) (pw_or1 (pt_cmpR (op_neD hu64) (pe_callB call_len (by rfl) T.n_len (by decide +kernel) (pa_cons (pv 0) pa_nil)) pe_int (nomark _))))) (pss_one (ps_ret pe_bl)) pss_nil)
      (pss_one (ps_ret (pe_and (Fd.pe_c (cal_is_whole T) hr (by decide) (by rfl) (pa_cons (pe_ix ix_seq (pv 0) pe_int (fun _ _ => rfl)) pa_nil)) (pe_and (pe_cmpR op_ge (pe_ix ix_seq (pv 0) pe_int (fun _ _ => rfl)) pe_int (nomark _)) (pe_one (Fd.pe_c (cal_is_word T) hr (by decide) (by rfl) (pa_cons (pe_ix ix_seq (pv 0) pe_int (fun _ _ => rfl)) pa_nil)))))))), fun B ds R hB hl h => ?_⟩
  dsimp only [cxOf, Cx.nox]
  obtain ⟨d, rfl, hn, hP⟩ := h
  cases d with
  | obj => cases hn
  | tup xs =>
    walk_at "go"
    refine iteB (fun c1 => ?_) fun c1 => ?_
    · walk_at "go"
      rw [show stampB (.tup xs) = false from by
        unfold stampB
        split
        · rename_i a b e
          cases e
          simp at c1
        · rfl] at hP
      exact hP
    · obtain ⟨a, b, rfl⟩ : ∃ a b, xs = [a, b] := by
        match xs, c1 with
        | [a, b], _ => exact ⟨a, b, rfl⟩
        | [], c1 => simp at c1
        | [_], c1 => simp at c1
        | _ :: _ :: _ :: _, c1 => simp at c1; omega
      have ha : nobj a = true := hn.1
      have hb : plW b := hn.2
      walk_at "go"
      refine ⟨a, rfl, ha, ?_⟩
      walk_at "go"
      cases a with
      | int i =>
        walk_at "go"
        refine iteB (fun c2 => ?_) fun c2 => ?_
        · walk_at "go"
          refine ⟨b, rfl, hb.1, hb.2, ?_⟩
          walk_at "go"
          rw [show stampB (.tup [.int i, b]) = wordB b from by
            show (decide (1 ≤ i) && wordB b) = _
            rw [c2]; rfl] at hP
          exact hP
        · walk_at "go"
          rw [show stampB (.tup [.int i, b]) = false from by
            show (decide (1 ≤ i) && wordB b) = _
            rw [c2]; rfl] at hP
          exact hP
      | _ =>
        walk_at "go"
        exact hP
  | _ =>
    walk_at "go"
    exact hP
theorem cal_is_stamp (T : Txt K mg) : Fd.Cal P w K mg base 2 "is_stamp" (spD K [false] fs_is_stamp) := by
  obtain ⟨fd, F⟩ := T.f_is_stamp
  exact ⟨_, fd, ["thing"], ok_is_stamp T F, T.g_is_stamp, F.kp, F.bindsN fun _ _ _ _ _ _ us hl => match us, hl with | [_], _ => rfl⟩
theorem ixN_nat {n j : Nat} (hj : j < n) : ixN n (j : Int) = some j := by
  unfold ixN
  rw [if_pos (by omega), if_pos (by omega)]
  simp
def fs__law_cell_at : Fs := fun ds P => ∃ (ns : List Int) (k : Nat), ds = [.frl ns, .int k] ∧ P (.int (ns.getD k 0)) .fresh ds
theorem sc__law_cell_at : FnScope ["_law_script", "_law_k"] ["_law_script", "_law_k"] (defScope s__law_cell_at) := ⟨rfl, rfl, rfl, by decide +kernel, rfl, by decide +kernel, by decide +kernel⟩
theorem ok__law_cell_at (T : Txt K mg) {fd : FuncData} (F : FunD K "_law_cell_at" "_law_cell_at" (defArgs s__law_cell_at) (defBody s__law_cell_at) (defScope s__law_cell_at) [] [] (He.ga K "_law_cell_at") fd) : FnOk P w K mg base CX0 1 (He.ga K "_law_cell_at") fd ["_law_script", "_law_k"] (spD K [false, false] fs__law_cell_at) := by
  have sc := sc__law_cell_at
  refine fn_spE F sc rfl (by decide) fun cdv A outer s H E hr => ?_
  have hu : A.units + 3 + 1 < cLine := hu_of hr
  have hu64 : A.units + 3 + 64 < cLine := hr.units
  have hu65 : A.units + 3 + 65 < cLine := by have := hr.un; show A.units + 3 + 65 < cLine; have h2 : (A.deeper (envOfC "_law_cell_at" (defScope s__law_cell_at) s.heap.objs.size (He.ga K "_law_cell_at") cdv)).units = A.units + 3 := rfl; omega
  refine ⟨_, (pss_cons (ps_if (pt_cmpR op_lt (pv 1) (pe_callB call_len (by rfl) T.n_len (by decide +kernel) (pa_cons (pv 0) pa_nil)) (nomark _)) (pss_one (ps_ret (pe_ix ix_seq (pv 0) (pv 1) (fun _ _ => rfl)))) pss_nil)
      (pss_one (ps_ret pe_int))), fun B ds R hB hl h => ?_⟩
  dsimp only [cxOf, Cx.nox]
  obtain ⟨ns, k, rfl, hP⟩ := h
  walk_at "go"
  refine iteB (fun c1 => ?_) fun c1 => ?_
  · walk_at "go"
    have hk : k < ns.length := by simp at c1; omega
    refine ⟨.int (ns.getD k 0), ?_, ?_⟩
    · show (atI ns (k : Int)).map Dv.int = _
      rw [atI_of (j := k) (ixN_nat hk) (List.getElem?_eq_getElem hk)]
      rw [List.getD_eq_getElem?_getD, List.getElem?_eq_getElem hk]; rfl
    · walk_at "go"
      exact hP
  · walk_at "go"
    have hk : ns.length ≤ k := by simp at c1; omega
    rw [List.getD_eq_getElem?_getD, List.getElem?_eq_none hk] at hP
    exact hP
theorem cal__law_cell_at (T : Txt K mg) : Fd.Cal P w K mg base 1 "_law_cell_at" (spD K [false, false] fs__law_cell_at) := by
  obtain ⟨fd, F⟩ := T.f__law_cell_at
  exact ⟨_, fd, ["_law_script", "_law_k"], ok__law_cell_at T F, T.g__law_cell_at, F.kp, F.bindsN fun _ _ _ _ _ _ us hl => match us, hl with | [_, _], _ => rfl⟩
/-- the row of digits, so many numbers taken -/
def Lf (n : Nat) (d : Dv) : Prop := ∃ a s c : Int, d = .lst [.int a, .int s, .int c] ∧ 0 ≤ s ∧ s < 2147483648 ∧ 0 ≤ c ∧ c ≤ n
theorem lf_big (b : Int) (h : b = 10 ^ (60 : Int).toNat * 10 ^ (60 : Int).toNat * 10 ^ (60 : Int).toNat * 10 ^ (60 : Int).toNat * 10 ^ (60 : Int).toNat * 10 ^ (60 : Int).toNat) (x : Int) : (x % b).natAbs < 2 ^ 2000 := by
  have h1 : b = 10 ^ 360 := by rw [h]; decide +kernel
  have h2 : (0 : Int) < b := by rw [h1]; decide +kernel
  have h3 := Int.emod_nonneg x (Int.ne_of_gt h2)
  have h4 := Int.emod_lt_of_pos x h2
  have h5 : (10 : Int) ^ 360 < 2 ^ 2000 := by decide +kernel
  omega
def fs__law_left : Fs := fun ds P => ∃ (ns : List Int) (k : Nat), ds = [.frl ns, .int k] ∧ ns.length ≤ 63 ∧ k < 2 ^ 32 ∧ ∀ l, Lf 0 l → P l .fresh ds
theorem sc__law_left : FnScope ["_law_script", "_law_k", "_law_cell", "_law_seed", "_law_bound"] ["_law_script", "_law_k"] (defScope s__law_left) := ⟨rfl, rfl, rfl, by decide +kernel, rfl, by decide +kernel, by decide +kernel⟩
theorem ok__law_left (T : Txt K mg) {fd : FuncData} (F : FunD K "_law_left" "_law_left" (defArgs s__law_left) (defBody s__law_left) (defScope s__law_left) [] [] (He.ga K "_law_left") fd) : FnOk P w K mg base CX0 2 (He.ga K "_law_left") fd ["_law_script", "_law_k"] (spD K [false, false] fs__law_left) := by
  have sc := sc__law_left
  refine fn_spE F sc rfl (by decide) fun cdv A outer s H E hr => ?_
  have hu : A.units + 3 + 1 < cLine := hu_of hr
  have hu64 : A.units + 3 + 64 < cLine := hr.units
  have hu65 : A.units + 3 + 65 < cLine := by have := hr.un; show A.units + 3 + 65 < cLine; have h2 : (A.deeper (envOfC "_law_left" (defScope s__law_left) s.heap.objs.size (He.ga K "_law_left") cdv)).units = A.units + 3 := rfl; omega
  refine ⟨_, (pss_cons (ps_set (i := 2) sc.nd rfl (Or.inl rfl) (Fd.pe_c (cal__law_cell_at T) hr (by decide) (by rfl) (pa_cons (pv 0) (pa_cons (pe_op op_mod (pv 1) (pe_callB (call_max2 rfl) (by rfl) T.n_max (by decide +kernel) (pa_cons pe_int (pa_cons (pe_callB call_len (by rfl) T.n_len (by decide +kernel) (pa_cons (pv 0) pa_nil)) pa_nil)))) pa_nil))))
      (pss_cons (ps_set (i := 3) sc.nd rfl (Or.inl rfl) (pe_op op_mod (pe_op op_mulW (pe_op op_addA (pe_op op_addA (pe_op op_mod (pv 2) pe_int) (pe_op op_mulW (pe_op op_mulW pe_int (pv 1)) (pv 1))) pe_int) pe_int) pe_int))
      (pss_cons (ps_set (i := 4) sc.nd rfl (Or.inl rfl) (pe_op op_mulW (pe_op op_mulW (pe_op op_mulW (pe_op op_mulW (pe_op op_mulW (pe_op op_pow pe_int pe_int) (pe_op op_pow pe_int pe_int)) (pe_op op_pow pe_int pe_int)) (pe_op op_pow pe_int pe_int)) (pe_op op_pow pe_int pe_int)) (pe_op op_pow pe_int pe_int)))
      (pss_one (ps_ret (pe_lst (pa_cons (pe_op op_mulW (pe_op op_mod (pv 2) (pv 4)) (pe_callTy call_int1 (by rfl) T.n_int (by decide +kernel) (pa_cons (pe_cmpR op_ge (pv 2) (pe_op op_pow pe_int pe_int) (nomark _)) pa_nil))) (pa_cons (pv 3) (pa_cons pe_int pa_nil))))))))), fun B ds R hB hl h => ?_⟩
  dsimp only [cxOf, Cx.nox]
  obtain ⟨ns, k, rfl, hl, hk, hP⟩ := h
  walk_at "go"
  have hm : 0 < (if (ns.length : Int) > 1 then (ns.length : Int) else 1) := by split <;> omega
  have h0 := Int.emod_nonneg (k : Int) (Int.ne_of_gt hm)
  obtain ⟨j, hj⟩ := Int.eq_ofNat_of_zero_le h0
  rw [hj]
  refine ⟨ns, j, rfl, ?_⟩
  walk_at "go"
  have b1 : ((k : Int)).natAbs < 2 ^ 40 := by omega
  have b2 : ((7919 : Int)).natAbs < 2 ^ 40 := by decide
  have b3 := wide_lt b2 b1
  have b4 := wide_lt b3 b1
  refine ⟨_, intOpC_ok (wide_mul b2 b1 (by decide) (by decide) (by decide)), ?_⟩
  walk_at "go"
  refine ⟨_, intOpC_ok (wide_mul b3 b1 (by decide) (by decide) (by decide)), ?_⟩
  walk_at "go"
  have m1 := Int.emod_nonneg (ns.getD j 0) (show (2147483629 : Int) ≠ 0 by decide)
  have m2 := Int.emod_lt_of_pos (ns.getD j 0) (show (0 : Int) < 2147483629 by decide)
  have b5 : (ns.getD j 0 % 2147483629 + 7919 * (k : Int) * k + 11).natAbs < 2 ^ 130 := by omega
  refine ⟨_, intOpC_ok (wide_mul b5 (show (48271 : Int).natAbs < 2 ^ 40 by decide) (by decide) (by decide) (by decide)), ?_⟩
  walk_at "go"
  refine ⟨_, intOpC_ok (lf_mul (lf_big _ rfl _) (by split <;> decide +kernel)), ?_⟩
  walk_at "go"
  refine hP _ ⟨_, _, _, rfl, Int.emod_nonneg _ (by decide), Int.lt_trans (Int.emod_lt_of_pos _ (by decide)) (by decide), by decide, by decide⟩
theorem cal__law_left (T : Txt K mg) : Fd.Cal P w K mg base 2 "_law_left" (spD K [false, false] fs__law_left) := by
  obtain ⟨fd, F⟩ := T.f__law_left
  exact ⟨_, fd, ["_law_script", "_law_k"], ok__law_left T F, T.g__law_left, F.kp, F.bindsN fun _ _ _ _ _ _ us hl => match us, hl with | [_, _], _ => rfl⟩

def fs__law_pick : Fs := fun ds P => ∃ (n : Nat) (l : Dv) (m : Int), ds = [l, .int m] ∧ Lf n l ∧ n < 2 ^ 60 ∧ 0 < m ∧ m < 2 ^ 200 ∧ ∀ (r : Nat) (l' : Dv), (r : Int) < m → Lf (n + 1) l' → P (.int r) .fresh [l', .int m]
theorem sc__law_pick : FnScope ["_law_left_here", "_law_many", "_law_digit"] ["_law_left_here", "_law_many"] (defScope s__law_pick) := ⟨rfl, rfl, rfl, by decide +kernel, rfl, by decide +kernel, by decide +kernel⟩
theorem ok__law_pick (T : Txt K mg) {fd : FuncData} (F : FunD K "_law_pick" "_law_pick" (defArgs s__law_pick) (defBody s__law_pick) (defScope s__law_pick) [] [] (He.ga K "_law_pick") fd) : FnOk P w K mg base CX0 1 (He.ga K "_law_pick") fd ["_law_left_here", "_law_many"] (spD K [true, false] fs__law_pick) := by
  have sc := sc__law_pick
  refine fn_spE F sc rfl (by decide) fun cdv A outer s H E hr => ?_
  have hu : A.units + 3 + 1 < cLine := hu_of hr
  have hu64 : A.units + 3 + 64 < cLine := hr.units
  have hu65 : A.units + 3 + 65 < cLine := by have := hr.un; show A.units + 3 + 65 < cLine; have h2 : (A.deeper (envOfC "_law_pick" (defScope s__law_pick) s.heap.objs.size (He.ga K "_law_pick") cdv)).units = A.units + 3 := rfl; omega
  refine ⟨_, (pss_cons (ps_if (pt_cmpR op_gt (pe_ix ix_seq (pv 0) pe_int (fun _ _ => rfl)) pe_int (nomark _)) (pss_cons (ps_set (i := 2) sc.nd rfl (Or.inl rfl) (pe_op op_mod (pe_ix ix_seq (pv 0) pe_int (fun _ _ => rfl)) (pv 1)))
      (pss_cons (ps_asg (pe_op op_fdivW (pe_ix ix_seq (pv 0) pe_int (fun _ _ => rfl)) (pv 1)) (pg_sub (pv 0) pe_int set_list))
      (pss_one (ps_ret (pv 2))))) pss_nil)
      (pss_cons (ps_asg (pe_op op_addA (pe_ix ix_seq (pv 0) pe_int (fun _ _ => rfl)) pe_int) (pg_sub (pv 0) pe_int set_list))
      (pss_cons (ps_asg (pe_op op_mod (pe_op op_addA (pe_op op_addA (pe_op op_mulW (pe_ix ix_seq (pv 0) pe_int (fun _ _ => rfl)) pe_int) pe_int) (pe_op op_mulW pe_int (pe_ix ix_seq (pv 0) pe_int (fun _ _ => rfl)))) pe_int) (pg_sub (pv 0) pe_int set_list))
      (pss_one (ps_ret (pe_op op_mod (pe_op op_fdivW (pe_op op_mod (pe_op op_mulW (pe_ix ix_seq (pv 0) pe_int (fun _ _ => rfl)) (pe_ix ix_seq (pv 0) pe_int (fun _ _ => rfl))) pe_int) pe_int) (pv 1))))))), fun B ds R hB hl h => ?_⟩
  dsimp only [cxOf, Cx.nox]
  obtain ⟨n, l, m, rfl, ⟨a, s1, c, rfl, hs0, hs1, hc0, hc1⟩, hn, hm0, hm1, hP⟩ := h
  have bm : m.natAbs < 2 ^ 200 := by omega
  have dv : ∀ x : Int, CDivW x m := fun x => wide_div hm0 bm (by decide) (by decide)
  walk_at "go"
  refine iteB (fun c1 => ?_) fun c1 => ?_
  · walk_at "go"
    refine ⟨_, intOpC_ok (dv _), ?_⟩
    walk_at "go"
    obtain ⟨r, hr⟩ := Int.eq_ofNat_of_zero_le (Int.emod_nonneg a (Int.ne_of_gt hm0))
    have hr2 := Int.emod_lt_of_pos a hm0
    rw [hr] at hr2 ⊢
    exact hP r _ hr2 ⟨_, _, _, rfl, hs0, hs1, hc0, by omega⟩
  · walk_at "go"
    have k1 : (48271 : Int).natAbs < 2 ^ 60 := by decide
    have k2 : (7919 : Int).natAbs < 2 ^ 60 := by decide
    have k3 : s1.natAbs < 2 ^ 60 := by omega
    have k4 : (c + 1).natAbs < 2 ^ 62 := by omega
    refine ⟨_, intOpC_ok (wide_mul k3 k1 (by decide) (by decide) (by decide)), ?_⟩
    walk_at "go"
    refine ⟨_, intOpC_ok (wide_mul k2 k4 (by decide) (by decide) (by decide)), ?_⟩
    walk_at "go"
    generalize hs2 : (s1 * 48271 + 12345 + 7919 * (c + 1)) % 2147483647 = s2
    have g0 : 0 ≤ s2 := by rw [← hs2]; exact Int.emod_nonneg _ (by decide)
    have g1 : s2 < 2147483647 := by rw [← hs2]; exact Int.emod_lt_of_pos _ (by decide)
    have k5 : s2.natAbs < 2 ^ 60 := by omega
    refine ⟨_, intOpC_ok (wide_mul k5 k5 (by decide) (by decide) (by decide)), ?_⟩
    walk_at "go"
    obtain ⟨r, hr⟩ := Int.eq_ofNat_of_zero_le (Int.emod_nonneg (s2 * s2 % 1999999973 / 31) (Int.ne_of_gt hm0))
    have hr2 := Int.emod_lt_of_pos (s2 * s2 % 1999999973 / 31) hm0
    rw [hr] at hr2 ⊢
    exact hP r _ hr2 ⟨_, _, _, rfl, g0, by omega, by omega, by omega⟩
theorem cal__law_pick (T : Txt K mg) : Fd.Cal P w K mg base 1 "_law_pick" (spD K [true, false] fs__law_pick) := by
  obtain ⟨fd, F⟩ := T.f__law_pick
  exact ⟨_, fd, ["_law_left_here", "_law_many"], ok__law_pick T F, T.g__law_pick, F.kp, F.bindsN fun _ _ _ _ _ _ us hl => match us, hl with | [_, _], _ => rfl⟩
/-- the things of a list, or a text's signs -/
def thingsD : Dv → Option (List Dv)
  | .lst xs => some xs
  | .tup xs => some xs
  | .str x => if x.length ≤ sizeLine then some (signsD x) else none
  | _ => none
theorem ix_things {d : Dv} {xs : List Dv} {r : Nat} {x : Dv} (h : thingsD d = some xs) (hx : xs[r]? = some x) : ixD d (.int r) = some x := by
  have hr := (List.getElem?_eq_some_iff.mp hx).1
  cases d <;> first | cases h | skip
  · rename_i z
    obtain ⟨hz, rfl⟩ := ite_some (C := z.length ≤ sizeLine) h
    unfold signsD at hx hr
    rw [List.getElem?_map] at hx
    obtain ⟨c, hc, rfl⟩ := Option.map_eq_some_iff.mp hx
    rw [List.length_map] at hr
    exact ixD_str hz (atI_of (ixN_nat hr) hc)
  · exact atI_of (ixN_nat hr) hx
  · exact atI_of (ixN_nat hr) hx
theorem things_str {x : Str} (h : x.length ≤ sizeLine) : thingsD (.str x) = some (signsD x) := if_pos h
theorem len_things {d : Dv} {xs : List Dv} (h : thingsD d = some xs) : lenD [d] = some (.int xs.length) := by
  cases d <;> first | cases h | skip
  · rename_i z
    obtain ⟨hz, rfl⟩ := ite_some (C := z.length ≤ sizeLine) h
    rw [lenD_str hz, signs_len]
  · rfl
  · rfl
def fs__law_one_of : Fs := fun ds P => ∃ (n : Nat) (l s : Dv) (xs : List Dv), ds = [l, s] ∧ Lf n l ∧ n < 2 ^ 60 ∧ thingsD s = some xs ∧ 0 < xs.length ∧ xs.length < 2 ^ 60 ∧ ∀ (x : Dv) (l' : Dv), x ∈ xs → Lf (n + 1) l' → P x .cold [l', s]
theorem sc__law_one_of : FnScope ["_law_left_here", "_law_some"] ["_law_left_here", "_law_some"] (defScope s__law_one_of) := ⟨rfl, rfl, rfl, by decide +kernel, rfl, by decide +kernel, by decide +kernel⟩
theorem ok__law_one_of (T : Txt K mg) {fd : FuncData} (F : FunD K "_law_one_of" "_law_one_of" (defArgs s__law_one_of) (defBody s__law_one_of) (defScope s__law_one_of) [] [] (He.ga K "_law_one_of") fd) : FnOk P w K mg base CX0 2 (He.ga K "_law_one_of") fd ["_law_left_here", "_law_some"] (spD K [true, false] fs__law_one_of) := by
  have sc := sc__law_one_of
  refine fn_spE F sc rfl (by decide) fun cdv A outer s H E hr => ?_
  have hu : A.units + 3 + 1 < cLine := hu_of hr
  have hu64 : A.units + 3 + 64 < cLine := hr.units
  have hu65 : A.units + 3 + 65 < cLine := by have := hr.un; show A.units + 3 + 65 < cLine; have h2 : (A.deeper (envOfC "_law_one_of" (defScope s__law_one_of) s.heap.objs.size (He.ga K "_law_one_of") cdv)).units = A.units + 3 := rfl; omega
  refine ⟨_, (pss_one (ps_ret (pe_ix ix_seq (pv 1) (Fd.pe_c (cal__law_pick T) hr (by decide) (by rfl) (pa_cons (pv 0) (pa_cons (pe_callB call_len (by rfl) T.n_len (by decide +kernel) (pa_cons (pv 1) pa_nil)) pa_nil))) (fun _ _ => rfl)))), fun B ds R hB hl h => ?_⟩
  dsimp only [cxOf, Cx.nox]
  obtain ⟨n, l, s1, xs, rfl, hl, hn, hx, h0, h1, hP⟩ := h
  walk_at "ini"
  refine dts_retC ?_
  walk_at "go"
  refine ⟨_, _, _, rfl, len_things hx, ?_⟩
  walk_at "go"
  refine ⟨n, l, xs.length, rfl, hl, hn, by omega, by omega, fun r l' hr hl' => ?_⟩
  obtain ⟨x, hxr⟩ : ∃ x, xs[r]? = some x := ⟨_, List.getElem?_eq_getElem (by omega)⟩
  walk_at "go"
  refine ⟨x, ix_things hx hxr, ?_⟩
  refine ⟨ef_flr rfl, ?_⟩
  exact hP x l' (List.mem_of_getElem? hxr) hl'
theorem cal__law_one_of (T : Txt K mg) : Fd.Cal P w K mg base 2 "_law_one_of" (spD K [true, false] fs__law_one_of) := by
  obtain ⟨fd, F⟩ := T.f__law_one_of
  exact ⟨_, fd, ["_law_left_here", "_law_some"], ok__law_one_of T F, T.g__law_one_of, F.kp, F.bindsN fun _ _ _ _ _ _ us hl => match us, hl with | [_, _], _ => rfl⟩
theorem lf_mono {n m : Nat} {d : Dv} (h : Lf n d) (hm : n ≤ m) : Lf m d := by
  obtain ⟨a, s, c, e, h1, h2, h3, h4⟩ := h
  exact ⟨a, s, c, e, h1, h2, h3, by omega⟩
def fs__law_word : Fs := fun ds P => ∃ (n : Nat) (l : Dv), ds = [l] ∧ Lf n l ∧ n < 2 ^ 50 ∧ ∀ (x : Str) (l' : Dv), wordS x = true → Lf (n + 18) l' → P (.str x) .fresh [l']
theorem sc__law_word : FnScope ["_law_left_here", "_law_word_here", "_law_k"] ["_law_left_here"] (defScope s__law_word) := ⟨rfl, rfl, rfl, by decide +kernel, rfl, by decide +kernel, by decide +kernel⟩
theorem ok__law_word (T : Txt K mg) {fd : FuncData} (F : FunD K "_law_word" "_law_word" (defArgs s__law_word) (defBody s__law_word) (defScope s__law_word) [] [] (He.ga K "_law_word") fd) : FnOk P w K mg base CX0 3 (He.ga K "_law_word") fd ["_law_left_here"] (spD K [true] fs__law_word) := by
  have sc := sc__law_word
  refine fn_spE F sc rfl (by decide) fun cdv A outer s H E hr => ?_
  have hu : A.units + 3 + 1 < cLine := hu_of hr
  have hu64 : A.units + 3 + 64 < cLine := hr.units
  have hu65 : A.units + 3 + 65 < cLine := by have := hr.un; show A.units + 3 + 65 < cLine; have h2 : (A.deeper (envOfC "_law_word" (defScope s__law_word) s.heap.objs.size (He.ga K "_law_word") cdv)).units = A.units + 3 := rfl; omega
  refine ⟨_, (pss_cons (ps_if (pt_cmpR (op_eqD hu64) (Fd.pe_c (cal__law_pick T) hr (by decide) (by rfl) (pa_cons (pv 0) (pa_cons pe_int pa_nil))) pe_int (nomark _)) (pss_one (ps_ret (Fd.pe_c (cal__law_one_of T) hr (by decide) (by rfl) (pa_cons (pv 0) (pa_cons (pe_lst (pa_cons pe_str (pa_cons pe_str (pa_cons pe_str (pa_cons pe_str (pa_cons pe_str (pa_cons pe_str pa_nil))))))) pa_nil))))) pss_nil)
      (pss_cons (ps_set (i := 1) sc.nd rfl (Or.inl rfl) pe_str)
      (pss_cons (ps_for PassesOwn.never rfl (pi_range1 (by rfl) T.n_range (pa_cons (pe_op op_addA pe_int (Fd.pe_c (cal__law_pick T) hr (by decide) (by rfl) (pa_cons (pv 0) (pa_cons pe_int pa_nil)))) pa_nil)) (pg_name (i := 2) sc.nd rfl (Or.inl rfl)) (pss_one (ps_set (i := 1) sc.nd rfl (Or.inl rfl) (pe_op op_addA (pv 1) (Fd.pe_c (cal__law_one_of T) hr (by decide) (by rfl) (pa_cons (pv 0) (pa_cons pe_str pa_nil)))))))
      (pss_one (ps_ret (pv 1)))))), fun B ds R hB hl h => ?_⟩
  dsimp only [cxOf, Cx.nox]
  obtain ⟨n, l, rfl, hl, hn, hP⟩ := h
  walk_at "go"
  refine ⟨n, l, 4, rfl, hl, by omega, by decide, by decide, fun r l1 hr hl1 => ?_⟩
  walk_at "go"
  refine iteB (fun c1 => ?_) fun c1 => ?_
  · walk_at "go"
    refine ⟨n + 1, l1, _, _, rfl, hl1, by omega, rfl, by decide, by decide, fun x l2 hx hl2 => ?_⟩
    have hw : ∃ y, x = .str y ∧ wordS y = true := by
      simp only [List.mem_cons, List.not_mem_nil, or_false] at hx
      rcases hx with rfl | rfl | rfl | rfl | rfl | rfl <;> exact ⟨_, rfl, by decide +kernel⟩
    obtain ⟨y, rfl, hy⟩ := hw
    walk_at "go"
    exact hP y l2 hy (lf_mono hl2 (by omega))
  · walk_at "go"
    refine dts_for ?_
    walk_at "go"
    refine ⟨n + 1, l1, 8, rfl, hl1, by omega, by decide, by decide, fun r2 l2 hr2 hl2 => ?_⟩
    walk_at "go"
    refine ⟨_, _, rfl, by omega, fun k env => ∃ (w : Str) (l' : Dv) (s2 : Sl), env = [.pi l', .co (.str w), s2] ∧ s2.free = true ∧ Lf (n + 2 + k) l' ∧ w.length = k ∧ w.cps.toList.all lowC = true ∧ k ≤ 8, nv_of rfl, ?_, ?_, ?_⟩
    · walk_at "env"
      exact ⟨"", l2, .no, rfl, rfl, hl2, rfl, rfl, by decide⟩
    · rintro k x env2 hx ⟨w, l3, s2, rfl, hs2, hl3, hw1, hw2, hk⟩
      obtain ⟨hk1, rfl⟩ := rangeD_get hx
      refine ⟨[2], _, dg_name rfl hs2, ?_⟩
      walk_at "env"
      walk_at "go"
      refine ⟨n + 2 + k, l3, _, _, rfl, hl3, by omega, things_str (by decide +kernel), by decide +kernel, by decide +kernel, fun x l4 hx hl4 => ?_⟩
      obtain ⟨c, rfl, hc⟩ := abc_sign hx
      have hz : w.length + (⟨#[c]⟩ : Str).length ≤ sizeLine := sz (by rw [hw1]; show k + 1 ≤ _; omega)
      walk_at "go"
      refine ⟨lf_mono hl4 (by omega), ?_, str_add_all hw2 ?_, by omega⟩
      · rw [str_add_len, hw1]; rfl
      · show (lowC c && true) = true
        rw [hc]; rfl
    · rintro env2 ⟨w, l3, s2, rfl, hs2, hl3, hw1, hw2, hk⟩
      walk_at "go"
      rw [rangeD_len] at hw1 hl3
      exact hP w l3 (wordS_of (by omega) (by omega) hw2) (lf_mono hl3 (by omega))
theorem cal__law_word (T : Txt K mg) : Fd.Cal P w K mg base 3 "_law_word" (spD K [true] fs__law_word) := by
  obtain ⟨fd, F⟩ := T.f__law_word
  exact ⟨_, fd, ["_law_left_here"], ok__law_word T F, T.g__law_word, F.kp, F.bindsN fun _ _ _ _ _ _ us hl => match us, hl with | [_], _ => rfl⟩
def fs__law_stamp : Fs := fun ds P => ∃ (n : Nat) (l : Dv), ds = [l] ∧ Lf n l ∧ n < 2 ^ 40 ∧ ∀ (i : Nat) (x : Str) (l' : Dv), 1 ≤ i → i < 2 ^ 110 → wordS x = true → Lf (n + 20) l' → P (.tup [.int i, .str x]) .fresh [l']
theorem sc__law_stamp : FnScope ["_law_left_here", "_law_most"] ["_law_left_here"] (defScope s__law_stamp) := ⟨rfl, rfl, rfl, by decide +kernel, rfl, by decide +kernel, by decide +kernel⟩
theorem ok__law_stamp (T : Txt K mg) {fd : FuncData} (F : FunD K "_law_stamp" "_law_stamp" (defArgs s__law_stamp) (defBody s__law_stamp) (defScope s__law_stamp) [] [] (He.ga K "_law_stamp") fd) : FnOk P w K mg base CX0 4 (He.ga K "_law_stamp") fd ["_law_left_here"] (spD K [true] fs__law_stamp) := by
  have sc := sc__law_stamp
  refine fn_spE F sc rfl (by decide) fun cdv A outer s H E hr => ?_
  have hu : A.units + 3 + 1 < cLine := hu_of hr
  have hu64 : A.units + 3 + 64 < cLine := hr.units
  have hu65 : A.units + 3 + 65 < cLine := by have := hr.un; show A.units + 3 + 65 < cLine; have h2 : (A.deeper (envOfC "_law_stamp" (defScope s__law_stamp) s.heap.objs.size (He.ga K "_law_stamp") cdv)).units = A.units + 3 := rfl; omega
  refine ⟨_, (pss_cons (ps_set (i := 1) sc.nd rfl (Or.inl rfl) (pe_ix ix_seq (pe_lst (pa_cons pe_int (pa_cons pe_int (pa_cons (pe_op op_sub (pe_op op_pow pe_int pe_int) pe_int) pa_nil)))) (Fd.pe_c (cal__law_pick T) hr (by decide) (by rfl) (pa_cons (pv 0) (pa_cons pe_int pa_nil))) (fun _ _ => rfl)))
      (pss_one (ps_ret (pe_tup (pa_cons (pe_op op_addA pe_int (Fd.pe_c (cal__law_pick T) hr (by decide) (by rfl) (pa_cons (pv 0) (pa_cons (pv 1) pa_nil)))) (pa_cons (Fd.pe_c (cal__law_word T) hr (by decide) (by rfl) (pa_cons (pv 0) pa_nil)) pa_nil)))))), fun B ds R hB hl h => ?_⟩
  dsimp only [cxOf, Cx.nox]
  obtain ⟨n, l, rfl, hl, hn, hP⟩ := h
  walk_at "go"
  refine ⟨n, l, 3, rfl, hl, by omega, by decide, by decide, fun r l1 hr hl1 => ?_⟩
  have hr3 : r = 0 ∨ r = 1 ∨ r = 2 := by omega
  obtain ⟨m, hm, m0, m1⟩ : ∃ m : Int, ixD (.lst [.int 3, .int 20, .int (10 ^ Int.toNat 30 - 1)]) (.int r) = some (.int m) ∧ 0 < m ∧ m < 2 ^ 100 := by
    rcases hr3 with rfl | rfl | rfl
    · exact ⟨_, rfl, by decide, by decide⟩
    · exact ⟨_, rfl, by decide, by decide⟩
    · exact ⟨_, rfl, by decide +kernel, by decide +kernel⟩
  walk_at "go"
  refine ⟨_, hm, ?_⟩
  walk_at "go"
  refine ⟨n + 1, l1, m, rfl, hl1, by omega, m0, by omega, fun r2 l2 hr2 hl2 => ?_⟩
  walk_at "go"
  refine ⟨n + 2, l2, rfl, hl2, by omega, fun w l3 hw hl3 => ?_⟩
  walk_at "go"
  rw [show (1 : Int) + (r2 : Int) = ((1 + r2 : Nat) : Int) by omega]
  exact hP (1 + r2) w l3 (by omega) (by omega) hw (lf_mono hl3 (by omega))
theorem cal__law_stamp (T : Txt K mg) : Fd.Cal P w K mg base 4 "_law_stamp" (spD K [true] fs__law_stamp) := by
  obtain ⟨fd, F⟩ := T.f__law_stamp
  exact ⟨_, fd, ["_law_left_here"], ok__law_stamp T F, T.g__law_stamp, F.kp, F.bindsN fun _ _ _ _ _ _ us hl => match us, hl with | [_], _ => rfl⟩
def fs_law : Fs := fun ds P => ∃ ns : List Int, ds = [.frl ns] ∧ ns.length ≤ 63 ∧ P (.bl true) .fresh ds
theorem sc_law : FnScope ["_law_script", "_law_k", "_law_left_here", "_law_n", "_law_house", "_law_odd", "_law_thing"] ["_law_script"] (defScope s_law) := ⟨rfl, rfl, rfl, by decide +kernel, rfl, by decide +kernel, by decide +kernel⟩
section
local macro_rules | `(tactic| walk_at "fdhot") => `(tactic| first | ((with_reducible show DTS _ _ (tAsg _ (gName 2)) _ _); refine dts_setH ?_))
theorem ok_law (T : Txt K mg) {fd : FuncData} (F : FunD K "law" "law" (defArgs s_law) (defBody s_law) (defScope s_law) [] [] (He.ga K "law") fd) : FnOk P w K mg base CX0 5 (He.ga K "law") fd ["_law_script"] (spD K [false] fs_law) := by
  have sc := sc_law
  refine fn_spE F sc rfl (by decide) fun cdv A outer s H E hr => ?_
  have hu : A.units + 3 + 1 < cLine := hu_of hr
  have hu64 : A.units + 3 + 64 < cLine := hr.units
  have hu65 : A.units + 3 + 65 < cLine := by have := hr.un; show A.units + 3 + 65 < cLine; have h2 : (A.deeper (envOfC "law" (defScope s_law) s.heap.objs.size (He.ga K "law") cdv)).units = A.units + 3 := rfl; omega
  refine ⟨_, (pss_cons (ps_for PassesOwn.never rfl (pi_range1 (by rfl) T.n_range (pa_cons (pe_callB (call_max2 rfl) (by rfl) T.n_max (by decide +kernel) (pa_cons pe_int (pa_cons (pe_callB (call_min2 rfl) (by rfl) T.n_min (by decide +kernel) (pa_cons pe_int (pa_cons (pe_callB call_len (by rfl) T.n_len (by decide +kernel) (pa_cons (pv 0) pa_nil)) pa_nil))) pa_nil))) pa_nil)) (pg_name (i := 1) sc.nd rfl (Or.inl rfl)) (pss_cons (ps_set (i := 2) sc.nd rfl (Or.inl rfl) (Fd.pe_c (cal__law_left T) hr (by decide) (by rfl) (pa_cons (pv 0) (pa_cons (pv 1) pa_nil))))
      (pss_cons (ps_asg (Fd.pe_c (cal__law_stamp T) hr (by decide) (by rfl) (pa_cons (pv 2) pa_nil)) (pg_tup rfl (pgs_cons (pg_name (i := 3) sc.nd rfl (Or.inl rfl)) (pgs_cons (pg_name (i := 4) sc.nd rfl (Or.inl rfl)) pgs_nil))))
      (pss_cons (ps_if (PW.pt (pw_or (pt_cmpR op_isntA (Fd.pe_c (cal_is_stamp T) hr (by decide) (by rfl) (pa_cons (pe_tup (pa_cons (pv 3) (pa_cons (pv 4) pa_nil))) pa_nil)) pe_bl (nomark _)) (pw_or1 (pt_cmpR op_isntA (Fd.pe_c (cal_is_stamp T) hr (by decide) (by rfl) (pa_cons (pe_tup (pa_cons pe_int (pa_cons (pv 4) pa_nil))) pa_nil)) pe_bl (nomark _))))) (pss_one (ps_ret pe_bl)) pss_nil)
      (pss_cons (ps_set (i := 5) sc.nd rfl (Or.inl rfl) (pe_lst (pa_cons (pe_tup (pa_cons pe_int (pa_cons (pv 4) pa_nil))) (pa_cons (pe_tup (pa_cons (pe_un un_neg (pv 3)) (pa_cons (pv 4) pa_nil))) (pa_cons (pe_tup (pa_cons pe_bl (pa_cons (pv 4) pa_nil))) (pa_cons (pe_tup (pa_cons pe_bl (pa_cons (pv 4) pa_nil))) pa_nil))))))
      (pss_cons (ps_set (i := 5) sc.nd rfl (Or.inl rfl) (pe_op op_addA (pv 5) (pe_lst (pa_cons (pe_tup (pa_cons (pe_callTy call_str_int (by rfl) T.n_str (by decide +kernel) (pa_cons (pv 3) pa_nil)) (pa_cons (pv 4) pa_nil))) (pa_cons (pe_tup (pa_cons pe_non (pa_cons (pv 4) pa_nil))) (pa_cons (pe_tup (pa_cons (pv 3) (pa_cons (pv 3) pa_nil))) pa_nil))))))
      (pss_cons (ps_set (i := 5) sc.nd rfl (Or.inl rfl) (pe_op op_addA (pv 5) (pe_lst (pa_cons (pe_tup (pa_cons (pv 3) (pa_cons pe_str pa_nil))) (pa_cons (pe_tup (pa_cons (pv 3) (pa_cons (pe_op op_addA (pv 4) pe_str) pa_nil))) (pa_cons (pe_tup (pa_cons (pv 3) (pa_cons (pe_op op_addA (pv 4) pe_str) pa_nil))) pa_nil))))))
      (pss_cons (ps_set (i := 5) sc.nd rfl (Or.inl rfl) (pe_op op_addA (pv 5) (pe_lst (pa_cons (pe_tup (pa_cons (pv 3) (pa_cons pe_non pa_nil))) (pa_cons (pe_tup (pa_cons (pv 3) (pa_cons (pe_tup (pa_cons (pv 4) pa_nil)) pa_nil))) (pa_cons (pe_lst (pa_cons (pv 3) (pa_cons (pv 4) pa_nil))) pa_nil))))))
      (pss_cons (ps_set (i := 5) sc.nd rfl (Or.inl rfl) (pe_op op_addA (pv 5) (pe_lst (pa_cons (pe_tup (pa_cons (pv 3) pa_nil)) (pa_cons (pe_tup (pa_cons (pv 3) (pa_cons (pv 4) (pa_cons (pv 4) pa_nil)))) (pa_cons (pe_tup (pa_cons (pv 4) (pa_cons (pv 3) pa_nil))) pa_nil))))))
      (pss_cons (ps_set (i := 5) sc.nd rfl (Or.inl rfl) (pe_op op_addA (pv 5) (pe_lst (pa_cons (pe_tup (pa_cons (pv 3) (pa_cons (pe_lst (pa_cons (pv 4) pa_nil)) pa_nil))) (pa_cons (pe_tup (pa_cons (pe_tup (pa_cons (pv 3) (pa_cons (pv 4) pa_nil))) pa_nil)) (pa_cons (pe_tup (pa_cons (pe_tup (pa_cons (pv 3) pa_nil)) (pa_cons (pv 4) pa_nil))) (pa_cons (pv 4) pa_nil)))))))
      (pss_cons (ps_set (i := 5) sc.nd rfl (Or.inl rfl) (pe_op op_addA (pv 5) (pe_lst (pa_cons (pv 3) pa_nil))))
      (pss_cons (ps_set (i := 5) sc.nd rfl (Or.inl rfl) (pe_op op_addA (pv 5) (pe_lst (pa_cons pe_non (pa_cons pe_bl (pa_cons pe_str (pa_cons (pe_tup pa_nil) (pa_cons (pe_lst pa_nil) (pa_cons pe_dnewK (pa_cons (pe_disp (pps_cons (pv 3) (pv 4) pps_nil) (by rfl) (by rfl) (fun z => by cases z) (by decide)) (pa_cons (pe_tup (pa_cons (pv 3) (pa_cons (pe_upper (pv 4)) pa_nil))) pa_nil)))))))))))
      (pss_cons (ps_set (i := 5) sc.nd rfl (Or.inl rfl) (pe_op op_addA (pv 5) (pe_lst (pa_cons (pe_tup (pa_cons (pv 3) (pa_cons (pe_op op_addA pe_str (pv 4)) pa_nil))) (pa_cons (pe_tup (pa_cons (pv 3) (pa_cons pe_bl pa_nil))) pa_nil)))))
      (pss_one (ps_if (pt_val (pe_callB (cr_any rfl) (by rfl) T.n_any (by decide +kernel) (pa_cons (pe_lc rfl sc.nd (pi_list (pv 5)) (blkOk_by (own := [("_law_thing", 6)]) (N := ["_law_script", "_law_k", "_law_left_here", "_law_n", "_law_house", "_law_odd", "_law_thing"]) (sc := defScope s_law) (by decide +kernel)) (fun _ _ _ _ _ => (pg_name (i := 6) sc.nd rfl (Or.inl rfl))) (fun _ _ _ _ _ => pts_nil) (fun _ _ _ _ _ => (pe_cmpR op_isntA (Fd.pe_c (cal_is_stamp T) hr (by decide) (by rfl) (pa_cons (pv 6) pa_nil)) pe_bl (nomark _)))) pa_nil))) (pss_one (ps_ret pe_bl)) pss_nil)))))))))))))))
      (pss_one (ps_ret (pe_cmpR op_isA (Fd.pe_c (cal_is_stamp T) hr (by decide) (by rfl) (pa_cons (pe_tup (pa_cons pe_int (pa_cons pe_str pa_nil))) pa_nil)) pe_bl (nomark _))))), fun B ds R hB hl h => ?_⟩
  dsimp only [cxOf, Cx.nox]
  obtain ⟨ns, rfl, hl, hP⟩ := h
  walk_at "go"
  refine dts_for ?_
  walk_at "go"
  refine ⟨_, _, rfl, by split <;> split <;> omega, fun k env => ∃ s1 s2 s3 s4 s5, env = [.co (.frl ns), s1, s2, s3, s4, s5, .no] ∧ s1.free = true ∧ s2.free = true ∧ s3.free = true ∧ s4.free = true ∧ s5.free = true, nv_of rfl, ⟨_, _, _, _, _, rfl, rfl, rfl, rfl, rfl, rfl⟩, ?_, ?_⟩
  · rintro k x env2 hx ⟨s1, s2, s3, s4, s5, rfl, f1, f2, f3, f4, f5⟩
    obtain ⟨hk1, rfl⟩ := rangeD_get hx
    refine ⟨[1], _, dg_name rfl f1, ?_⟩
    walk_at "env"
    rw [show (0 : Int) + (k : Int) = (k : Int) by omega]
    walk_at "go"
    refine ⟨ns, k, rfl, hl, Nat.lt_of_lt_of_le hk1 ?_, fun l hLf => ?_⟩
    · split <;> split <;> omega
    walk_at "go"
    refine ⟨0, l, rfl, hLf, by decide, fun i x l' h1 h2 hx hl' => ?_⟩
    walk_at "go"
    have hx8 := wordS_le hx
    refine ⟨_, rfl, plS_two plW_int (plW_str (by omega)), ?_⟩
    rw [stampB_two (by omega)]
    walk_at "go"
    rw [show wordB (.str x) = true from hx]
    walk_at "go"
    refine ⟨_, rfl, plS_two plW_int (plW_str (by omega)), ?_⟩
    rw [stampB_two (by omega)]
    walk_at "go"
    rw [show wordB (.str x) = true from hx]
    walk_at "go"
    have k4 : (Str.ofString "A").length = 1 := by decide +kernel
    have k5 : (Str.ofString " ").length = 1 := by decide +kernel
    have k6 : (Str.ofString "zzzzzzzz").length = 8 := by decide +kernel
    have k7 := PyProof.Rows.len_upper x
    have k8 : x.length ≤ 5592405 := by omega
    refine ⟨_, _, _, rfl, strIntD_ok (log2_lt (by omega)), ?_⟩
    walk_at "go"
    refine ⟨k8, ?_⟩
    walk_at "go"
    refine dt_lcB false ?_
    walk_at "ini"
    refine di_list (dt_var rfl ⟨_, rfl, rfl, Nat.le_of_ble_eq_true rfl, fun z => (nomatch z), fun d hd => ?_, ?_⟩)
    · have hd2 : plS d ∧ stampB d = false := by
        revert d
        simp only [List.forall_mem_cons]
        repeat' (with_reducible apply And.intro)
        all_goals first
          | exact ⟨rfl, plW_str (by omega)⟩
          | exact ⟨rfl, plW_str (by simp only [str_add_len]; omega)⟩
          | exact ⟨rfl, plW_str (by decide +kernel)⟩
          | exact ⟨rfl, rfl, fun y h => (nomatch h)⟩
          | exact True.intro
          | rfl
          | exact stampB_low (by omega)
          | exact (stampB_two (by omega)).trans rfl
          | exact (stampB_two (by omega)).trans (wordS_long (by rw [str_add_len]; omega))
          | exact (stampB_two (by omega)).trans (wordS_badR (by decide +kernel))
          | exact (stampB_two (by omega)).trans (wordS_badL (by decide +kernel))
          | exact (stampB_two (by omega)).trans (wordS_upper hx)
          | exact (stampB_two (by omega)).trans (by decide +kernel)
          | exact fun d hd => (nomatch hd)
      walk_at "go"
      refine ⟨d, rfl, hd2.1, ?_⟩
      rw [hd2.2]
      walk_at "go"
      exact ⟨rfl, rfl⟩
    · walk_at "go"
      walk_at "env"
      exact ⟨_, _, _, _, _, rfl, rfl, rfl, rfl, rfl, rfl⟩
  · rintro env2 ⟨s1, s2, s3, s4, s5, rfl, f1, f2, f3, f4, f5⟩
    walk_at "go"
    refine ⟨_, rfl, plS_two plW_int (plW_str (by decide +kernel)), ?_⟩
    walk_at "go"
    rw [show stampB (.tup [.int 1, .str "a"]) = true by decide +kernel]
    exact hP
end
theorem cal_law (T : Txt K mg) : Fd.Cal P w K mg base 5 "law" (spD K [false] fs_law) := by
  obtain ⟨fd, F⟩ := T.f_law
  exact ⟨_, fd, ["_law_script"], ok_law T F, T.g_law, F.kp, F.bindsN fun _ _ _ _ _ _ us hl => match us, hl with | [_], _ => rfl⟩
end
def d_is_whole : He.DefD := ⟨("is_whole", none), "is_whole", "is_whole", defArgs s_is_whole, defBody s_is_whole, defScope s_is_whole, [], []⟩
def d_is_word : He.DefD := ⟨("is_word", none), "is_word", "is_word", defArgs s_is_word, defBody s_is_word, defScope s_is_word, [], []⟩
def d_is_stamp : He.DefD := ⟨("is_stamp", none), "is_stamp", "is_stamp", defArgs s_is_stamp, defBody s_is_stamp, defScope s_is_stamp, [], []⟩
def d__law_cell_at : He.DefD := ⟨("_law_cell_at", none), "_law_cell_at", "_law_cell_at", defArgs s__law_cell_at, defBody s__law_cell_at, defScope s__law_cell_at, [], []⟩
def d__law_left : He.DefD := ⟨("_law_left", none), "_law_left", "_law_left", defArgs s__law_left, defBody s__law_left, defScope s__law_left, [], []⟩
def d__law_pick : He.DefD := ⟨("_law_pick", none), "_law_pick", "_law_pick", defArgs s__law_pick, defBody s__law_pick, defScope s__law_pick, [], []⟩
def d__law_one_of : He.DefD := ⟨("_law_one_of", none), "_law_one_of", "_law_one_of", defArgs s__law_one_of, defBody s__law_one_of, defScope s__law_one_of, [], []⟩
def d__law_word : He.DefD := ⟨("_law_word", none), "_law_word", "_law_word", defArgs s__law_word, defBody s__law_word, defScope s__law_word, [], []⟩
def d__law_stamp : He.DefD := ⟨("_law_stamp", none), "_law_stamp", "_law_stamp", defArgs s__law_stamp, defBody s__law_stamp, defScope s__law_stamp, [], []⟩
def d_law : He.DefD := ⟨("law", none), "law", "law", defArgs s_law, defBody s_law, defScope s_law, [], []⟩
def fnL : List He.DefD := [d_is_whole, d_is_word, d_is_stamp, d__law_cell_at, d__law_left, d__law_pick, d__law_one_of, d__law_word, d__law_stamp, d_law]
def faL : List He.Fa := [.glo "is_whole", .glo "is_word", .glo "is_stamp", .glo "_law_cell_at", .glo "_law_left", .glo "_law_pick", .glo "_law_one_of", .glo "_law_word", .glo "_law_stamp", .glo "law", .free "all", .free "any", .free "bool", .free "int", .free "isinstance", .free "len", .free "max", .free "min", .free "range", .free "str", .free "tuple", .str "LETTERS" "abcdefghijklmnopqrstuvwxyz", .int "MOST_SIGNS" 8]
abbrev R : PySem.W.OpenRow := PySem.W.OpenLaw.row PySem.Challenge.rw_farcopies_k02_stamps_or_not
abbrev hk : PySem.W.Hook := He.hookD 4 faL fnL
def ob (s : PySem.W.SharedT) : He.AlD := He.obsDG 4 faL fnL (HandSHeadRun.getT s)
theorem ob_eq (s : PySem.W.SharedT) : ob s = hk.obs s.abs := He.obsDG_eq (HandSHeadRun.getT_eq s)
theorem run (w : World) : HandSHeadRun.RunEq R (PySem.W.view R.prog [13]) hk ob 4000 ["LETTERS", "MOST_SIGNS", "is_whole", "is_word", "is_stamp", "_law_cell_at", "_law_left", "_law_pick", "_law_one_of", "_law_word", "_law_stamp"] w := by
  intro os
  kernel_rfl
theorem txt_of {K : PySem.W.Frag} {h : Heap} {mg : Str → Option Value} (X : K.In h) (G : h.Ns mainGlobals mg) (c : He.SaysD faL fnL K) : Txt K mg where
  f_is_whole := c.def_ 0 (d := d_is_whole) rfl
  g_is_whole := He.glo_ok X G (c.fact 0 (f := .glo "is_whole") rfl)
  f_is_word := c.def_ 1 (d := d_is_word) rfl
  g_is_word := He.glo_ok X G (c.fact 1 (f := .glo "is_word") rfl)
  f_is_stamp := c.def_ 2 (d := d_is_stamp) rfl
  g_is_stamp := He.glo_ok X G (c.fact 2 (f := .glo "is_stamp") rfl)
  f__law_cell_at := c.def_ 3 (d := d__law_cell_at) rfl
  g__law_cell_at := He.glo_ok X G (c.fact 3 (f := .glo "_law_cell_at") rfl)
  f__law_left := c.def_ 4 (d := d__law_left) rfl
  g__law_left := He.glo_ok X G (c.fact 4 (f := .glo "_law_left") rfl)
  f__law_pick := c.def_ 5 (d := d__law_pick) rfl
  g__law_pick := He.glo_ok X G (c.fact 5 (f := .glo "_law_pick") rfl)
  f__law_one_of := c.def_ 6 (d := d__law_one_of) rfl
  g__law_one_of := He.glo_ok X G (c.fact 6 (f := .glo "_law_one_of") rfl)
  f__law_word := c.def_ 7 (d := d__law_word) rfl
  g__law_word := He.glo_ok X G (c.fact 7 (f := .glo "_law_word") rfl)
  f__law_stamp := c.def_ 8 (d := d__law_stamp) rfl
  g__law_stamp := He.glo_ok X G (c.fact 8 (f := .glo "_law_stamp") rfl)
  f_law := c.def_ 9 (d := d_law) rfl
  g_law := He.glo_ok X G (c.fact 9 (f := .glo "law") rfl)
  n_all := He.free_ok X G (c.fact 10 (f := .free "all") rfl)
  n_any := He.free_ok X G (c.fact 11 (f := .free "any") rfl)
  n_bool := He.free_ok X G (c.fact 12 (f := .free "bool") rfl)
  n_int := He.free_ok X G (c.fact 13 (f := .free "int") rfl)
  n_isinstance := He.free_ok X G (c.fact 14 (f := .free "isinstance") rfl)
  n_len := He.free_ok X G (c.fact 15 (f := .free "len") rfl)
  n_max := He.free_ok X G (c.fact 16 (f := .free "max") rfl)
  n_min := He.free_ok X G (c.fact 17 (f := .free "min") rfl)
  n_range := He.free_ok X G (c.fact 18 (f := .free "range") rfl)
  n_str := He.free_ok X G (c.fact 19 (f := .free "str") rfl)
  n_tuple := He.free_ok X G (c.fact 20 (f := .free "tuple") rfl)
  k_LETTERS := by
    obtain ⟨t, e⟩ := He.str_ok X G (c.fact 21 (f := .str "LETTERS" "abcdefghijklmnopqrstuvwxyz") rfl)
    exact ⟨_, e, ⟨t, rfl⟩⟩
  k_MOST_SIGNS := by
    obtain ⟨t, e⟩ := He.int_ok X G (c.fact 22 (f := .int "MOST_SIGNS" 8) rfl)
    exact ⟨_, e, ⟨t, rfl⟩⟩
end Lw
open PySem PySem.W PySem.Calls PyProof.Rows
theorem PySem.Challenge.cw_farcopies_k02_stamps_or_not_holds : PySem.Challenge.rw_farcopies_k02_stamps_or_not.Holds := by
  w_on; o_law
  refine HandSHeadRun.head_any (r := OpenLaw.row PySem.Challenge.rw_farcopies_k02_stamps_or_not) (q := view (OpenLaw.row PySem.Challenge.rw_farcopies_k02_stamps_or_not).prog [13]) (H := Lw.hk) (ob := Lw.ob) (M := 4000) (loose := ["LETTERS", "MOST_SIGNS", "is_whole", "is_word", "is_stamp", "_law_cell_at", "_law_left", "_law_pick", "_law_one_of", "_law_word", "_law_stamp"]) (d := HandSHeadRun.topDef (OpenLaw.row PySem.Challenge.rw_farcopies_k02_stamps_or_not).prog 13) (kwd := []) Lw.ob_eq
    (by kernel_rfl) (fun s => by kernel_rfl) Lw.run (by kernel_rfl) (by kernel_rfl) (by kernel_rfl) (by rfl) (by first | assumption | decide +kernel) (by decide +kernel) ⟨rfl, rfl, rfl, rfl, rfl, by decide +kernel⟩ ?hw ?hc
  case hw => w_witness2
  case hc =>
    refine L2.walk_ofE (l := PySem.Challenge.rw_farcopies_k02_stamps_or_not) (n := 63) (k := 5) (x := "_law_script") (CX := L2.CX0) rfl (by decide) (by kernel_rfl) ⟨rfl, by decide, by decide⟩ ?F (fun _ _ _ _ z => z)
    intro w mg fa h Y G hmg0
    obtain ⟨K, KX, c⟩ := Y
    have hmg : mg ("law" : PySem.Str) = some (.ref fa) := by
      have e : (HandSHeadRun.topDef (OpenLaw.row PySem.Challenge.rw_farcopies_k02_stamps_or_not).prog 13).name = ("law" : PySem.Str) := by kernel_rfl
      rw [← e]
      exact hmg0
    have T := Lw.txt_of KX G c
    have e := hmg.symm.trans T.g_law
    cases e
    obtain ⟨fd, F⟩ := T.f_law
    have b := L2.FunD.bindsA (ps := ["_law_script"]) F fun _ _ _ _ _ _ us hl => match us, hl with | [_], _ => rfl
    exact ⟨K, fd, Fd.spD K [false] Lw.fs_law, KX, fun s u => b s [u] rfl, fun H a ns hl hO hS => Fd.law_sp hO hS ⟨ns, rfl, hl, rfl⟩, fun base _ _ => Lw.ok_law T F⟩
