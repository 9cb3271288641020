import PyProof.Rows.All
import Wide.All
import OpenK.AllK
import Wide.FinOn
import HandS.ForMost
import HandS.IsInst
import HandS.HeadHook1
import HandS.Wide
import HandS.TupAny
import HandS.TupLe
import HandS.Deep
import HandS.NoneIn
import HandS.Defaults
import HandS.HeadHook2
import HandS.HeadEnd
import HandS.Head2
import HandS.Text
import PySem.Unicode
import HandS.Iter
import HandS.Zip
import HandS.More
import HandS.Dict
import PyProof.DictUpdate
import HandS.DeepEq
import KE.KEqDict
import HandS.ListEq
import HandS.Style
import HandS.Head3
import HandS.HeadHook4
import HandS.DictEq
import KE.SortData
import HandS.SortInts
import HandS.DictTup
import PyProof.Transfer
import KE.DataMinMax
import HandS.Finally
import KE.KDictPairs
import KE.KDictCopyH
import PyProof.FString5
import HandS.SortKw
import HandS.RaiseMore
import HandS.HeadHook3
import PySem.Challenge.RW_farcopies_k17_what_is_asked
set_option Elab.async false
set_option linter.all false
set_option maxRecDepth 100000
set_option maxHeartbeats 4000000
/-! Deep data over the hand layer: values as trees, what is owned and may change, what is only read. -/
namespace Fd
open PySem PySem.Spec PyProof.Rows L2

/-- a value with all that hangs on it -/
inductive Dv where
  | non | bl (b : Bool) | int (i : Int) | str (x : Str)
  | tup (xs : List Dv) | lst (xs : List Dv) | frl (ns : List Int)
  | dct (kvs : List (Key × Dv))
  | dctT (kvs : List (List Key × Dv))
  | obj (C : Str) (fs : List (Str × Dv))
mutual
/-- nothing of it may change -/
def Dv.pur : Dv → Bool
  | .non => true | .bl _ => true | .int _ => true | .str _ => true | .frl _ => true
  | .tup xs => Dv.purs xs
  | .lst _ => false | .dct _ => false | .dctT _ => false | .obj _ _ => false
def Dv.purs : List Dv → Bool
  | [] => true
  | d :: ds => d.pur && Dv.purs ds
end
theorem purs_all : ∀ ds : List Dv, Dv.purs ds = ds.all Dv.pur
  | [] => rfl
  | d :: ds => by rw [List.all_cons, ← purs_all ds]; rfl
/-- but for itself nothing of it may change -/
def Dv.sh : Dv → Bool
  | .lst xs => Dv.purs xs
  | .dct kvs => Dv.purs (kvs.map (·.2))
  | .dctT kvs => Dv.purs (kvs.map (·.2))
  | .obj _ fs => Dv.purs (fs.map (·.2))
  | d => d.pur
/-- a key as a value -/
def kD : Key → Dv
  | .inl i => .int i
  | .inr x => .str x
/-- a list that nobody changes -/
def SqF (K : PySem.W.Frag) (H : Hp) (a : Addr) (xs : List V) : Prop :=
  (∃ o, H a = some (.frz o (.lst xs))) ∨
    ∃ (o : Obj) (its : Array Value) (n : Nat), K.lookup a = some o ∧ o.cls = .type "list" ∧ o.dict = none ∧ o.data = .seq its n ∧ its.size ≤ sizeLine ∧ Vals xs its.toList
theorem SqF.sq {K : PySem.W.Frag} {H : Hp} {a : Addr} {xs : List V} (h : SqF K H a xs) : SqL K H a xs := by
  rcases h with ⟨o, h⟩ | h
  · exact .inl (.inr ⟨o, h⟩)
  · exact .inr h

/- a tuple as it stands; a written one is of texts; PlT: a tuple of things with addresses, its object known, without an instance dict -/
def PlT (H : Hp) (a : Addr) (xs : List V) : Prop := ∃ o, H a = some (.frz o (.tup xs)) ∧ o.dict = none ∧ ∃ ps : List Addr, xs = ps.map V.ref
def TqT (K : PySem.W.Frag) (H : Hp) (a : Addr) (xs : List V) : Prop := H a = some (.tup xs) ∨ (SqT K H a xs ∧ ((∃ ss : List Str, xs = ss.map V.str) ∨ PlT H a xs))
theorem PlT.tq {K : PySem.W.Frag} {H : Hp} {a : Addr} {xs : List V} (h : PlT H a xs) : TqT K H a xs := .inr ⟨.inl (.inr (let ⟨o, e, _⟩ := h; ⟨o, e⟩)), .inr h⟩
theorem TqT.sq {K : PySem.W.Frag} {H : Hp} {a : Addr} {xs : List V} (h : TqT K H a xs) : SqT K H a xs := h.elim SqT.of fun h => h.1
mutual
inductive Rep (K : PySem.W.Frag) (H : Hp) : V → Dv → List Addr → Prop
  | non : Rep K H .non .non []
  | bl (b : Bool) : Rep K H (.bl b) (.bl b) []
  | int (i : Int) : Rep K H (.int i) (.int i) []
  | str (x : Str) : Rep K H (.str x) (.str x) []
  | tup {a : Addr} {xs : List V} {ds : List Dv} {G : List Addr} : TqT K H a xs → Reps K H xs ds G → Rep K H (.ref a) (.tup ds) G
  | lst {a : Addr} {xs : List V} {ds : List Dv} {G : List Addr} : H a = some (.lst xs) → Reps K H xs ds G → Rep K H (.ref a) (.lst ds) (a :: G)
  | frl {a : Addr} {ns : List Int} : SqF K H a (ns.map V.int) → Rep K H (.ref a) (.frl ns) []
  | dct {a : Addr} {kvs : List (Key × V)} {des : List (Key × Dv)} {G : List Addr} : Rd H a (.dK kvs) → des.map (·.1) = kvs.map (·.1) → Reps K H (kvs.map (·.2)) (des.map (·.2)) G → Rep K H (.ref a) (.dct des) (a :: G)
  | dctT {a : Addr} {kvs : List (List Key × V)} {des : List (List Key × Dv)} {G : List Addr} : Rd H a (.dT kvs) → des.map (·.1) = kvs.map (·.1) → Reps K H (kvs.map (·.2)) (des.map (·.2)) G → Rep K H (.ref a) (.dctT des) (a :: G)
  | obj {a dx : Addr} {C : Str} {fs : List (Str × V)} {es : List (Str × Dv)} {G : List Addr} : H a = some (.ins (He.ga K C) dx fs) → es.map (·.1) = fs.map (·.1) → Reps K H (fs.map (·.2)) (es.map (·.2)) G → Rep K H (.ref a) (.obj C es) (a :: G)
inductive Reps (K : PySem.W.Frag) (H : Hp) : List V → List Dv → List Addr → Prop
  | nil : Reps K H [] [] []
  | cons {v : V} {d : Dv} {G : List Addr} {vs : List V} {ds : List Dv} {G' : List Addr} : Rep K H v d G → Reps K H vs ds G' → Reps K H (v :: vs) (d :: ds) (G ++ G')
end

/-- may change -/
def Mu : HO → Prop
  | .lst _ => True
  | .dK _ => True
  | .dT _ => True
  | .ins _ _ _ => True
  | _ => False
/-- only what may change at M has changed, and there is more -/
structure Stp (M : Addr → Prop) (H H' : Hp) : Prop where
  keep : ∀ a o, H a = some o → (Mu o → ¬ M a) → H' a = some o
  al : ∀ a, H' a = none → H a = none
theorem Stp.refl {M : Addr → Prop} {H : Hp} : Stp M H H := ⟨fun _ _ h _ => h, fun _ h => h⟩
theorem Stp.trans {M M1 : Addr → Prop} {H H1 H2 : Hp} (a : Stp M H H1) (b : Stp M1 H1 H2) (c : ∀ x, M1 x → M x ∨ H x = none) : Stp M H H2 :=
  ⟨fun x o h n => b.keep x o (a.keep x o h n) fun m z => (by
    rcases c x z with q | q
    · exact n m q
    · rw [q] at h; cases h), fun x h => a.al x (b.al x h)⟩
theorem Stp.same {M : Addr → Prop} {H H' : Hp} (h : Same H H') : Stp M H H' := ⟨fun a o e _ => h a o e, fun _ e => h.free e⟩
theorem Stp.to_same {M : Addr → Prop} {H H' : Hp} (h : Stp M H H') (n : ∀ a, ¬ M a) : Same H H' := fun a o e => h.keep a o e fun _ => n a
theorem Stp.mono {M M' : Addr → Prop} {H H' : Hp} (h : Stp M H H') (n : ∀ a, M a → M' a) : Stp M' H H' := ⟨fun a o e k => h.keep a o e fun m z => k m (n a z), h.al⟩
theorem same_new {H : Hp} {p : Addr} {o : HO} (h : H p = none) : Same H (upd H p o) := fun a u e => by
  rw [upd_ne (ne_of_none e h)]; exact e

section
variable {K : PySem.W.Frag} {H H' : Hp} {M : Addr → Prop}
theorem sqT_step {a : Addr} {xs : List V} (h : SqT K H a xs) (s : Stp M H H') : SqT K H' a xs := by
  rcases h with (h | ⟨o, h⟩) | h
  · exact .inl (.inl (s.keep _ _ h fun m => m.elim))
  · exact .inl (.inr ⟨o, s.keep _ _ h fun m => m.elim⟩)
  · exact .inr h
theorem tqT_step {a : Addr} {xs : List V} (h : TqT K H a xs) (s : Stp M H H') : TqT K H' a xs := by
  rcases h with h | ⟨h, e⟩
  · exact .inl (s.keep _ _ h fun m => m.elim)
  · refine .inr ⟨sqT_step h s, e.imp id fun ⟨o, h1, h2⟩ => ⟨o, s.keep _ _ h1 fun m => m.elim, h2⟩⟩
theorem rd_step {a : Addr} {u : HO} (h : Rd H a u) (s : Stp M H H') (n : ¬ M a) : Rd H' a u := by
  rcases h with h | ⟨o, h⟩
  · exact .inl (s.keep _ _ h fun _ => n)
  · exact .inr ⟨o, s.keep _ _ h fun _ => n⟩
theorem rd_some {a : Addr} {u : HO} (h : Rd H a u) : ∃ o, H a = some o := by
  rcases h with h | ⟨o, h⟩
  · exact ⟨_, h⟩
  · exact ⟨_, h⟩
theorem sqF_step {a : Addr} {xs : List V} (h : SqF K H a xs) (s : Stp M H H') : SqF K H' a xs := by
  rcases h with ⟨o, h⟩ | h
  · exact .inl ⟨o, s.keep _ _ h fun m => m.elim⟩
  · exact .inr h
mutual
theorem Rep.step {v : V} {d : Dv} {G : List Addr} (s : Stp M H H') : Rep K H v d G → (∀ a ∈ G, ¬ M a) → Rep K H' v d G
  | .non, _ => .non
  | .bl b, _ => .bl b
  | .int i, _ => .int i
  | .str x, _ => .str x
  | .tup h r, n => .tup (tqT_step h s) (Reps.step s r n)
  | .lst h r, n => .lst (s.keep _ _ h fun _ => n _ List.mem_cons_self) (Reps.step s r fun a m => n a (List.mem_cons_of_mem _ m))
  | .frl h, _ => .frl (sqF_step h s)
  | .dct h e r, n => .dct (rd_step h s (n _ List.mem_cons_self)) e (Reps.step s r fun a m => n a (List.mem_cons_of_mem _ m))
  | .dctT h e r, n => .dctT (rd_step h s (n _ List.mem_cons_self)) e (Reps.step s r fun a m => n a (List.mem_cons_of_mem _ m))
  | .obj h e r, n => .obj (s.keep _ _ h fun _ => n _ List.mem_cons_self) e (Reps.step s r fun a m => n a (List.mem_cons_of_mem _ m))
theorem Reps.step {vs : List V} {ds : List Dv} {G : List Addr} (s : Stp M H H') : Reps K H vs ds G → (∀ a ∈ G, ¬ M a) → Reps K H' vs ds G
  | .nil, _ => .nil
  | .cons h r, n => .cons (Rep.step s h fun a m => n a (List.mem_append_left _ m)) (Reps.step s r fun a m => n a (List.mem_append_right _ m))
end
mutual
theorem Rep.alloc {v : V} {d : Dv} {G : List Addr} : Rep K H v d G → ∀ a ∈ G, ∃ o, H a = some o
  | .non, _, m => nomatch m
  | .bl b, _, m => nomatch m
  | .int i, _, m => nomatch m
  | .str x, _, m => nomatch m
  | .tup h r, a, m => Reps.alloc r a m
  | .lst h r, a, m => by
    rcases List.mem_cons.mp m with rfl | m
    · exact ⟨_, h⟩
    · exact Reps.alloc r a m
  | .frl h, _, m => nomatch m
  | .dct h e r, a, m => by
    rcases List.mem_cons.mp m with rfl | m
    · exact rd_some h
    · exact Reps.alloc r a m
  | .dctT h e r, a, m => by
    rcases List.mem_cons.mp m with rfl | m
    · exact rd_some h
    · exact Reps.alloc r a m
  | .obj h e r, a, m => by
    rcases List.mem_cons.mp m with rfl | m
    · exact ⟨_, h⟩
    · exact Reps.alloc r a m
theorem Reps.alloc {vs : List V} {ds : List Dv} {G : List Addr} : Reps K H vs ds G → ∀ a ∈ G, ∃ o, H a = some o
  | .nil, _, m => nomatch m
  | .cons h r, a, m => by
    rcases List.mem_append.mp m with m | m
    · exact Rep.alloc h a m
    · exact Reps.alloc r a m
end
mutual
theorem Rep.purG {v : V} {d : Dv} {G : List Addr} : Rep K H v d G → d.pur = true → G = []
  | .non, _ => rfl
  | .bl b, _ => rfl
  | .int i, _ => rfl
  | .str x, _ => rfl
  | .tup h r, p => Reps.purG r p
  | .lst h r, p => by cases p
  | .frl h, _ => rfl
  | .dct h e r, p => by cases p
  | .dctT h e r, p => by cases p
  | .obj h e r, p => by cases p
theorem Reps.purG {vs : List V} {ds : List Dv} {G : List Addr} : Reps K H vs ds G → Dv.purs ds = true → G = []
  | .nil, _ => rfl
  | .cons h r, p => by
    have q : _ ∧ _ := Bool.and_eq_true_iff.mp p
    rw [Rep.purG h q.1, Reps.purG r q.2]; rfl
end
theorem Reps.len {vs : List V} {ds : List Dv} {G : List Addr} : Reps K H vs ds G → vs.length = ds.length
  | .nil => rfl
  | .cons h r => congrArg (· + 1) (Reps.len r)
theorem Reps.get {vs : List V} {ds : List Dv} {G : List Addr} : Reps K H vs ds G → ∀ (i : Nat) (v : V), vs[i]? = some v → ∃ d G1, ds[i]? = some d ∧ Rep K H v d G1 ∧ ∀ a ∈ G1, a ∈ G
  | .nil, i, v, e => by simp at e
  | .cons h r, 0, v, e => by
    simp at e; subst e
    exact ⟨_, _, rfl, h, fun a m => List.mem_append_left _ m⟩
  | .cons h r, i + 1, v, e => by
    obtain ⟨d, G1, e1, h1, m1⟩ := Reps.get r i v (by simpa using e)
    exact ⟨d, G1, by simpa using e1, h1, fun a m => List.mem_append_right _ (m1 a m)⟩
theorem Reps.getD {vs : List V} {ds : List Dv} {G : List Addr} (r : Reps K H vs ds G) (i : Nat) (d : Dv) (e : ds[i]? = some d) : ∃ v G1, vs[i]? = some v ∧ Rep K H v d G1 ∧ ∀ a ∈ G1, a ∈ G := by
  have hi : i < vs.length := by
    rw [r.len]; exact (List.getElem?_eq_some_iff.mp e).1
  obtain ⟨d', G1, e1, h1, m1⟩ := r.get i vs[i] (List.getElem?_eq_getElem hi)
  rw [e] at e1; cases e1
  exact ⟨_, G1, List.getElem?_eq_getElem hi, h1, m1⟩
theorem Reps.app {vs ws : List V} {ds es : List Dv} {G G' : List Addr} : Reps K H vs ds G → Reps K H ws es G' → Reps K H (vs ++ ws) (ds ++ es) (G ++ G')
  | .nil, s => s
  | .cons h r, s => by
    rw [List.append_assoc]
    exact .cons h (Reps.app r s)
theorem Reps.one {v : V} {d : Dv} {G : List Addr} (h : Rep K H v d G) : Reps K H [v] [d] G := by
  have := Reps.cons h Reps.nil
  rwa [List.append_nil] at this
end

/-! ### slots -/
/-- a slot: nothing known; a value that nobody changes; one's own, that may change; an argument's, that may change -/
inductive Sl where
  | no | co (d : Dv) | ho (d : Dv) | pi (d : Dv)
def Sl.dv : Sl → Option Dv
  | .no => none
  | .co d => some d
  | .ho d => some d
  | .pi d => some d
def Sl.hot : Sl → Bool
  | .ho _ => true
  | .pi _ => true
  | _ => false
def Sl.put : Sl → Dv → Sl
  | .pi _, d => .pi d
  | _, d => .ho d
def Hot (env : List Sl) (G : Nat → List Addr) (a : Addr) : Prop := ∃ (i : Nat) (s : Sl), env[i]? = some s ∧ s.hot = true ∧ a ∈ G i
def All (G : Nat → List Addr) (a : Addr) : Prop := ∃ i, a ∈ G i
/-- at a def's entry: the slots, the heap, what hangs on the arguments -/
structure Bs where
  s0 : L2.St
  He : Hp
  G0 : Nat → List Addr
  ms : List Bool
structure EnvR (K : PySem.W.Frag) (B : Bs) (σ : L2.St) (H : Hp) (env : List Sl) (G : Nat → List Addr) : Prop where
  len : σ.length = env.length
  rep : ∀ (i : Nat) (s : Sl) (d : Dv), env[i]? = some s → s.dv = some d → ∃ v, σ[i]? = some (some v) ∧ Rep K H v d (G i)
  non : ∀ (i : Nat), (env[i]? = some .no ∨ env[i]? = none) → G i = []
  nod : ∀ (i : Nat) (s : Sl), env[i]? = some s → s.hot = true → (G i).Nodup
  dis : ∀ (i j : Nat) (s : Sl) (a : Addr), i ≠ j → env[i]? = some s → s.hot = true → a ∈ G i → a ∉ G j
  pin : ∀ (i : Nat) (d : Dv), env[i]? = some (.pi d) → σ[i]? = B.s0[i]?
  loc : ∀ (i : Nat) (d : Dv) (a : Addr), env[i]? = some (.ho d) → a ∈ G i → B.He a = none
  he : ∀ a, H a = none → B.He a = none
  org : ∀ (i : Nat) (a : Addr), a ∈ G i → All B.G0 a ∨ B.He a = none
  pc : ∀ (i : Nat) (d : Dv) (a : Addr), env[i]? = some (.pi d) → a ∈ G i → a ∈ B.G0 i ∨ B.He a = none
  mu : ∀ (i : Nat) (s : Sl) (a : Addr), env[i]? = some s → s.hot = true → a ∈ G i → ∃ o, H a = some o ∧ Mu o
  kp : ∀ (i : Nat), B.ms[i]? = some true → ∃ d, env[i]? = some (.pi d)
/-- one move: from (env, G, H) to (env', G', H') -/
structure Mv (env : List Sl) (G : Nat → List Addr) (H : Hp) (env' : List Sl) (G' : Nat → List Addr) (H' : Hp) : Prop where
  stp : Stp (Hot env G) H H'
  c1 : ∀ a, Hot env' G' a → Hot env G a ∨ H a = none
theorem Mv.refl {env : List Sl} {G : Nat → List Addr} {H : Hp} : Mv env G H env G H := ⟨.refl, fun _ h => .inl h⟩
theorem Mv.trans {env env1 env2 : List Sl} {G G1 G2 : Nat → List Addr} {H H1 H2 : Hp} (a : Mv env G H env1 G1 H1) (b : Mv env1 G1 H1 env2 G2 H2) : Mv env G H env2 G2 H2 :=
  ⟨a.stp.trans b.stp a.c1, fun x h => by
    rcases b.c1 x h with q | q
    · exact a.c1 x q
    · exact .inr (a.stp.al x q)⟩
theorem Mv.same {env : List Sl} {G : Nat → List Addr} {H H' : Hp} (h : Same H H') : Mv env G H env G H' := ⟨.same h, fun _ h => .inl h⟩

inductive Fl where
  | view | cold | fresh
  deriving DecidableEq
/-- what a value's flag says of what hangs on it: Gv, made from (Gs, H0) on, lying at (env, G, H) -/
structure Vf (H0 : Hp) (Gs : Nat → List Addr) (env : List Sl) (G : Nat → List Addr) (H : Hp) (fl : Fl) (Gv : List Addr) : Prop where
  cold : fl ≠ .view → ∀ a ∈ Gv, ¬ Hot env G a
  fr : fl = .fresh → Gv.Nodup ∧ ∀ a ∈ Gv, (H0 a = none ∧ ¬ All G a) ∧ ∃ o, H a = some o ∧ Mu o
  c3 : ∀ a ∈ Gv, All Gs a ∨ H0 a = none
theorem Hot.all {env : List Sl} {G : Nat → List Addr} {a : Addr} (h : Hot env G a) : All G a := let ⟨i, _, _, _, m⟩ := h; ⟨i, m⟩
theorem Vf.nil {H0 H : Hp} {Gs : Nat → List Addr} {env : List Sl} {G : Nat → List Addr} {fl : Fl} : Vf H0 Gs env G H fl [] :=
  ⟨fun _ a m => (nomatch m), fun _ => ⟨.nil, fun a m => (nomatch m)⟩, fun a m => (nomatch m)⟩
end Fd
namespace Fd
open PySem PySem.Spec PyProof.Rows L2

section
variable {K : PySem.W.Frag} {B : Bs} {σ : L2.St} {H H' H0 H1 H2 : Hp} {env env1 env2 env' : List Sl} {G G1 G2 G' : Nat → List Addr} {v : V} {d : Dv} {fl : Fl} {Gv : List Addr} {pu pu1 pu2 : Bool}
theorem EnvR.alloc (e : EnvR K B σ H env G) {i : Nat} {a : Addr} (m : a ∈ G i) : ∃ o, H a = some o := by
  cases h : env[i]? with
  | none => rw [e.non i (.inr h)] at m; cases m
  | some s =>
    cases hd : s.dv with
    | none =>
      cases s with
      | no => rw [e.non i (.inl h)] at m; cases m
      | co d => cases hd
      | ho d => cases hd
      | pi d => cases hd
    | some d =>
      obtain ⟨v, _, r⟩ := e.rep i s d h hd
      exact r.alloc a m
theorem EnvR.all_alloc (e : EnvR K B σ H env G) {a : Addr} (m : All G a) : ∃ o, H a = some o := let ⟨_, m⟩ := m; e.alloc m
theorem EnvR.not_all (e : EnvR K B σ H env G) {a : Addr} (m : H a = none) : ¬ All G a := fun z => by
  obtain ⟨o, q⟩ := e.all_alloc z
  rw [m] at q; cases q
theorem EnvR.same (e : EnvR K B σ H env G) (s_ : Same H H') : EnvR K B σ H' env G :=
  ⟨e.len, fun i sl d h1 h2 => (let ⟨v, h3, r⟩ := e.rep i sl d h1 h2; ⟨v, h3, r.step (M := fun _ => False) (.same s_) fun _ _ z => z⟩), e.non, e.nod, e.dis, e.pin, e.loc, fun a h => e.he a (s_.free h), e.org, e.pc, fun i s a h1 h2 m => (let ⟨o, q, mm⟩ := e.mu i s a h1 h2 m; ⟨o, s_ a o q, mm⟩), e.kp⟩
/-- an expression's step -/
structure Se (K : PySem.W.Frag) (B : Bs) (σ : L2.St) (env : List Sl) (G : Nat → List Addr) (H : Hp) (pu : Bool) (env' : List Sl) (G' : Nat → List Addr) (H' : Hp) : Prop where
  mv : Mv env G H env' G' H'
  c2 : ∀ a, All G' a → All G a ∨ H a = none
  cs : ∀ (i : Nat) (s : Sl), env[i]? = some s → s.hot = false → env'[i]? = some s ∧ G' i = G i
  hs : ∀ (i : Nat) (s : Sl), env[i]? = some s → s.hot = true → ∃ d, env'[i]? = some (s.put d)
  ln : env'.length = env.length
  er : EnvR K B σ H' env' G'
  pr : pu = true → Same H H' ∧ env' = env ∧ G' = G
theorem Sl.put_hot {s : Sl} (h : s.hot = true) (d : Dv) : (s.put d).hot = true := by cases s <;> first | rfl | cases h
theorem Sl.put_self {s : Sl} (h : s.hot = true) : ∃ d, s = s.put d := by
  cases s with
  | no => cases h
  | co d => cases h
  | ho d => exact ⟨d, rfl⟩
  | pi d => exact ⟨d, rfl⟩
theorem Sl.put_put {s : Sl} (d e : Dv) : (s.put d).put e = s.put e := by cases s <;> rfl
theorem Se.refl (e : EnvR K B σ H env G) : Se K B σ env G H true env G H :=
  ⟨.refl, fun _ h => .inl h, fun i s h _ => ⟨h, rfl⟩, fun i s h k => (by obtain ⟨d, q⟩ := Sl.put_self k; exact ⟨d, by rw [h]; exact congrArg some q⟩), rfl, e, fun _ => ⟨.refl H, rfl, rfl⟩⟩
theorem Se.same (e : EnvR K B σ H env G) (s : Same H H') : Se K B σ env G H true env G H' :=
  ⟨.same s, fun _ h => .inl h, fun i s h _ => ⟨h, rfl⟩, fun i s h k => (by obtain ⟨d, q⟩ := Sl.put_self k; exact ⟨d, by rw [h]; exact congrArg some q⟩), rfl, e.same s, fun _ => ⟨s, rfl, rfl⟩⟩
theorem Se.trans (a : Se K B σ env G H pu1 env1 G1 H1) (b : Se K B σ env1 G1 H1 pu2 env2 G2 H2) : Se K B σ env G H (pu1 && pu2) env2 G2 H2 :=
  ⟨a.mv.trans b.mv, fun x h => (by
      rcases b.c2 x h with q | q
      · exact a.c2 x q
      · exact .inr (a.mv.stp.al x q)),
    fun i s h k => (by
      obtain ⟨h1, g1⟩ := a.cs i s h k
      obtain ⟨h2, g2⟩ := b.cs i s h1 k
      exact ⟨h2, g2.trans g1⟩),
    fun i s h k => (by
      obtain ⟨d1, h1⟩ := a.hs i s h k
      obtain ⟨d2, h2⟩ := b.hs i _ h1 (Sl.put_hot k d1)
      rw [Sl.put_put] at h2
      exact ⟨d2, h2⟩),
    b.ln.trans a.ln, b.er, fun h => (by
      obtain ⟨h1, h2⟩ := Bool.and_eq_true_iff.mp h
      obtain ⟨s1, e1, g1⟩ := a.pr h1
      obtain ⟨s2, e2, g2⟩ := b.pr h2
      exact ⟨s1.trans s2, e2.trans e1, g2.trans g1⟩)⟩
theorem Se.weak (a : Se K B σ env G H pu env1 G1 H1) : Se K B σ env G H false env1 G1 H1 := ⟨a.mv, a.c2, a.cs, a.hs, a.ln, a.er, fun h => nomatch h⟩
/-- a value that lies while another is reckoned -/
theorem pend {Gs : Nat → List Addr} (s : Se K B σ env1 G1 H1 pu2 env2 G2 H2) (r : Rep K H1 v d Gv) (f : Vf H0 Gs env1 G1 H1 fl Gv) (hv : fl = .view → pu2 = true) : Rep K H2 v d Gv ∧ Vf H0 Gs env2 G2 H2 fl Gv := by
  cases hp : pu2 with
  | true =>
    obtain ⟨s1, e1, g1⟩ := s.pr hp
    subst e1 g1
    exact ⟨r.step (M := fun _ => False) (.same s1) fun _ _ z => z, f.cold, fun h => ⟨(f.fr h).1, fun a m => (let ⟨o, q, mm⟩ := ((f.fr h).2 a m).2; ⟨((f.fr h).2 a m).1, o, s1 a o q, mm⟩)⟩, f.c3⟩
  | false =>
    have nv : fl ≠ .view := fun z => by rw [hv z] at hp; cases hp
    have nh := f.cold nv
    have al : ∀ a ∈ Gv, H1 a ≠ none := fun a m z => by
      obtain ⟨o, q⟩ := r.alloc a m
      rw [z] at q; cases q
    refine ⟨r.step s.mv.stp nh, fun _ a m z => ?_, fun hf => ?_, f.c3⟩
    · rcases s.mv.c1 a z with q | q
      · exact nh a m q
      · exact al a m q
    · obtain ⟨n, q⟩ := f.fr hf
      refine ⟨n, fun a m => ⟨⟨(q a m).1.1, fun z => ?_⟩, ?_⟩⟩
      · rcases s.c2 a z with k | k
        · exact (q a m).1.2 k
        · exact al a m k
      · obtain ⟨o, k, mm⟩ := (q a m).2
        exact ⟨o, s.mv.stp.keep a o k fun _ z => nh a m z, mm⟩

theorem Vf.weak {Gs Gs1 : Nat → List Addr} (a : ∀ x, H1 x = none → H0 x = none) (b : ∀ x, All Gs1 x → All Gs x ∨ H0 x = none) (f : Vf H1 Gs1 env G H fl Gv) : Vf H0 Gs env G H fl Gv :=
  ⟨f.cold, fun h => ⟨(f.fr h).1, fun x m => ⟨⟨a x ((f.fr h).2 x m).1.1, ((f.fr h).2 x m).1.2⟩, ((f.fr h).2 x m).2⟩⟩, fun x m => by
    rcases f.c3 x m with q | q
    · exact b x q
    · exact .inr (a x q)⟩
/-- the flag that a value bears: of what can't change nothing hangs -/
def ef (d : Dv) (fl : Fl) : Fl := if d.pur = true then .fresh else fl
theorem Vf.ef {Gs : Nat → List Addr} (r : Rep K H v d Gv) (f : Vf H0 Gs env G H fl Gv) : Vf H0 Gs env G H (ef d fl) Gv := by
  unfold Fd.ef
  by_cases h : d.pur = true
  · rw [if_pos h, r.purG h]; exact .nil
  · rw [if_neg h]; exact f
/-- the flag of what is made of two -/
def flj (a b : Fl) : Fl := match a, b with
  | .view, _ => .view
  | _, .view => .view
  | _, _ => .cold
def flr (nw : Bool) (d : Dv) (fl : Fl) : Fl := if (d.pur || (nw && d.sh)) = true then .fresh else match fl with
  | .view => .view
  | _ => .cold
end

/-! ### what a reading gives, over deep data -/
section
variable (K : PySem.W.Frag) (B : Bs)
def DT (te : TE) (env : List Sl) (P : Dv → Fl → Bool → List Sl → Prop) : Prop :=
  ∀ (σ : L2.St) (H : Hp) (G : Nat → List Addr) (Q : VK), EnvR K B σ H env G →
    (∀ v H' d fl pu env' G' Gv, Se K B σ env G H pu env' G' H' → Rep K H' v d Gv → Vf H G env' G' H' fl Gv → P d fl pu env' → Q v H') → te σ H Q
def DTT (tt : TT) (env : List Sl) (P : Bool → Bool → List Sl → Prop) : Prop :=
  ∀ (σ : L2.St) (H : Hp) (G : Nat → List Addr) (Q : Bool → Hp → Prop), EnvR K B σ H env G →
    (∀ b H' pu env' G', Se K B σ env G H pu env' G' H' → P b pu env' → Q b H') → tt σ H Q
inductive Ar where
  | val (d : Dv) (fl : Fl) | slt (i : Nat)
def Ar.fr : Ar → Bool
  | .val _ .fresh => true
  | _ => false
def ArgOk (H0 : Hp) (Gs : Nat → List Addr) (H : Hp) (σ : L2.St) (env : List Sl) (G : Nat → List Addr) (v : V) (r : Ar) (Gv : List Addr) : Prop := match r with
  | .val d fl => Rep K H v d Gv ∧ Vf H0 Gs env G H fl Gv
  | .slt i => σ[i]? = some (some v) ∧ Gv = []
inductive Args (H0 : Hp) (Gs : Nat → List Addr) (H : Hp) (σ : L2.St) (env : List Sl) (G : Nat → List Addr) : List V → List Ar → List (List Addr) → Prop
  | nil : Args H0 Gs H σ env G [] [] []
  | cons {v : V} {r : Ar} {Gv : List Addr} {vs : List V} {rs : List Ar} {Gvs : List (List Addr)} : ArgOk K H0 Gs H σ env G v r Gv →
      (∀ (j : Nat) (r' : Ar) (Gv' : List Addr), rs[j]? = some r' → Gvs[j]? = some Gv' → (r.fr = true ∨ r'.fr = true) → ∀ a ∈ Gv, a ∉ Gv') → Args H0 Gs H σ env G vs rs Gvs → Args H0 Gs H σ env G (v :: vs) (r :: rs) (Gv :: Gvs)
def DTA (ta : TA) (env : List Sl) (P : List Ar → Bool → List Sl → Prop) : Prop :=
  ∀ (σ : L2.St) (H : Hp) (G : Nat → List Addr) (Q : List V → Hp → Prop), EnvR K B σ H env G →
    (∀ vs H' rs pu env' G' Gvs, Se K B σ env G H pu env' G' H' → Args K H G H' σ env' G' vs rs Gvs → P rs pu env' → Q vs H') → ta σ H Q
end
section
variable {K : PySem.W.Frag} {B : Bs} {env : List Sl} {P : Dv → Fl → Bool → List Sl → Prop} {PT : Bool → Bool → List Sl → Prop} {PAr : List Ar → Bool → List Sl → Prop} {ta tb te : TE} {t u : TT} {tr : TA}
theorem DT.imp {P' : Dv → Fl → Bool → List Sl → Prop} (h : DT K B te env P) (i : ∀ d fl pu env', P d fl pu env' → P' d fl pu env') : DT K B te env P' := fun σ H G Q e q =>
  h σ H G Q e fun v H' d fl pu env' G' Gv s r f p => q v H' d fl pu env' G' Gv s r f (i _ _ _ _ p)
theorem DTT.imp {P' : Bool → Bool → List Sl → Prop} (h : DTT K B t env PT) (i : ∀ b pu env', PT b pu env' → P' b pu env') : DTT K B t env P' := fun σ H G Q e q =>
  h σ H G Q e fun b H' pu env' G' s p => q b H' pu env' G' s (i _ _ _ p)
/-! names, constants -/
theorem hot_of {B : Bs} {σ : L2.St} {H : Hp} {G : Nat → List Addr} (e : EnvR K B σ H env G) {i : Nat} {s : Sl} (h : env[i]? = some s) (k : s.hot = false) : ∀ a ∈ G i, ¬ Hot env G a := fun a m ⟨j, sj, hj, kj, mj⟩ => by
  have ne : j ≠ i := fun z => by
    subst z; rw [h] at hj; cases hj; rw [k] at kj; cases kj
  exact e.dis j i sj a ne hj kj mj m
theorem dt_var {i : Nat} {d : Dv} (he : env[i]? = some (.co d)) (h : P d .cold true env) : DT K B (tVar i) env P := fun σ H G Q e q => by
  obtain ⟨v, hv, r⟩ := e.rep i _ d he rfl
  exact ⟨v, hv, q v H d .cold true env G (G i) (.refl e) r ⟨fun _ => hot_of e he rfl, fun z => (nomatch z), fun a m => .inl ⟨i, m⟩⟩ h⟩
theorem dt_varH {i : Nat} {s : Sl} {d : Dv} (he : env[i]? = some s) (hd : s.dv = some d) (h : P d .view true env) : DT K B (tVar i) env P := fun σ H G Q e q => by
  obtain ⟨v, hv, r⟩ := e.rep i _ d he hd
  exact ⟨v, hv, q v H d .view true env G (G i) (.refl e) r ⟨fun z => (z rfl).elim, fun z => (nomatch z), fun a m => .inl ⟨i, m⟩⟩ h⟩
theorem dt_c {v : V} {d : Dv} (hr : ∀ H, Rep K H v d []) (h : P d .fresh true env) : DT K B (tC v) env P := fun σ H G Q e q =>
  q v H d .fresh true env G [] (.refl e) (hr H) .nil h
theorem dt_int {i : Int} (h : P (.int i) .fresh true env) : DT K B (tC (.int i)) env P := dt_c (fun _ => .int i) h
theorem dt_str {i : Str} (h : P (.str i) .fresh true env) : DT K B (tC (.str i)) env P := dt_c (fun _ => .str i) h
theorem dt_bl {i : Bool} (h : P (.bl i) .fresh true env) : DT K B (tC (.bl i)) env P := dt_c (fun _ => .bl i) h
theorem dt_non (h : P .non .fresh true env) : DT K B (tC .non) env P := dt_c (fun _ => .non) h

/-! operators -/
def OpD (K : PySem.W.Frag) (r : R2) (nw : Bool) (f : Dv → Dv → Option Dv) : Prop := ∀ (H : Hp) (x y : V) (d1 d2 d : Dv) (G1 G2 : List Addr) (Q : VK), Rep K H x d1 G1 → Rep K H y d2 G2 → f d1 d2 = some d →
  (∀ z H' Gz, Same H H' → Rep K H' z d Gz → (∀ a ∈ Gz, a ∈ G1 ∨ a ∈ G2 ∨ H a = none) → (nw = true → d.sh = true → Gz.Nodup ∧ ∀ a ∈ Gz, H a = none ∧ ∃ o, H' a = some o ∧ Mu o) → Q z H') → r x y H Q
/-- a value made of values -/
theorem made {σ : L2.St} {H H2 H3 : Hp} {G : Nat → List Addr} {env2 : List Sl} {G2 : Nat → List Addr} {z : V} {d : Dv} {Gz : List Addr} {fl : Fl} {nw : Bool} (e2 : EnvR K B σ H2 env2 G2) (h20 : ∀ a, H2 a = none → H a = none) (r : Rep K H3 z d Gz)
    (old : ∀ a ∈ Gz, H2 a ≠ none → (fl ≠ .view → ¬ Hot env2 G2 a) ∧ (All G a ∨ H a = none)) (new : nw = true → d.sh = true → Gz.Nodup ∧ ∀ a ∈ Gz, H2 a = none ∧ ∃ o, H3 a = some o ∧ Mu o) : Vf H G env2 G2 H3 (flr nw d fl) Gz := by
  unfold flr
  have c3 : ∀ a ∈ Gz, All G a ∨ H a = none := fun a m => by
    cases h : H2 a with
    | none => exact .inr (h20 a h)
    | some o => exact (old a m (by rw [h]; exact fun z => (nomatch z))).2
  by_cases hp : (d.pur || (nw && d.sh)) = true
  · rw [if_pos hp]
    rcases Bool.or_eq_true_iff.mp hp with p | p
    · rw [r.purG p]; exact .nil
    · obtain ⟨n1, n2⟩ := Bool.and_eq_true_iff.mp p
      obtain ⟨nd, fr⟩ := new n1 n2
      exact ⟨fun _ a m h => e2.not_all (fr a m).1 h.all, fun _ => ⟨nd, fun a m => ⟨⟨h20 a (fr a m).1, e2.not_all (fr a m).1⟩, (fr a m).2⟩⟩, c3⟩
  · rw [if_neg hp]
    cases fl with
    | view => exact ⟨fun z => (z rfl).elim, fun z => (nomatch z), c3⟩
    | cold => exact ⟨fun _ a m h => by
        cases q : H2 a with
        | none => exact e2.not_all q h.all
        | some o => exact (old a m (by rw [q]; exact fun z => (nomatch z))).1 (fun z => (nomatch z)) h, fun z => (nomatch z), c3⟩
    | fresh => exact ⟨fun _ a m h => by
        cases q : H2 a with
        | none => exact e2.not_all q h.all
        | some o => exact (old a m (by rw [q]; exact fun z => (nomatch z))).1 (fun z => (nomatch z)) h, fun z => (nomatch z), c3⟩
theorem Se.back {σ : L2.St} {H H1 : Hp} {G G1 : Nat → List Addr} {env env1 : List Sl} {pu : Bool} (s1 : Se K B σ env G H pu env1 G1 H1) {Gv : List Addr} {a : Addr} (h : All G1 a ∨ H1 a = none) : All G a ∨ H a = none := by
  rcases h with h | h
  · exact s1.c2 a h
  · exact .inr (s1.mv.stp.al a h)
theorem dt_op {r : R2} {nw : Bool} {f : Dv → Dv → Option Dv} (o : OpD K r nw f)
    (h : DT K B ta env fun d1 f1 p1 env1 => DT K B tb env1 fun d2 f2 p2 env2 => (f1 = .view → p2 = true) ∧ ∃ d, f d1 d2 = some d ∧ P d (flr nw d (flj f1 f2)) (p1 && p2) env2) : DT K B (tOp r ta tb) env P := fun σ H G Q e q => by
  refine h σ H G _ e fun x H1 d1 f1 p1 env1 G1 Gx s1 rx fx h1 => ?_
  refine h1 σ H1 G1 _ s1.er fun y H2 d2 f2 p2 env2 G2 Gy s2 ry fy ⟨hv, d, hd, hP⟩ => ?_
  obtain ⟨rx2, fx2⟩ := pend s2 rx fx hv
  refine o H2 x y d1 d2 d Gx Gy _ rx2 ry hd fun z H3 Gz sm rz src new => ?_
  have s3 := (s1.trans s2).trans (.same s2.er sm)
  rw [Bool.and_true] at s3
  have back1 : ∀ a, H1 a = none → H a = none := s1.mv.stp.al
  refine q z H3 d _ _ env2 G2 Gz s3 rz (made s2.er (fun a k => back1 a (s2.mv.stp.al a k)) rz (fun a m k => ?_) new) hP
  rcases src a m with z | z | z
  · refine ⟨fun nv => fx2.cold (fun w => nv (by rw [w]; rfl)) a z, fx2.c3 a z⟩
  · refine ⟨fun nv => fy.cold (fun w => nv (by rw [w]; cases f1 <;> rfl)) a z, s1.back (Gv := Gy) (fy.c3 a z)⟩
  · exact (k z).elim
def UnD (K : PySem.W.Frag) (r : V → Hp → VK → Prop) (f : Dv → Option Dv) : Prop := ∀ (H : Hp) (x : V) (d1 d : Dv) (G1 : List Addr) (Q : VK), Rep K H x d1 G1 → f d1 = some d → (∀ z, Rep K H z d [] → Q z H) → r x H Q
theorem dt_un {r : V → Hp → VK → Prop} {f : Dv → Option Dv} (o : UnD K r f) (h : DT K B ta env fun d1 f1 p1 env1 => ∃ d, f d1 = some d ∧ P d .fresh p1 env1) : DT K B (tUn r ta) env P := fun σ H G Q e q => by
  refine h σ H G _ e fun x H1 d1 f1 p1 env1 G1 Gx s1 rx fx ⟨d, hd, hP⟩ => ?_
  exact o H1 x d1 d Gx _ rx hd fun z rz => q z H1 d _ _ env1 G1 [] s1 rz .nil hP
/-! tests -/
theorem dtt_B (h : DT K B te env fun d _ pu env1 => ∃ b, d = .bl b ∧ PT b pu env1) : DTT K B (tB te) env PT := fun σ H G Q e q => by
  refine h σ H G _ e fun x H1 d1 f1 p1 env1 G1 Gx s1 rx fx ⟨b, hd, hP⟩ => ?_
  subst hd
  cases rx
  exact ⟨b, rfl, q b H1 p1 env1 G1 s1 hP⟩
theorem dtt_test (h : DT K B te env fun d _ pu env1 => ∃ b, d = .bl b ∧ PT b pu env1) : DTT K B (tTest te) env PT := dtt_B h
theorem dtt_not (h : DTT K B t env fun b pu env1 => PT (!b) pu env1) : DTT K B (tNot t) env PT := fun σ H G Q e q =>
  h σ H G _ e fun b H1 pu env1 G1 s hP => q _ H1 pu env1 G1 s hP
theorem dtt_and (h : DTT K B t env fun b p1 env1 => if b = true then DTT K B u env1 fun c p2 env2 => PT c (p1 && p2) env2 else PT false p1 env1) : DTT K B (tAnd t u) env PT := fun σ H G Q e q => by
  refine h σ H G _ e fun b H1 p1 env1 G1 s1 h1 => ?_
  cases b with
  | true =>
    show u σ H1 Q
    rw [if_pos rfl] at h1
    exact h1 σ H1 G1 _ s1.er fun c H2 p2 env2 G2 s2 hP => q c H2 _ env2 G2 (s1.trans s2) hP
  | false =>
    rw [if_neg Bool.false_ne_true] at h1
    exact q false H1 p1 env1 G1 s1 h1
theorem dtt_or (h : DTT K B t env fun b p1 env1 => if b = true then PT true p1 env1 else DTT K B u env1 fun c p2 env2 => PT c (p1 && p2) env2) : DTT K B (tOr t u) env PT := fun σ H G Q e q => by
  refine h σ H G _ e fun b H1 p1 env1 G1 s1 h1 => ?_
  cases b with
  | false =>
    show u σ H1 Q
    rw [if_neg Bool.false_ne_true] at h1
    exact h1 σ H1 G1 _ s1.er fun c H2 p2 env2 G2 s2 hP => q c H2 _ env2 G2 (s1.trans s2) hP
  | true =>
    rw [if_pos rfl] at h1
    exact q true H1 p1 env1 G1 s1 h1
/-! and, or, not as values -/
theorem dt_andV (h : DT K B ta env fun d f1 p1 env1 => ∃ b, d = .bl b ∧ if b = true then DT K B tb env1 fun d2 f2 p2 env2 => P d2 f2 (p1 && p2) env2 else P (.bl false) .fresh p1 env1) : DT K B (tAndV ta tb) env P := fun σ H G Q e q => by
  refine h σ H G _ e fun x H1 d1 f1 p1 env1 G1 Gx s1 rx fx ⟨b, hd, h1⟩ => ?_
  subst hd
  cases rx
  refine ⟨b, rfl, ?_⟩
  cases b with
  | true =>
    show tb σ H1 Q
    rw [if_pos rfl] at h1
    exact h1 σ H1 G1 _ s1.er fun y H2 d2 f2 p2 env2 G2 Gy s2 ry fy hP => q y H2 d2 f2 _ env2 G2 Gy (s1.trans s2) ry (fy.weak s1.mv.stp.al s1.c2) hP
  | false =>
    rw [if_neg Bool.false_ne_true] at h1
    exact q (.bl false) H1 _ _ _ env1 G1 [] s1 (.bl false) .nil h1
theorem dt_orV (h : DT K B ta env fun d f1 p1 env1 => ∃ b, d = .bl b ∧ if b = true then P (.bl true) .fresh p1 env1 else DT K B tb env1 fun d2 f2 p2 env2 => P d2 f2 (p1 && p2) env2) : DT K B (tOrV ta tb) env P := fun σ H G Q e q => by
  refine h σ H G _ e fun x H1 d1 f1 p1 env1 G1 Gx s1 rx fx ⟨b, hd, h1⟩ => ?_
  subst hd
  cases rx
  refine ⟨b, rfl, ?_⟩
  cases b with
  | false =>
    show tb σ H1 Q
    rw [if_neg Bool.false_ne_true] at h1
    exact h1 σ H1 G1 _ s1.er fun y H2 d2 f2 p2 env2 G2 Gy s2 ry fy hP => q y H2 d2 f2 _ env2 G2 Gy (s1.trans s2) ry (fy.weak s1.mv.stp.al s1.c2) hP
  | true =>
    rw [if_pos rfl] at h1
    exact q (.bl true) H1 _ _ _ env1 G1 [] s1 (.bl true) .nil h1
theorem dt_notV (h : DT K B ta env fun d f1 p1 env1 => ∃ b, d = .bl b ∧ P (.bl (!b)) .fresh p1 env1) : DT K B (tNotV ta) env P := fun σ H G Q e q => by
  refine h σ H G _ e fun x H1 d1 f1 p1 env1 G1 Gx s1 rx fx ⟨b, hd, h1⟩ => ?_
  subst hd
  cases rx
  exact ⟨b, rfl, q (.bl (!b)) H1 _ _ _ env1 G1 [] s1 (.bl _) .nil h1⟩
theorem dt_if (h : DTT K B t env fun b p0 env1 => if b = true then DT K B ta env1 fun d2 f2 p2 env2 => P d2 f2 (p0 && p2) env2 else DT K B tb env1 fun d2 f2 p2 env2 => P d2 f2 (p0 && p2) env2) : DT K B (tIf t ta tb) env P := fun σ H G Q e q => by
  refine h σ H G _ e fun b H1 p1 env1 G1 s1 h1 => ?_
  cases b with
  | true =>
    show ta σ H1 Q
    rw [if_pos rfl] at h1
    exact h1 σ H1 G1 _ s1.er fun y H2 d2 f2 p2 env2 G2 Gy s2 ry fy hP => q y H2 d2 f2 _ env2 G2 Gy (s1.trans s2) ry (fy.weak s1.mv.stp.al s1.c2) hP
  | false =>
    show tb σ H1 Q
    rw [if_neg Bool.false_ne_true] at h1
    exact h1 σ H1 G1 _ s1.er fun y H2 d2 f2 p2 env2 G2 Gy s2 ry fy hP => q y H2 d2 f2 _ env2 G2 Gy (s1.trans s2) ry (fy.weak s1.mv.stp.al s1.c2) hP
/-! arguments -/
theorem Args.weak {H0 H1 H : Hp} {Gs Gs1 : Nat → List Addr} {σ : L2.St} {G : Nat → List Addr} (a : ∀ x, H1 x = none → H0 x = none) (b : ∀ x, All Gs1 x → All Gs x ∨ H0 x = none) {vs : List V} {rs : List Ar} {Gvs : List (List Addr)} (h : Args K H1 Gs1 H σ env G vs rs Gvs) : Args K H0 Gs H σ env G vs rs Gvs := by
  induction h with
  | nil => exact .nil
  | @cons v r Gv vs rs Gvs h1 dj _ ih =>
    refine .cons ?_ dj ih
    cases r with
    | val d fl => exact ⟨h1.1, h1.2.weak a b⟩
    | slt i => exact h1
theorem Args.get {H0 H : Hp} {Gs : Nat → List Addr} {σ : L2.St} {G : Nat → List Addr} {vs : List V} {rs : List Ar} {Gvs : List (List Addr)} (h : Args K H0 Gs H σ env G vs rs Gvs) : ∀ (j : Nat) (r : Ar), rs[j]? = some r → ∃ v Gv, vs[j]? = some v ∧ Gvs[j]? = some Gv ∧ ArgOk K H0 Gs H σ env G v r Gv := by
  induction h with
  | nil => intro j r e; simp at e
  | cons h1 dj _ ih =>
    intro j r e
    cases j with
    | zero => simp at e; subst e; exact ⟨_, _, rfl, rfl, h1⟩
    | succ j => exact ih j r (by simpa using e)
theorem dta_nil (h : PAr [] true env) : DTA K B tNil env PAr := fun σ H G Q e q => q [] H [] true env G [] (.refl e) .nil h
theorem dta_cons (h : DT K B te env fun d fl p1 env1 => DTA K B tr env1 fun rs p2 env2 => (fl = .view → p2 = true) ∧ PAr (.val d fl :: rs) (p1 && p2) env2) : DTA K B (tCons te tr) env PAr := fun σ H G Q e q => by
  refine h σ H G _ e fun x H1 d1 f1 p1 env1 G1 Gx s1 rx fx h1 => ?_
  refine h1 σ H1 G1 _ s1.er fun vs H2 rs p2 env2 G2 Gvs s2 ar ⟨hv, hP⟩ => ?_
  obtain ⟨rx2, fx2⟩ := pend s2 rx fx hv
  refine q (x :: vs) H2 _ _ env2 G2 (Gx :: Gvs) (s1.trans s2) (.cons (show ArgOk K H G H2 σ env2 G2 x (.val d1 f1) Gx from ⟨rx2, fx2⟩) (fun j r' Gv' hr hg hf a m m' => ?_) (ar.weak s1.mv.stp.al s1.c2)) hP
  obtain ⟨v', Gv2, _, hg2, ok⟩ := ar.get j r' hr
  rw [hg] at hg2; cases hg2
  have al : H1 a ≠ none := fun z => by
    obtain ⟨o, k⟩ := rx.alloc a m
    rw [z] at k; cases k
  cases r' with
  | slt i =>
    obtain ⟨_, g⟩ := ok
    rw [g] at m'; cases m'
  | val d' fl' =>
    obtain ⟨_, f'⟩ := ok
    rcases hf with hf | hf
    · have : f1 = .fresh := by cases f1 <;> first | rfl | cases hf
      rcases f'.c3 a m' with k | k
      · exact ((fx.fr this).2 a m).1.2 k
      · exact al k
    · have : fl' = .fresh := by cases fl' <;> first | rfl | cases hf
      exact al ((f'.fr this).2 a m').1.1
theorem dta_slot {i : Nat} {s : Sl} (he : env[i]? = some s) (hd : s.hot = true) (h : DTA K B tr env fun rs p2 env2 => PAr (.slt i :: rs) p2 env2) : DTA K B (tCons (tVar i) tr) env PAr := fun σ H G Q e q => by
  obtain ⟨d, hd⟩ : ∃ d, s.dv = some d := by
    cases s with
    | no => cases hd
    | co d => cases hd
    | ho d => exact ⟨d, rfl⟩
    | pi d => exact ⟨d, rfl⟩
  obtain ⟨v, hv, r⟩ := e.rep i _ d he hd
  refine ⟨v, hv, h σ H G _ e fun vs H2 rs p2 env2 G2 Gvs s2 ar hP => ?_⟩
  exact q (v :: vs) H2 _ _ env2 G2 ([] :: Gvs) s2 (.cons (show ArgOk K H G H2 σ env2 G2 v (.slt i) [] from ⟨hv, rfl⟩) (fun j r' Gv' _ _ _ a m => nomatch m) ar) hP

theorem Args.lenG {H0 H : Hp} {Gs : Nat → List Addr} {σ : L2.St} {G : Nat → List Addr} {vs : List V} {rs : List Ar} {Gvs : List (List Addr)} (h : Args K H0 Gs H σ env G vs rs Gvs) : rs.length = Gvs.length := by
  induction h with
  | nil => rfl
  | cons _ _ _ ih => exact congrArg (· + 1) ih
theorem Args.lenV {H0 H : Hp} {Gs : Nat → List Addr} {σ : L2.St} {G : Nat → List Addr} {vs : List V} {rs : List Ar} {Gvs : List (List Addr)} (h : Args K H0 Gs H σ env G vs rs Gvs) : vs.length = rs.length := by
  induction h with
  | nil => rfl
  | cons _ _ _ ih => exact congrArg (· + 1) ih
/-- the arguments as values, and the flag of all -/
def flm (a b : Fl) : Fl := match a, b with
  | .view, _ => .view
  | _, .view => .view
  | .cold, _ => .cold
  | _, .cold => .cold
  | .fresh, .fresh => .fresh
def valsOf : List Ar → Option (List Dv × Fl)
  | [] => some ([], .fresh)
  | .val d fl :: r => match valsOf r with
    | some (ds, f) => some (d :: ds, flm (ef d fl) f)
    | none => none
  | .slt _ :: _ => none
theorem flm_view {a b : Fl} (h : flm a b ≠ .view) : a ≠ .view ∧ b ≠ .view := by
  cases a <;> cases b <;> first | exact absurd rfl h | (constructor <;> intro z <;> cases z)
theorem flm_fresh {a b : Fl} (h : flm a b = .fresh) : a = .fresh ∧ b = .fresh := by cases a <;> cases b <;> first | exact ⟨rfl, rfl⟩ | cases h
theorem Args.vals {H0 H : Hp} {Gs : Nat → List Addr} {σ : L2.St} {G : Nat → List Addr} {vs : List V} {rs : List Ar} {Gvs : List (List Addr)} (h : Args K H0 Gs H σ env G vs rs Gvs) : ∀ {ds : List Dv} {fl : Fl}, valsOf rs = some (ds, fl) →
    Reps K H vs ds Gvs.flatten ∧ Vf H0 Gs env G H fl Gvs.flatten := by
  induction h with
  | nil => intro ds fl e; cases e; exact ⟨.nil, .nil⟩
  | @cons v r Gv vs rs Gvs h1 dj tl ih =>
    intro ds fl e
    cases r with
    | slt i => cases e
    | val d f =>
      unfold valsOf at e
      cases q : valsOf rs with
      | none => rw [q] at e; cases e
      | some p =>
        obtain ⟨ds', f'⟩ := p
        rw [q] at e
        cases e
        obtain ⟨r2, f2⟩ := ih q
        obtain ⟨r1, f1⟩ := h1
        have f1' := f1.ef r1
        rw [List.flatten_cons]
        refine ⟨.cons r1 r2, fun nv a m => ?_, fun fr => ?_, fun a m => ?_⟩
        · obtain ⟨n1, n2⟩ := flm_view nv
          rcases List.mem_append.mp m with m | m
          · exact f1'.cold n1 a m
          · exact f2.cold n2 a m
        · obtain ⟨n1, n2⟩ := flm_fresh fr
          refine ⟨List.nodup_append.mpr ⟨(f1'.fr n1).1, (f2.fr n2).1, fun a ma b mb z => ?_⟩, fun a m => ?_⟩
          · subst z
            by_cases hp : d.pur = true
            · rw [r1.purG hp] at ma; cases ma
            · have hf : f = .fresh := by unfold Fd.ef at n1; rw [if_neg hp] at n1; exact n1
              obtain ⟨Gv', hm, hb⟩ := List.mem_flatten.mp mb
              obtain ⟨j, hj, hj2⟩ := List.getElem_of_mem hm
              have hl : rs.length = Gvs.length := tl.lenG
              exact dj j _ Gv' (List.getElem?_eq_getElem (by rw [hl]; exact hj)) (by rw [List.getElem?_eq_getElem hj, hj2]) (.inl (by rw [hf]; rfl)) a ma hb
          · rcases List.mem_append.mp m with m | m
            · exact (f1'.fr n1).2 a m
            · exact (f2.fr n2).2 a m
        · rcases List.mem_append.mp m with m | m
          · exact f1'.c3 a m
          · exact f2.c3 a m
end
end Fd
namespace Fd
open PySem PySem.Spec PyProof.Rows L2
section
variable {K : PySem.W.Frag} {B : Bs} {env : List Sl} {P : Dv → Fl → Bool → List Sl → Prop} {ta tb te : TE} {t u : TT} {tr : TA}
/-! displays, calls of what is built in -/
theorem Vf.onS {H0 H H' : Hp} {Gs G : Nat → List Addr} {fl : Fl} {Gv : List Addr} (f : Vf H0 Gs env G H fl Gv) (s : Same H H') : Vf H0 Gs env G H' fl Gv :=
  ⟨f.cold, fun h => ⟨(f.fr h).1, fun a m => (let ⟨z, o, q, mm⟩ := (f.fr h).2 a m; ⟨z, o, s a o q, mm⟩)⟩, f.c3⟩
theorem dt_tup (h : DTA K B tr env fun rs pu env1 => ∃ ds fl, valsOf rs = some (ds, fl) ∧ ds.length ≤ sizeLine ∧ P (.tup ds) fl pu env1) : DT K B (tTup tr) env P := fun σ H G Q e q => by
  refine h σ H G _ e fun vs H1 rs pu env1 G1 Gvs s ar ⟨ds, fl, hv, hl, hP⟩ => ?_
  obtain ⟨r, f⟩ := ar.vals hv
  refine ⟨by rw [r.len]; exact hl, fun p hp => ?_⟩
  have sm : Same H1 (upd H1 p (.tup vs)) := same_new hp
  have s2 := s.trans (.same s.er sm)
  rw [Bool.and_true] at s2
  exact q _ _ _ _ _ env1 G1 _ s2 (.tup (.inl upd_same) (r.step (M := fun _ => False) (.same sm) fun _ _ z => z)) (f.onS sm) hP
theorem dt_lst (h : DTA K B tr env fun rs pu env1 => ∃ ds fl, valsOf rs = some (ds, fl) ∧ ds.length ≤ sizeLine ∧ P (.lst ds) fl pu env1) : DT K B (tLst tr) env P := fun σ H G Q e q => by
  refine h σ H G _ e fun vs H1 rs pu env1 G1 Gvs s ar ⟨ds, fl, hv, hl, hP⟩ => ?_
  obtain ⟨r, f⟩ := ar.vals hv
  refine ⟨by rw [r.len]; exact hl, fun p hp => ?_⟩
  have sm : Same H1 (upd H1 p (.lst vs)) := same_new hp
  have s2 := s.trans (.same s.er sm)
  rw [Bool.and_true] at s2
  refine q _ _ _ _ _ env1 G1 (p :: Gvs.flatten) s2 (.lst upd_same (r.step (M := fun _ => False) (.same sm) fun _ _ z => z)) ?_ hP
  have np : ¬ All G1 p := s.er.not_all hp
  refine ⟨fun nv a m => ?_, fun fr => ⟨?_, fun a m => ?_⟩, fun a m => ?_⟩
  · rcases List.mem_cons.mp m with rfl | m
    · exact fun z => np z.all
    · exact f.cold nv a m
  · refine List.nodup_cons.mpr ⟨fun m => ?_, (f.fr fr).1⟩
    obtain ⟨o, k⟩ := r.alloc p m
    rw [hp] at k; cases k
  · rcases List.mem_cons.mp m with rfl | m
    · exact ⟨⟨s.mv.stp.al a hp, np⟩, _, upd_same, True.intro⟩
    · obtain ⟨z, o, k, mm⟩ := (f.fr fr).2 a m
      exact ⟨z, o, sm a o k, mm⟩
  · rcases List.mem_cons.mp m with rfl | m
    · exact .inr (s.mv.stp.al a hp)
    · exact f.c3 a m
theorem new_fresh {σ : L2.St} {H1 H H2 : Hp} {Gs G1 : Nat → List Addr} {p : Addr} {o : HO} (e : EnvR K B σ H1 env G1) (hp : H1 p = none) (h0 : H p = none) (h2 : H2 p = some o) (mm : Mu o) {fl : Fl} : Vf H Gs env G1 H2 fl [p] := by
  have np : ¬ All G1 p := e.not_all hp
  refine ⟨fun _ a m z => ?_, fun _ => ⟨List.nodup_cons.mpr ⟨fun m => (nomatch m), .nil⟩, fun a m => ?_⟩, fun a m => ?_⟩
  · rcases List.mem_cons.mp m with rfl | m
    · exact np z.all
    · cases m
  · rcases List.mem_cons.mp m with rfl | m
    · exact ⟨⟨h0, np⟩, o, h2, mm⟩
    · cases m
  · rcases List.mem_cons.mp m with rfl | m
    · exact .inr h0
    · cases m
theorem dt_dnewK (h : P (.dct []) .fresh true env) : DT K B tDNewK env P := fun σ H G Q e q p hp =>
  q _ _ _ _ _ env G [p] (.same e (same_new hp)) (.dct (kvs := []) (.inl upd_same) rfl .nil) (new_fresh (o := .dK []) e hp hp upd_same True.intro) h
theorem dt_dnewT (h : P (.dctT []) .fresh true env) : DT K B tDNewT env P := fun σ H G Q e q p hp =>
  q _ _ _ _ _ env G [p] (.same e (same_new hp)) (.dctT (kvs := []) (.inl upd_same) rfl .nil) (new_fresh (o := .dT []) e hp hp upd_same True.intro) h
/-- a call by values of what changes nothing -/
def CallD (K : PySem.W.Frag) (r : List V → Hp → VK → Prop) (nw : Bool) (f : List Dv → Option Dv) : Prop := ∀ (H : Hp) (vs : List V) (ds : List Dv) (d : Dv) (G : List Addr) (Q : VK), Reps K H vs ds G → f ds = some d →
  (∀ z H' Gz, Same H H' → Rep K H' z d Gz → (∀ a ∈ Gz, a ∈ G ∨ H a = none) → (nw = true → d.sh = true → Gz.Nodup ∧ ∀ a ∈ Gz, H a = none ∧ ∃ o, H' a = some o ∧ Mu o) → Q z H') → r vs H Q
theorem dt_cb {r : List V → Hp → VK → Prop} {nw : Bool} {f : List Dv → Option Dv} (o : CallD K r nw f)
    (h : DTA K B tr env fun rs pu env1 => ∃ ds fl d, valsOf rs = some (ds, fl) ∧ f ds = some d ∧ P d (flr nw d fl) pu env1) : DT K B (tCB r tr) env P := fun σ H G Q e q => by
  refine h σ H G _ e fun vs H1 rs pu env1 G1 Gvs s ar ⟨ds, fl, d, hv, hd, hP⟩ => ?_
  obtain ⟨rr, f'⟩ := ar.vals hv
  refine o H1 vs ds d _ _ rr hd fun z H2 Gz sm rz src new => ?_
  have s2 := s.trans (.same s.er sm)
  rw [Bool.and_true] at s2
  refine q z H2 _ _ _ env1 G1 Gz s2 rz (made s.er s.mv.stp.al rz (fun a m k => ?_) new) hP
  rcases src a m with z | z
  · exact ⟨fun nv => f'.cold nv a z, f'.c3 a z⟩
  · exact (k z).elim
/-- a method of what is built in, that changes nothing -/
def MtD (K : PySem.W.Frag) (T : String) (r : V → List V → Hp → VK → Prop) (nw : Bool) (f : Dv → List Dv → Option Dv) : Prop := ∀ (H : Hp) (x : V) (vs : List V) (d1 : Dv) (ds : List Dv) (d : Dv) (G1 G : List Addr) (Q : VK), Rep K H x d1 G1 → Reps K H vs ds G → f d1 ds = some d →
  (∀ z H' Gz, Same H H' → Rep K H' z d Gz → (∀ a ∈ Gz, a ∈ G1 ∨ a ∈ G ∨ H a = none) → (nw = true → d.sh = true → Gz.Nodup ∧ ∀ a ∈ Gz, H a = none ∧ ∃ o, H' a = some o ∧ Mu o) → Q z H') → r x vs H Q
def TyD (K : PySem.W.Frag) (T : String) (g : Dv → Bool) : Prop := ∀ (H : Hp) (x : V) (d : Dv) (G : List Addr), Rep K H x d G → g d = true → tyV K T x H
theorem dt_bm {T : String} {r : V → List V → Hp → VK → Prop} {nw : Bool} {f : Dv → List Dv → Option Dv} {g : Dv → Bool} (o : MtD K T r nw f) (ty : TyD K T g)
    (h : DT K B te env fun d1 f1 p1 env1 => g d1 = true ∧ DTA K B tr env1 fun rs p2 env2 => (f1 = .view → p2 = true) ∧ ∃ ds fl d, valsOf rs = some (ds, fl) ∧ f d1 ds = some d ∧ P d (flr nw d (flj f1 fl)) (p1 && p2) env2) : DT K B (tBM K T r te tr) env P := fun σ H G Q e q => by
  refine h σ H G _ e fun x H1 d1 f1 p1 env1 G1 Gx s1 rx fx ⟨hg, h1⟩ => ⟨ty H1 x d1 Gx rx hg, ?_⟩
  refine h1 σ H1 G1 _ s1.er fun vs H2 rs p2 env2 G2 Gvs s2 ar ⟨hv, ds, fl, d, hvs, hd, hP⟩ => ?_
  obtain ⟨rx2, fx2⟩ := pend s2 rx fx hv
  obtain ⟨rr, f'⟩ := ar.vals hvs
  refine o H2 x vs d1 ds d Gx _ _ rx2 rr hd fun z H3 Gz sm rz src new => ?_
  have s3 := (s1.trans s2).trans (.same s2.er sm)
  rw [Bool.and_true] at s3
  have back1 : ∀ a, H1 a = none → H a = none := s1.mv.stp.al
  refine q z H3 d _ _ env2 G2 Gz s3 rz (made s2.er (fun a k => back1 a (s2.mv.stp.al a k)) rz (fun a m k => ?_) new) hP
  rcases src a m with z | z | z
  · refine ⟨fun nv => fx2.cold (fun w => nv (by rw [w]; rfl)) a z, fx2.c3 a z⟩
  · refine ⟨fun nv => f'.cold (fun w => nv (by rw [w]; cases f1 <;> rfl)) a z, s1.back (Gv := Gz) (f'.c3 a z)⟩
  · exact (k z).elim
theorem dt_bm0 {T : String} {r : V → List V → Hp → VK → Prop} {nw : Bool} {f : Dv → List Dv → Option Dv} {g : Dv → Bool} (o : MtD K T r nw f) (ty : TyD K T g)
    (h : DT K B te env fun d1 f1 p1 env1 => g d1 = true ∧ ∃ d, f d1 [] = some d ∧ P d (flr nw d (flj f1 .fresh)) p1 env1) : DT K B (tBM0 K T r te) env P := fun σ H G Q e q => by
  refine h σ H G _ e fun x H1 d1 f1 p1 env1 G1 Gx s1 rx fx ⟨hg, d, hd, hP⟩ => ⟨ty H1 x d1 Gx rx hg, ?_⟩
  refine o H1 x [] d1 [] d Gx _ _ rx .nil hd fun z H3 Gz sm rz src new => ?_
  have s3 := s1.trans (.same s1.er sm)
  rw [Bool.and_true] at s3
  refine q z H3 d _ _ env1 G1 Gz s3 rz (made s1.er s1.mv.stp.al rz (fun a m k => ?_) new) hP
  rcases src a m with z | z | z
  · refine ⟨fun nv => fx.cold (fun w => nv (by rw [w]; rfl)) a z, fx.c3 a z⟩
  · cases z
  · exact (k z).elim
end

/-! ### statements -/
structure Ds where
  nx : List Sl → Prop
  rt : Dv → Fl → List Sl → Prop
  bk : List Sl → Prop := fun _ => False
  ct : List Sl → Prop := fun _ => False
def Pin (env : List Sl) (G : Nat → List Addr) (a : Addr) : Prop := ∃ (i : Nat) (d : Dv), env[i]? = some (.pi d) ∧ a ∈ G i
theorem Pin.hot {env : List Sl} {G : Nat → List Addr} {a : Addr} (h : Pin env G a) : Hot env G a := let ⟨i, d, e, m⟩ := h; ⟨i, _, e, rfl, m⟩
/-- a value handed back -/
structure Vr (B : Bs) (env : List Sl) (G : Nat → List Addr) (H : Hp) (fl : Fl) (Gv : List Addr) : Prop where
  cold : ∀ a ∈ Gv, ¬ Pin env G a
  fr : fl = .fresh → Gv.Nodup ∧ ∀ a ∈ Gv, B.He a = none ∧ ∃ o, H a = some o ∧ Mu o
  c3 : ∀ a ∈ Gv, All B.G0 a ∨ B.He a = none
structure Lk (K : PySem.W.Frag) (B : Bs) (env : List Sl) (G : Nat → List Addr) (H : Hp) (D : Ds) (E : Ends) : Prop where
  nx : ∀ σ' H' env' G', Mv env G H env' G' H' → EnvR K B σ' H' env' G' → D.nx env' → E.nx σ' H'
  bk : ∀ σ' H' env' G', Mv env G H env' G' H' → EnvR K B σ' H' env' G' → D.bk env' → E.bk σ' H'
  ct : ∀ σ' H' env' G', Mv env G H env' G' H' → EnvR K B σ' H' env' G' → D.ct env' → E.ct σ' H'
  rt : ∀ σ' H' env' G' v d fl Gv, Mv env G H env' G' H' → EnvR K B σ' H' env' G' → Rep K H' v d Gv → Vr B env' G' H' fl Gv → D.rt d fl env' → E.rt v H'
def DTS (K : PySem.W.Frag) (B : Bs) (ts : TS) (env : List Sl) (D : Ds) : Prop :=
  ∀ (σ : L2.St) (H : Hp) (G : Nat → List Addr) (E : Ends), EnvR K B σ H env G → Lk K B env G H D E → ts E σ H
section
variable {K : PySem.W.Frag} {B : Bs} {env : List Sl} {D : Ds} {ta tb te : TE} {t u : TS} {c : TT} {tr : TA}
theorem Lk.on {E : Ends} {G G1 : Nat → List Addr} {H H1 : Hp} {env1 : List Sl} (l : Lk K B env G H D E) (m : Mv env G H env1 G1 H1) : Lk K B env1 G1 H1 D E :=
  ⟨fun a b c d m2 => l.nx a b c d (m.trans m2), fun a b c d m2 => l.bk a b c d (m.trans m2), fun a b c d m2 => l.ct a b c d (m.trans m2), fun a b c d e f g h m2 => l.rt a b c d e f g h (m.trans m2)⟩
theorem dts_next (h : D.nx env) : DTS K B tNext env D := fun σ H G E e l => l.nx σ H env G .refl e h
theorem dts_brk (h : D.bk env) : DTS K B tBreak env D := fun σ H G E e l => l.bk σ H env G .refl e h
theorem dts_cont (h : D.ct env) : DTS K B tCont env D := fun σ H G E e l => l.ct σ H env G .refl e h
theorem dts_seq (h : DTS K B t env { D with nx := fun env1 => DTS K B u env1 D }) : DTS K B (tSeq t u) env D := fun σ H G E e l => by
  refine h σ H G { E with nx := u E } e ⟨fun σ' H' env' G' m e' h' => ?_, l.bk, l.ct, l.rt⟩
  exact h' σ' H' G' E e' (l.on m)
theorem dts_if (h : DTT K B c env fun b pu env1 => if b = true then DTS K B t env1 D else DTS K B u env1 D) : DTS K B (tIfS c t u) env D := fun σ H G E e l => by
  refine h σ H G _ e fun b H1 pu env1 G1 s h1 => ?_
  cases b with
  | true =>
    rw [if_pos rfl] at h1
    exact h1 σ H1 G1 E s.er (l.on s.mv)
  | false =>
    rw [if_neg Bool.false_ne_true] at h1
    exact h1 σ H1 G1 E s.er (l.on s.mv)
theorem dts_drop (h : DT K B te env fun _ _ _ env1 => D.nx env1) : DTS K B (tDrop te) env D := fun σ H G E e l => by
  refine h σ H G _ e fun v H1 d fl pu env1 G1 Gv s r f h1 => ?_
  exact l.nx σ H1 env1 G1 s.mv s.er h1
theorem dts_ret (h : DT K B te env fun d fl pu env1 => ef d fl ≠ .view ∧ D.rt d (ef d fl) env1) : DTS K B (tRet te) env D := fun σ H G E e l => by
  refine h σ H G _ e fun v H1 d fl pu env1 G1 Gv s r f ⟨nv, h1⟩ => ?_
  have f' := f.ef r
  refine l.rt σ H1 env1 G1 v d _ Gv s.mv s.er r ⟨fun a m z => f'.cold nv a m z.hot, fun fr => ⟨(f'.fr fr).1, fun a m => ⟨e.he a ((f'.fr fr).2 a m).1.1, ((f'.fr fr).2 a m).2⟩⟩, fun a m => ?_⟩ h1
  rcases f'.c3 a m with ⟨i, k⟩ | k
  · exact e.org i a k
  · exact .inr (e.he a k)
/-- one's own thing is handed back -/
theorem dts_retL {i : Nat} {d : Dv} (he : env[i]? = some (.ho d)) (h : D.rt d .fresh env) : DTS K B (tRet (tVar i)) env D := fun σ H G E e l => by
  obtain ⟨v, hv, r⟩ := e.rep i _ d he rfl
  refine ⟨v, hv, l.rt σ H env G v d .fresh (G i) .refl e r ⟨fun a m z => ?_, fun _ => ⟨e.nod i _ he rfl, fun a m => ⟨e.loc i d a he m, e.mu i _ a he rfl m⟩⟩, fun a m => e.org i a m⟩ h⟩
  obtain ⟨j, d', hj, mj⟩ := z
  have ne : i ≠ j := fun z => by subst z; rw [he] at hj; cases hj
  exact e.dis i j _ a ne he rfl m mj
/-- where no argument may change: whatever is handed back -/
theorem dts_retV (h : DT K B te env fun d fl pu env1 => (∀ (i : Nat) (d : Dv), env1[i]? ≠ some (.pi d)) ∧ D.rt d .cold env1) : DTS K B (tRet te) env D := fun σ H G E e l => by
  refine h σ H G _ e fun v H1 d fl pu env1 G1 Gv s r f ⟨np, h1⟩ => ?_
  refine l.rt σ H1 env1 G1 v d .cold Gv s.mv s.er r ⟨fun a m ⟨i, d, z, _⟩ => np i d z, fun fr => (nomatch fr), fun a m => ?_⟩ h1
  rcases f.c3 a m with ⟨i, k⟩ | k
  · exact e.org i a k
  · exact .inr (e.he a k)
theorem dts_retN (h : D.rt .non .fresh env) : DTS K B tRetN env D := fun σ H G E e l =>
  l.rt σ H env G .non .non .fresh [] .refl e .non ⟨fun a m => (nomatch m), fun _ => ⟨.nil, fun a m => (nomatch m)⟩, fun a m => (nomatch m)⟩ h

/-! stores -/
def setG (G : Nat → List Addr) (i : Nat) (g : List Addr) : Nat → List Addr := fun j => if j = i then g else G j
theorem setG_same {G : Nat → List Addr} {i : Nat} {g : List Addr} : setG G i g i = g := if_pos rfl
theorem setG_ne {G : Nat → List Addr} {i j : Nat} {g : List Addr} (h : j ≠ i) : setG G i g j = G j := if_neg h
def Sl.free : Sl → Bool
  | .pi _ => false
  | _ => true
theorem EnvR.set {σ : L2.St} {H : Hp} {G : Nat → List Addr} {i : Nat} {s s' : Sl} {v : V} {d : Dv} {Gv : List Addr} (e : EnvR K B σ H env G) (hi : env[i]? = some s) (hs : s.free = true) (hd : s'.dv = some d) (hp : s'.free = true) (r : Rep K H v d Gv)
    (cold : ∀ a ∈ Gv, ¬ Hot env G a) (fr : s'.hot = true → Gv.Nodup ∧ ∀ a ∈ Gv, (B.He a = none ∧ ¬ All G a) ∧ ∃ o, H a = some o ∧ Mu o) (c3 : ∀ a ∈ Gv, All B.G0 a ∨ B.He a = none) : EnvR K B (σ.set i (some v)) H (env.set i s') (setG G i Gv) := by
  have hlt : i < env.length := (List.getElem?_eq_some_iff.mp hi).1
  have hlt' : i < σ.length := by rw [e.len]; exact hlt
  have at_i : (env.set i s')[i]? = some s' := List.getElem?_set_self hlt
  have at_j : ∀ j, j ≠ i → (env.set i s')[j]? = env[j]? := fun j n => List.getElem?_set_ne (Ne.symm n)
  refine ⟨by rw [List.length_set, List.length_set]; exact e.len, fun j sj dj h1 h2 => ?_, fun j h => ?_, fun j sj h1 h2 => ?_, fun j k sj a n h1 h2 m => ?_, fun j dj h => ?_, fun j dj a h m => ?_, e.he, fun j a m => ?_, fun j dj a h m => ?_, fun j sj a h1 h2 m => ?_, fun j h => ?_⟩
  · by_cases n : j = i
    · subst n
      rw [at_i] at h1; cases h1
      rw [hd] at h2; cases h2
      rw [setG_same]
      exact ⟨v, List.getElem?_set_self hlt', r⟩
    · rw [at_j j n] at h1
      rw [setG_ne n, List.getElem?_set_ne (Ne.symm n)]
      exact e.rep j sj dj h1 h2
  · by_cases n : j = i
    · subst n
      rcases h with h | h
      · rw [at_i] at h; cases h; cases hd
      · rw [at_i] at h; cases h
    · rw [at_j j n] at h
      rw [setG_ne n]; exact e.non j h
  · by_cases n : j = i
    · subst n
      rw [at_i] at h1; cases h1
      rw [setG_same]; exact (fr h2).1
    · rw [at_j j n] at h1
      rw [setG_ne n]; exact e.nod j sj h1 h2
  · by_cases nj : j = i
    · subst nj
      rw [at_i] at h1; cases h1
      rw [setG_same] at m
      rw [setG_ne (Ne.symm n)]
      exact fun z => ((fr h2).2 a m).1.2 ⟨k, z⟩
    · rw [at_j j nj] at h1
      rw [setG_ne nj] at m
      by_cases nk : k = i
      · subst nk
        rw [setG_same]
        exact fun z => cold a z ⟨j, sj, h1, h2, m⟩
      · rw [setG_ne nk]
        exact e.dis j k sj a n h1 h2 m
  · by_cases n : j = i
    · subst n
      rw [at_i] at h; cases h; cases hp
    · rw [at_j j n] at h
      rw [List.getElem?_set_ne (Ne.symm n)]
      exact e.pin j dj h
  · by_cases n : j = i
    · subst n
      rw [at_i] at h; cases h
      rw [setG_same] at m
      exact ((fr rfl).2 a m).1.1
    · rw [at_j j n] at h
      rw [setG_ne n] at m
      exact e.loc j dj a h m
  · by_cases n : j = i
    · subst n
      rw [setG_same] at m
      exact c3 a m
    · rw [setG_ne n] at m
      exact e.org j a m
  · by_cases n : j = i
    · subst n
      rw [at_i] at h; cases h; cases hp
    · rw [at_j j n] at h
      rw [setG_ne n] at m
      exact e.pc j dj a h m
  · by_cases n : j = i
    · subst n
      rw [at_i] at h1; cases h1
      rw [setG_same] at m
      exact ((fr h2).2 a m).2
    · rw [at_j j n] at h1
      rw [setG_ne n] at m
      exact e.mu j sj a h1 h2 m
  · obtain ⟨dj, h'⟩ := e.kp j h
    have n : j ≠ i := fun z => by
      subst z
      rw [hi] at h'; cases h'; cases hs
    exact ⟨dj, by rw [at_j j n]; exact h'⟩
theorem EnvR.org' {σ : L2.St} {H : Hp} {G : Nat → List Addr} (e : EnvR K B σ H env G) {a : Addr} (h : All G a ∨ H a = none) : All B.G0 a ∨ B.He a = none := by
  rcases h with ⟨i, h⟩ | h
  · exact e.org i a h
  · exact .inr (e.he a h)
theorem hot_set {G : Nat → List Addr} {i : Nat} {s' : Sl} {Gv : List Addr} {a : Addr} (h : Hot (env.set i s') (setG G i Gv) a) : Hot env G a ∨ (s'.hot = true ∧ a ∈ Gv) := by
  obtain ⟨j, sj, h1, h2, m⟩ := h
  by_cases n : j = i
  · subst n
    rw [setG_same] at m
    by_cases hl : j < env.length
    · rw [List.getElem?_set_self hl] at h1; cases h1
      exact .inr ⟨h2, m⟩
    · rw [List.getElem?_eq_none (by rw [List.length_set]; exact Nat.not_lt.mp hl)] at h1; cases h1
  · rw [List.getElem?_set_ne (Ne.symm n)] at h1
    rw [setG_ne n] at m
    exact .inl ⟨j, sj, h1, h2, m⟩
/-- x = e; x holds what nobody changes -/
theorem dts_set {i : Nat} (h : DT K B te env fun d fl pu env1 => ef d fl ≠ .view ∧ (∃ s, env1[i]? = some s ∧ s.free = true) ∧ D.nx (env1.set i (.co d))) : DTS K B (tAsg te (gName i)) env D := fun σ H G E e l => by
  refine h σ H G _ e fun v H1 d fl pu env1 G1 Gv s r f ⟨nv, ⟨sl, hi, hs⟩, h1⟩ => ?_
  have f' := f.ef r
  refine l.nx _ H1 (env1.set i (.co d)) (setG G1 i Gv) (s.mv.trans ⟨.refl, fun a z => ?_⟩) (s.er.set hi hs rfl rfl r (f'.cold nv) (fun z => nomatch z) fun a m => e.org' (f'.c3 a m)) h1
  rcases hot_set z with z | ⟨z, _⟩
  · exact .inl z
  · cases z
/-- x = e; x is one's own, and may change -/
theorem dts_setH {i : Nat} (h : DT K B te env fun d fl pu env1 => ef d fl = .fresh ∧ (∃ s, env1[i]? = some s ∧ s.free = true) ∧ D.nx (env1.set i (.ho d))) : DTS K B (tAsg te (gName i)) env D := fun σ H G E e l => by
  refine h σ H G _ e fun v H1 d fl pu env1 G1 Gv s r f ⟨fr, ⟨sl, hi, hs⟩, h1⟩ => ?_
  have f' := f.ef r
  obtain ⟨nd, q⟩ := f'.fr fr
  have cold : ∀ a ∈ Gv, ¬ Hot env1 G1 a := fun a m z => (q a m).1.2 z.all
  have hm : Mv env G H (env1.set i (.ho d)) (setG G1 i Gv) H1 := ⟨s.mv.stp, fun a z => by
    rcases hot_set z with z | ⟨_, z⟩
    · exact s.mv.c1 a z
    · exact .inr (q a z).1.1⟩
  exact l.nx _ H1 (env1.set i (.ho d)) (setG G1 i Gv) hm (s.er.set hi hs rfl rfl r cold (fun _ => ⟨nd, fun a m => ⟨⟨e.he a (q a m).1.1, (q a m).1.2⟩, (q a m).2⟩⟩) fun a m => e.org' (f'.c3 a m)) h1
end
end Fd
namespace Fd
open PySem PySem.Spec PyProof.Rows L2

/-! ### what a def promises over deep data: which arguments may change; the arguments, then the value, its flag, the arguments behind -/
abbrev Fs := List Dv → (Dv → Fl → List Dv → Prop) → Prop
def argEnv : List Bool → List Dv → List Sl
  | m :: ms, d :: ds => (if m = true then .pi d else .co d) :: argEnv ms ds
  | _, _ => []
theorem argEnv_get : ∀ {ms : List Bool} {ds : List Dv} (i : Nat), ds.length = ms.length → (argEnv ms ds)[i]? = match ms[i]?, ds[i]? with
    | some m, some d => some (if m = true then .pi d else .co d)
    | _, _ => none
  | [], [], i, _ => by simp [argEnv]
  | m :: ms, d :: ds, 0, _ => by simp [argEnv]
  | m :: ms, d :: ds, i + 1, h => by
    have := argEnv_get (ms := ms) (ds := ds) i (by simpa using h)
    simpa [argEnv] using this
  | [], _ :: _, _, h => by simp at h
  | _ :: _, [], _, h => by simp at h
theorem argEnv_len : ∀ {ms : List Bool} {ds : List Dv}, ds.length = ms.length → (argEnv ms ds).length = ms.length
  | [], [], _ => rfl
  | m :: ms, d :: ds, h => congrArg (· + 1) (argEnv_len (ms := ms) (ds := ds) (by simpa using h))
  | [], _ :: _, h => by simp at h
  | _ :: _, [], h => by simp at h
def HotA (ms : List Bool) (G : Nat → List Addr) (a : Addr) : Prop := ∃ (i : Nat), ms[i]? = some true ∧ a ∈ G i
/-- behind a call -/
structure Pf (K : PySem.W.Frag) (ms : List Bool) (vs : List V) (ds : List Dv) (G : Nat → List Addr) (H : Hp) (v : V) (H' : Hp) (d : Dv) (fl : Fl) (ds' : List Dv) (G' : Nat → List Addr) (Gv : List Addr) : Prop where
  stp : Stp (HotA ms G) H H'
  c1 : ∀ (i : Nat) (a : Addr), ms[i]? = some true → a ∈ G' i → a ∈ G i ∨ H a = none
  ln : ds'.length = ds.length
  co : ∀ (i : Nat), ms[i]? = some false → ds'[i]? = ds[i]?
  ho : ∀ (i : Nat), ms[i]? = some true → ∃ v d, vs[i]? = some v ∧ ds'[i]? = some d ∧ Rep K H' v d (G' i)
  nod : ∀ (i : Nat), ms[i]? = some true → (G' i).Nodup
  dis : ∀ (i j : Nat) (a : Addr), i ≠ j → ms[i]? = some true → ms[j]? = some true → a ∈ G' i → a ∉ G' j
  rep : Rep K H' v d Gv
  cold : ∀ a ∈ Gv, ¬ HotA ms G' a
  fr : fl = .fresh → Gv.Nodup ∧ ∀ a ∈ Gv, H a = none ∧ ∃ o, H' a = some o ∧ Mu o
  mu : ∀ (i : Nat) (a : Addr), ms[i]? = some true → a ∈ G' i → ∃ o, H' a = some o ∧ Mu o
  c3 : ∀ a ∈ Gv, All G a ∨ H a = none
def spD (K : PySem.W.Frag) (ms : List Bool) (run : Fs) : Sp := fun vs H Q _ =>
  ∃ (ds : List Dv) (G : Nat → List Addr) (P : Dv → Fl → List Dv → Prop), vs.length = ms.length ∧ ds.length = ms.length ∧ EnvR K ⟨vs.map some, H, G, ms⟩ (vs.map some) H (argEnv ms ds) G ∧ run ds P ∧
    ∀ v H' d fl ds' G' Gv, Pf K ms vs ds G H v H' d fl ds' G' Gv → P d fl ds' → Q v H'
/-- the arguments behind, by the slots -/
def fin : List Bool → List Dv → List Sl → List Dv
  | m :: ms, d :: ds, s :: env => (if m = true then s.dv.getD d else d) :: fin ms ds env
  | _, ds, _ => ds
theorem fin_len : ∀ {ms : List Bool} {ds : List Dv} {env : List Sl}, (fin ms ds env).length = ds.length
  | m :: ms, d :: ds, s :: env => congrArg (· + 1) (fin_len (ms := ms) (ds := ds) (env := env))
  | [], ds, env => rfl
  | _ :: _, [], env => rfl
  | _ :: _, _ :: _, [] => rfl
theorem fin_get : ∀ {ms : List Bool} {ds : List Dv} {env : List Sl} (i : Nat), ds.length = ms.length → (ms[i]? = some false → (fin ms ds env)[i]? = ds[i]?) ∧ ∀ s d, ms[i]? = some true → env[i]? = some s → s.dv = some d → (fin ms ds env)[i]? = some d
  | [], ds, env, i, h => ⟨fun z => by simp at z, fun s d z => by simp at z⟩
  | m :: ms, [], env, i, h => by simp at h
  | m :: ms, d :: ds, [], i, h => ⟨fun _ => rfl, fun s d _ z => by simp at z⟩
  | m :: ms, d :: ds, s :: env, 0, h => ⟨fun z => by
      simp at z; subst z; rfl, fun s' d' z e k => by
      simp at z e; subst z; subst e
      show some (s.dv.getD d) = some d'
      rw [k]; rfl⟩
  | m :: ms, d :: ds, s :: env, i + 1, h => by
    have := fin_get (ms := ms) (ds := ds) (env := env) i (by simpa using h)
    simpa [fin] using this

section
variable {P : Program} {w : World} {K : PySem.W.Frag} {mg : Str → Option Value} {base : Heap}
/-- a def, by its body over deep data -/
theorem fn_spD {x qual : Str} {st : Stmt} {f : Addr} {fd : FuncData} {N ps : List Str} {k : Nat} {ms : List Bool} {run : Fs} (F : Fun K x qual st f fd) (S : FnScope N ps (defScope st)) (hm : ms.length = ps.length) (hN : ps.length ≤ N.length)
    (hbody : ∀ (cdv : Value) (A : Around) (outer : List Env) (s : Shared) (H : Hp) (E : XK), Room k (A.deeper (envOfC qual (defScope st) s.heap.objs.size f cdv)) →
      ∃ t, PSs (cxOf CX0 P w K mg base N qual (defScope st) f cdv A outer s H E).nox (defBody st) t ∧
        ∀ (B : Bs) (ds : List Dv) (R : Dv → Fl → List Dv → Prop), B.ms = ms → ds.length = ms.length → run ds R →
          DTS K B t (argEnv ms ds ++ List.replicate (N.length - ps.length) .no) { nx := fun env' => R .non .fresh (fin ms ds env'), rt := fun d fl env' => R d fl (fin ms ds env') }) :
    FnOk P w K mg base CX0 (k + 1) f fd ps (spD K ms run) := by
  refine F.ok S (fun vs H Q E h => ?_) (fun cdv A outer s H vs Q E hr h => ?_)
  · obtain ⟨ds, G, R, h1, _⟩ := h
    exact h1.trans hm
  · obtain ⟨ds, G, R, hv, hd, er, hrun, hq⟩ := h
    obtain ⟨t, ht, hbd⟩ := hbody cdv A outer s H E hr
    refine ⟨t, ht, ?_⟩
    have hl : vs.length = ps.length := hv.trans hm
    have hla : (argEnv ms ds).length = ms.length := argEnv_len hd
    have s_lt : ∀ i, i < ms.length → (start N vs)[i]? = (vs.map some)[i]? := fun i hi => by
      unfold L2.start; rw [List.getElem?_append_left (by rw [List.length_map]; omega)]
    have e_lt : ∀ i, i < ms.length → (argEnv ms ds ++ List.replicate (N.length - ps.length) Sl.no)[i]? = (argEnv ms ds)[i]? := fun i hi => by
      rw [List.getElem?_append_left (by omega)]
    have e_ge : ∀ i s, ms.length ≤ i → (argEnv ms ds ++ List.replicate (N.length - ps.length) Sl.no)[i]? = some s → s = .no := fun i s hi h => by
      rw [List.getElem?_append_right (by omega), List.getElem?_replicate] at h
      split at h
      · cases h; rfl
      · cases h
    have down : ∀ i s, (argEnv ms ds ++ List.replicate (N.length - ps.length) Sl.no)[i]? = some s → s ≠ .no → i < ms.length ∧ (argEnv ms ds)[i]? = some s := fun i s h n => by
      by_cases hi : i < ms.length
      · exact ⟨hi, by rw [← e_lt i hi]; exact h⟩
      · exact absurd (e_ge i s (Nat.not_lt.mp hi) h) n
    have er' : EnvR K ⟨start N vs, H, G, ms⟩ (start N vs) H (argEnv ms ds ++ List.replicate (N.length - ps.length) .no) G := by
      refine ⟨?_, fun i sl d h1 h2 => ?_, fun i h => ?_, fun i sl h1 h2 => ?_, fun i j sl a n h1 h2 m => ?_, fun i d h => rfl, fun i d a h m => ?_, fun a h => h, er.org, fun i d a h m => .inl m, fun i sl a h1 h2 m => ?_, fun i h => ?_⟩
      · unfold L2.start
        rw [List.length_append, List.length_append, List.length_map, List.length_replicate, List.length_replicate, hla]
        omega
      · obtain ⟨hi, h1⟩ := down i sl h1 (fun z => by subst z; cases h2)
        obtain ⟨v, k1, k2⟩ := er.rep i sl d h1 h2
        exact ⟨v, by rw [s_lt i hi]; exact k1, k2⟩
      · by_cases hi : i < ms.length
        · rw [e_lt i hi] at h; exact er.non i h
        · exact er.non i (.inr (List.getElem?_eq_none (by omega)))
      · obtain ⟨_, h1⟩ := down i sl h1 (fun z => by subst z; cases h2)
        exact er.nod i sl h1 h2
      · obtain ⟨_, h1⟩ := down i sl h1 (fun z => by subst z; cases h2)
        exact er.dis i j sl a n h1 h2 m
      · obtain ⟨_, h⟩ := down i _ h (fun z => nomatch z)
        exact er.loc i d a h m
      · obtain ⟨_, h1⟩ := down i sl h1 (fun z => by subst z; cases h2)
        exact er.mu i sl a h1 h2 m
      · obtain ⟨d, h'⟩ := er.kp i h
        have hi : i < ms.length := (List.getElem?_eq_some_iff.mp h).1
        exact ⟨d, by rw [e_lt i hi]; exact h'⟩
    have main : ∀ σ' H' env' G' v d fl Gv, Mv (argEnv ms ds ++ List.replicate (N.length - ps.length) Sl.no) G H env' G' H' → EnvR K ⟨start N vs, H, G, ms⟩ σ' H' env' G' → Rep K H' v d Gv → Vr ⟨start N vs, H, G, ms⟩ env' G' H' fl Gv → R d fl (fin ms ds env') → Q v H' := fun σ' H' env' G' v d fl Gv m e' r f hR => by
      have hot_in : ∀ a, Hot (argEnv ms ds ++ List.replicate (N.length - ps.length) Sl.no) G a → HotA ms G a := fun a ⟨i, sl, h1, h2, mm⟩ => by
        obtain ⟨hi, h1⟩ := down i sl h1 (fun z => by subst z; cases h2)
        refine ⟨i, ?_, mm⟩
        rw [argEnv_get i hd, List.getElem?_eq_getElem hi, List.getElem?_eq_getElem (by omega : i < ds.length)] at h1
        cases hb : ms[i] with
        | true => rw [List.getElem?_eq_getElem hi, hb]
        | false => rw [hb] at h1; cases h1; cases h2
      have pin_at : ∀ i, ms[i]? = some true → ∃ v d, vs[i]? = some v ∧ env'[i]? = some (.pi d) ∧ Rep K H' v d (G' i) := fun i hi => by
        obtain ⟨d, h1⟩ := e'.kp i hi
        obtain ⟨v, h2, r⟩ := e'.rep i _ d h1 rfl
        have h3 := e'.pin i d h1
        have lt : i < ms.length := (List.getElem?_eq_some_iff.mp hi).1
        rw [h2] at h3
        have h4 : some (some v) = (vs.map some)[i]? := h3.trans (s_lt i lt)
        rw [List.getElem?_map] at h4
        cases q : vs[i]? with
        | none => rw [q] at h4; cases h4
        | some v' => rw [q] at h4; cases h4; exact ⟨_, d, rfl, h1, r⟩
      refine hq v H' d fl _ G' Gv ⟨m.stp.mono hot_in, fun i a hi ma => ?_, fin_len, fun i hi => (fin_get i hd).1 hi, fun i hi => ?_, fun i hi => ?_, fun i j a n hi hj ma => ?_, r, fun a ma z => ?_, f.fr, fun i a hi ma => ?_, f.c3⟩ hR
      · obtain ⟨v', d', _, h1, _⟩ := pin_at i hi
        exact e'.pc i d' a h1 ma
      · obtain ⟨v', d', h0, h1, r'⟩ := pin_at i hi
        exact ⟨v', d', h0, (fin_get i hd).2 _ d' hi h1 rfl, r'⟩
      · obtain ⟨v', d', _, h1, _⟩ := pin_at i hi
        exact e'.nod i _ h1 rfl
      · obtain ⟨v', d', _, h1, _⟩ := pin_at i hi
        exact e'.dis i j _ a n h1 rfl ma
      · obtain ⟨i, hi, mi⟩ := z
        obtain ⟨v', d', _, h1, _⟩ := pin_at i hi
        exact f.cold a ma ⟨i, d', h1, mi⟩
      · obtain ⟨v', d', _, h1, _⟩ := pin_at i hi
        exact e'.mu i _ a h1 rfl ma
    refine hbd ⟨start N vs, H, G, ms⟩ ds R rfl hd hrun (start N vs) H G _ er' ⟨fun σ' H' env' G' m e' h => ?_, fun _ _ _ _ _ _ h => h.elim, fun _ _ _ _ _ _ h => h.elim, fun σ' H' env' G' v d fl Gv m e' r f h => main σ' H' env' G' v d fl Gv m e' r f h⟩
    exact main σ' H' env' G' .non .non .fresh [] m e' .non ⟨fun a m => (nomatch m), fun _ => ⟨.nil, fun a m => (nomatch m)⟩, fun a m => (nomatch m)⟩ h
end
end Fd
namespace Fd
open PySem PySem.Spec PyProof.Rows L2

/-! ### a call -/
inductive Fit (env : List Sl) (any : Bool) : List Bool → List Ar → List Dv → Prop
  | nil : Fit env any [] [] []
  | val {d : Dv} {fl : Fl} {ms : List Bool} {rs : List Ar} {ds : List Dv} : (any = true → fl ≠ .view) → Fit env any ms rs ds → Fit env any (false :: ms) (.val d fl :: rs) (d :: ds)
  | slt {j : Nat} {s : Sl} {d : Dv} {ms : List Bool} {rs : List Ar} {ds : List Dv} : env[j]? = some s → s.hot = true → s.dv = some d → Fit env any ms rs ds → Fit env any (true :: ms) (.slt j :: rs) (d :: ds)
  | new {d : Dv} {ms : List Bool} {rs : List Ar} {ds : List Dv} : Fit env any ms rs ds → Fit env any (true :: ms) (.val d .fresh :: rs) (d :: ds)
theorem Fit.lens {env : List Sl} {any : Bool} {ms : List Bool} {rs : List Ar} {ds : List Dv} (h : Fit env any ms rs ds) : rs.length = ms.length ∧ ds.length = ms.length := by
  induction h with
  | nil => exact ⟨rfl, rfl⟩
  | val _ _ ih => exact ⟨congrArg (· + 1) ih.1, congrArg (· + 1) ih.2⟩
  | slt _ _ _ _ ih => exact ⟨congrArg (· + 1) ih.1, congrArg (· + 1) ih.2⟩
  | new _ ih => exact ⟨congrArg (· + 1) ih.1, congrArg (· + 1) ih.2⟩
theorem Fit.get {env : List Sl} {any : Bool} {ms : List Bool} {rs : List Ar} {ds : List Dv} (h : Fit env any ms rs ds) : ∀ (i : Nat) (m : Bool), ms[i]? = some m → ∃ r d, rs[i]? = some r ∧ ds[i]? = some d ∧
    ((m = false ∧ ∃ fl, r = .val d fl ∧ (any = true → fl ≠ .view)) ∨ (m = true ∧ ∃ j s, r = .slt j ∧ env[j]? = some s ∧ s.hot = true ∧ s.dv = some d) ∨ (m = true ∧ r = .val d .fresh)) := by
  induction h with
  | nil => intro i m e; simp at e
  | @val d fl ms rs ds c _ ih =>
    intro i m e
    cases i with
    | zero => simp at e; subst e; exact ⟨_, _, rfl, rfl, .inl ⟨rfl, fl, rfl, c⟩⟩
    | succ i => exact ih i m (by simpa using e)
  | @slt j s d ms rs ds c1 c2 c3 _ ih =>
    intro i m e
    cases i with
    | zero => simp at e; subst e; exact ⟨_, _, rfl, rfl, .inr (.inl ⟨rfl, j, s, rfl, c1, c2, c3⟩)⟩
    | succ i => exact ih i m (by simpa using e)
  | @new d ms rs ds _ ih =>
    intro i m e
    cases i with
    | zero => simp at e; subst e; exact ⟨_, _, rfl, rfl, .inr (.inr ⟨rfl, rfl⟩)⟩
    | succ i => exact ih i m (by simpa using e)
def slots : List Ar → List Nat
  | [] => []
  | .slt j :: r => j :: slots r
  | .val _ _ :: r => slots r
theorem slots_mem : ∀ {rs : List Ar} {i j : Nat}, rs[i]? = some (.slt j) → j ∈ slots rs
  | [], i, j, h => by simp at h
  | .slt k :: r, 0, j, h => by simp at h; subst h; exact List.mem_cons_self
  | .val _ _ :: r, 0, j, h => by simp at h
  | .slt k :: r, i + 1, j, h => List.mem_cons_of_mem _ (slots_mem (by simpa using h))
  | .val _ _ :: r, i + 1, j, h => slots_mem (rs := r) (i := i) (by simpa using h)
theorem slots_inj : ∀ {rs : List Ar} {i i' j : Nat}, (slots rs).Nodup → rs[i]? = some (.slt j) → rs[i']? = some (.slt j) → i = i'
  | [], i, i', j, _, h, _ => by simp at h
  | .slt k :: r, 0, 0, j, _, _, _ => rfl
  | .slt k :: r, 0, i' + 1, j, n, h, h' => by
    simp at h; subst h
    exact absurd (slots_mem (rs := r) (i := i') (by simpa using h')) (List.nodup_cons.mp n).1
  | .slt k :: r, i + 1, 0, j, n, h, h' => by
    simp at h'; subst h'
    exact absurd (slots_mem (rs := r) (i := i) (by simpa using h)) (List.nodup_cons.mp n).1
  | .slt k :: r, i + 1, i' + 1, j, n, h, h' => congrArg (· + 1) (slots_inj (rs := r) (List.nodup_cons.mp n).2 (by simpa using h) (by simpa using h'))
  | .val _ _ :: r, 0, i', j, _, h, _ => by simp at h
  | .val _ _ :: r, i + 1, 0, j, _, _, h => by simp at h
  | .val _ _ :: r, i + 1, i' + 1, j, n, h, h' => congrArg (· + 1) (slots_inj (rs := r) n (by simpa using h) (by simpa using h'))
def putS (env : List Sl) (j : Nat) (d : Dv) : List Sl := match env[j]? with
  | some s => env.set j (s.put d)
  | none => env
/-- the slots behind a call -/
def upds : List Ar → List Dv → List Sl → List Sl
  | .slt j :: rs, d :: ds, env => upds rs ds (putS env j d)
  | .val _ _ :: rs, _ :: ds, env => upds rs ds env
  | _, _, env => env
theorem putS_ne {env : List Sl} {j k : Nat} {d : Dv} (h : k ≠ j) : (putS env j d)[k]? = env[k]? := by
  unfold putS
  split
  · exact List.getElem?_set_ne (Ne.symm h)
  · rfl
theorem putS_at {env : List Sl} {j : Nat} {d : Dv} {s : Sl} (h : env[j]? = some s) : (putS env j d)[j]? = some (s.put d) := by
  unfold putS
  rw [h]
  exact List.getElem?_set_self (List.getElem?_eq_some_iff.mp h).1
theorem putS_len {env : List Sl} {j : Nat} {d : Dv} : (putS env j d).length = env.length := by
  unfold putS
  split
  · exact List.length_set
  · rfl
theorem upds_len : ∀ {rs : List Ar} {ds : List Dv} {env : List Sl}, (upds rs ds env).length = env.length
  | .slt j :: rs, d :: ds, env => (upds_len (rs := rs) (ds := ds)).trans putS_len
  | .val _ _ :: rs, _ :: ds, env => upds_len (rs := rs) (ds := ds)
  | [], _, _ => rfl
  | .slt _ :: _, [], _ => rfl
  | .val _ _ :: _, [], _ => rfl
theorem upds_out : ∀ {rs : List Ar} {ds : List Dv} {env : List Sl} {k : Nat}, k ∉ slots rs → (upds rs ds env)[k]? = env[k]?
  | .slt j :: rs, d :: ds, env, k, h => by
    have h' : ¬ (k = j ∨ k ∈ slots rs) := fun z => h (List.mem_cons.mpr z)
    exact (upds_out (rs := rs) (ds := ds) fun z => h' (.inr z)).trans (putS_ne fun z => h' (.inl z))
  | .val _ _ :: rs, _ :: ds, env, k, h => upds_out (rs := rs) (ds := ds) h
  | [], _, _, _, _ => rfl
  | .slt _ :: _, [], _, _, _ => rfl
  | .val _ _ :: _, [], _, _, _ => rfl
theorem upds_at : ∀ {rs : List Ar} {ds : List Dv} {env : List Sl} {i j : Nat} {s : Sl} {d : Dv}, (slots rs).Nodup → rs[i]? = some (.slt j) → ds[i]? = some d → env[j]? = some s → (upds rs ds env)[j]? = some (s.put d)
  | [], _, _, i, j, s, d, _, h, _, _ => by simp at h
  | .slt k :: rs, [], env, i, j, s, d, _, _, h, _ => by simp at h
  | .val _ _ :: rs, [], env, i, j, s, d, _, _, h, _ => by simp at h
  | .slt k :: rs, d' :: ds, env, 0, j, s, d, n, h, h', e => by
    simp at h h'; subst h; subst h'
    exact (upds_out (rs := rs) (ds := ds) (List.nodup_cons.mp n).1).trans (putS_at e)
  | .slt k :: rs, d' :: ds, env, i + 1, j, s, d, n, h, h', e => by
    have h1 : rs[i]? = some (.slt j) := by simpa using h
    have ne : j ≠ k := fun z => (List.nodup_cons.mp n).1 (z ▸ slots_mem h1)
    exact upds_at (rs := rs) (ds := ds) (i := i) (List.nodup_cons.mp n).2 h1 (by simpa using h') ((putS_ne ne).trans e)
  | .val _ _ :: rs, d' :: ds, env, 0, j, s, d, n, h, h', e => by simp at h
  | .val _ _ :: rs, d' :: ds, env, i + 1, j, s, d, n, h, h', e => upds_at (rs := rs) (ds := ds) (i := i) n (by simpa using h) (by simpa using h') e
/-- the flag of a call's value -/
def anyView : List Ar → Bool
  | [] => false
  | .val _ .view :: _ => true
  | _ :: r => anyView r
theorem anyView_no : ∀ {rs : List Ar} {i : Nat} {d : Dv} {fl : Fl}, anyView rs = false → rs[i]? = some (.val d fl) → fl ≠ .view
  | [], i, d, fl, _, h => by simp at h
  | .val d' .view :: r, i, d, fl, n, _ => by cases n
  | .val d' .cold :: r, 0, d, fl, n, h => by simp at h; rw [← h.2]; exact fun z => nomatch z
  | .val d' .fresh :: r, 0, d, fl, n, h => by simp at h; rw [← h.2]; exact fun z => nomatch z
  | .slt j :: r, 0, d, fl, n, h => by simp at h
  | .val d' .cold :: r, i + 1, d, fl, n, h => anyView_no (rs := r) (i := i) n (by simpa using h)
  | .val d' .fresh :: r, i + 1, d, fl, n, h => anyView_no (rs := r) (i := i) n (by simpa using h)
  | .slt j :: r, i + 1, d, fl, n, h => anyView_no (rs := r) (i := i) n (by simpa using h)
def flc (rs : List Ar) (fl : Fl) : Fl := match fl with
  | .fresh => .fresh
  | _ => if anyView rs = true then .view else .cold
def noHot (ms : List Bool) : Bool := ms.all (!·)
theorem noHot_no {ms : List Bool} (h : noHot ms = true) (i : Nat) : ms[i]? ≠ some true := fun z => by
  have := List.all_eq_true.mp h true (List.mem_of_getElem? z)
  cases this
def posOf : List Ar → Nat → Option Nat
  | [], _ => none
  | .slt k :: r, j => if j = k then some 0 else (posOf r j).map (· + 1)
  | .val _ _ :: r, j => (posOf r j).map (· + 1)
theorem posOf_some : ∀ {rs : List Ar} {j i : Nat}, posOf rs j = some i → rs[i]? = some (.slt j)
  | [], j, i, h => by cases h
  | .slt k :: r, j, i, h => by
    unfold posOf at h
    by_cases e : j = k
    · rw [if_pos e] at h; cases h; rw [e]; rfl
    · rw [if_neg e] at h
      obtain ⟨i', h1, rfl⟩ := Option.map_eq_some_iff.mp h
      simpa using posOf_some h1
  | .val _ _ :: r, j, i, h => by
    unfold posOf at h
    obtain ⟨i', h1, rfl⟩ := Option.map_eq_some_iff.mp h
    simpa using posOf_some h1
theorem posOf_none : ∀ {rs : List Ar} {j : Nat}, posOf rs j = none → j ∉ slots rs
  | [], j, h => fun z => (nomatch z)
  | .slt k :: r, j, h => by
    unfold posOf at h
    by_cases e : j = k
    · rw [if_pos e] at h; cases h
    · rw [if_neg e] at h
      have h1 := posOf_none (Option.map_eq_none_iff.mp h)
      exact fun z => (List.mem_cons.mp z).elim e h1
  | .val _ _ :: r, j, h => posOf_none (rs := r) (Option.map_eq_none_iff.mp h)
section
variable {K : PySem.W.Frag} {B : Bs} {env env1 : List Sl} {σ : L2.St} {H H1 : Hp} {G G1 : Nat → List Addr} {ms : List Bool} {run : Fs} {rs : List Ar} {ds : List Dv} {vs : List V} {Gvs : List (List Addr)} {pu : Bool}
def gArg (rs : List Ar) (G1 : Nat → List Addr) (Gvs : List (List Addr)) (i : Nat) : List Addr := match rs[i]? with
  | some (.slt j) => G1 j
  | some (.val _ _) => Gvs.getD i []
  | none => []
theorem args_dj {H0 H : Hp} {Gs : Nat → List Addr} {G : Nat → List Addr} {vs : List V} {rs : List Ar} {Gvs : List (List Addr)} (h : Args K H0 Gs H σ env G vs rs Gvs) : ∀ (i k : Nat), i < k → ∀ (r r' : Ar) (Gv Gv' : List Addr), rs[i]? = some r → rs[k]? = some r' → Gvs[i]? = some Gv → Gvs[k]? = some Gv' →
    (r.fr = true ∨ r'.fr = true) → ∀ a ∈ Gv, a ∉ Gv' := by
  induction h with
  | nil => intro i k _ r r' Gv Gv' e; simp at e
  | cons h1 dj _ ih =>
    intro i k lt r r' Gv Gv' e1 e2 e3 e4 hf
    cases k with
    | zero => omega
    | succ k =>
      cases i with
      | zero =>
        simp at e1 e3
        subst e1 e3
        exact dj k r' Gv' (by simpa using e2) (by simpa using e4) hf
      | succ i => exact ih i k (by omega) r r' Gv Gv' (by simpa using e1) (by simpa using e2) (by simpa using e3) (by simpa using e4) hf
theorem put_dv {s : Sl} (d : Dv) : (s.put d).dv = some d := by cases s <;> rfl
theorem call_core (e : EnvR K B σ H env G) (s : Se K B σ env G H pu env1 G1 H1) (ar : Args K H G H1 σ env1 G1 vs rs Gvs) (ft : Fit env1 (!noHot ms) ms rs ds) (nd : (slots rs).Nodup) {P : Dv → Fl → Bool → List Sl → Prop} {Q : VK} {E : XK}
    (hrun : run ds fun d fl ds' => P d (flc rs fl) (pu && noHot ms) (upds rs ds' env1))
    (q : ∀ v H' d fl pu env' G' Gv, Se K B σ env G H pu env' G' H' → Rep K H' v d Gv → Vf H G env' G' H' fl Gv → P d fl pu env' → Q v H') : spD K ms run vs H1 Q E := by
  obtain ⟨l1, l2⟩ := ft.lens
  have lv : vs.length = ms.length := by rw [ar.lenV]; exact l1
  have back : ∀ a, H1 a = none → H a = none := s.mv.stp.al
  -- what stands at a place
  have at_ : ∀ i m, ms[i]? = some m → ∃ v d, vs[i]? = some v ∧ ds[i]? = some d ∧ Rep K H1 v d (gArg rs G1 Gvs i) ∧
      ((m = false ∧ ∃ fl, rs[i]? = some (.val d fl) ∧ (noHot ms = false → fl ≠ .view) ∧ Vf H G env1 G1 H1 fl (gArg rs G1 Gvs i)) ∨ (m = true ∧ ∃ j sl, rs[i]? = some (.slt j) ∧ env1[j]? = some sl ∧ sl.hot = true ∧ gArg rs G1 Gvs i = G1 j ∧ σ[j]? = some (some v)) ∨ (m = true ∧ rs[i]? = some (.val d .fresh) ∧ Vf H G env1 G1 H1 .fresh (gArg rs G1 Gvs i))) := fun i m hm => by
    obtain ⟨r, d, hr, hd, k⟩ := ft.get i m hm
    obtain ⟨v, Gv, hv, hg, ok⟩ := ar.get i r hr
    refine ⟨v, d, hv, hd, ?_⟩
    rcases k with ⟨hm, fl, rfl, c⟩ | ⟨hm, j, sl, rfl, c1, c2, c3⟩ | ⟨hm, rfl⟩
    · have hG : gArg rs G1 Gvs i = Gv := by unfold gArg; rw [hr]; show Gvs.getD i [] = Gv; rw [List.getD_eq_getElem?_getD, hg]; rfl
      rw [hG]
      exact ⟨ok.1, .inl ⟨hm, fl, hr, fun z => c (by rw [z]; rfl), ok.2⟩⟩
    · have hG : gArg rs G1 Gvs i = G1 j := by unfold gArg; rw [hr]
      obtain ⟨v', hv', r'⟩ := s.er.rep j sl d c1 c3
      have : v' = v := by
        have := hv'.symm.trans ok.1
        cases this; rfl
      subst this
      rw [hG]
      exact ⟨r', .inr (.inl ⟨hm, j, sl, hr, c1, c2, rfl, ok.1⟩)⟩
    · have hG : gArg rs G1 Gvs i = Gv := by unfold gArg; rw [hr]; show Gvs.getD i [] = Gv; rw [List.getD_eq_getElem?_getD, hg]; rfl
      rw [hG]
      exact ⟨ok.1, .inr (.inr ⟨hm, hr, ok.2⟩)⟩
  have out_ : ∀ i, ms[i]? = none → gArg rs G1 Gvs i = [] := fun i h => by
    have : rs[i]? = none := by
      rw [List.getElem?_eq_none_iff] at h ⊢; omega
    unfold gArg; rw [this]
  have al : ∀ i a, a ∈ gArg rs G1 Gvs i → ∃ o, H1 a = some o := fun i a m => by
    cases h : ms[i]? with
    | none => rw [out_ i h] at m; cases m
    | some b =>
      obtain ⟨v, d, _, _, r, _⟩ := at_ i b h
      exact r.alloc a m
  have gval : ∀ i d fl, rs[i]? = some (.val d fl) → Gvs[i]? = some (gArg rs G1 Gvs i) := fun i d fl hr => by
    obtain ⟨v, Gv, hv, hg, ok⟩ := ar.get i _ hr
    rw [hg]; unfold gArg; rw [hr]; show some Gv = some (Gvs.getD i []); rw [List.getD_eq_getElem?_getD, hg]; rfl
  have apart : ∀ i k a, i ≠ k → ms[i]? = some true → a ∈ gArg rs G1 Gvs i → a ∉ gArg rs G1 Gvs k := fun i k a n hi ma mk => by
    have hot : noHot ms = false := by
      cases h : noHot ms with
      | false => rfl
      | true => exact absurd hi (noHot_no h i)
    cases hk : ms[k]? with
    | none => rw [out_ k hk] at mk; cases mk
    | some b =>
      obtain ⟨_, _, _, _, _, ki⟩ := at_ i true hi
      obtain ⟨_, _, _, _, _, kk⟩ := at_ k b hk
      rcases ki with ⟨z, _⟩ | ⟨_, j, sl, hr, c1, c2, hG, _⟩ | ⟨_, hr, f⟩
      · cases z
      · rw [hG] at ma
        rcases kk with ⟨_, fl, hr2, c, f2⟩ | ⟨_, j2, sl2, hr2, d1, d2, hG2, _⟩ | ⟨_, hr2, f2⟩
        · exact f2.cold (c hot) a mk ⟨j, sl, c1, c2, ma⟩
        · rw [hG2] at mk
          have nj : j ≠ j2 := fun z => n (slots_inj nd hr (z ▸ hr2))
          exact s.er.dis j j2 sl a nj c1 c2 ma mk
        · exact ((f2.fr rfl).2 a mk).1.2 ⟨j, ma⟩
      · rcases kk with ⟨_, fl, hr2, c, f2⟩ | ⟨_, j2, sl2, hr2, d1, d2, hG2, _⟩ | ⟨_, hr2, f2⟩
        · rcases Nat.lt_or_gt_of_ne n with lt | gt
          · exact args_dj ar i k lt _ _ _ _ hr hr2 (gval i _ _ hr) (gval k _ _ hr2) (.inl rfl) a ma mk
          · exact args_dj ar k i gt _ _ _ _ hr2 hr (gval k _ _ hr2) (gval i _ _ hr) (.inr rfl) a mk ma
        · rw [hG2] at mk
          exact ((f.fr rfl).2 a ma).1.2 ⟨j2, mk⟩
        · rcases Nat.lt_or_gt_of_ne n with lt | gt
          · exact args_dj ar i k lt _ _ _ _ hr hr2 (gval i _ _ hr) (gval k _ _ hr2) (.inl rfl) a ma mk
          · exact args_dj ar k i gt _ _ _ _ hr2 hr (gval k _ _ hr2) (gval i _ _ hr) (.inr rfl) a mk ma
  -- the slot of a place
  have slt_ : ∀ i j, rs[i]? = some (.slt j) → ms[i]? = some true ∧ ∃ sl, env1[j]? = some sl ∧ sl.hot = true ∧ gArg rs G1 Gvs i = G1 j ∧ ∃ v d, vs[i]? = some v ∧ σ[j]? = some (some v) := fun i j hr => by
    have lt : i < ms.length := by
      have := (List.getElem?_eq_some_iff.mp hr).1; omega
    obtain ⟨v, d, hv, hd, _, k⟩ := at_ i ms[i] (List.getElem?_eq_getElem lt)
    rcases k with ⟨hm, fl, hr2, _⟩ | ⟨hm, j2, sl, hr2, c1, c2, hG, hs⟩ | ⟨hm, hr2, _⟩
    · rw [hr] at hr2; cases hr2
    · rw [hr] at hr2; cases hr2
      exact ⟨by rw [List.getElem?_eq_getElem lt, hm], sl, c1, c2, hG, v, d, hv, hs⟩
    · rw [hr] at hr2; cases hr2
  -- what may change in the call
  have hotA : ∀ a, HotA ms (gArg rs G1 Gvs) a → (∃ (i j : Nat) (sl : Sl), rs[i]? = some (.slt j) ∧ env1[j]? = some sl ∧ sl.hot = true ∧ a ∈ G1 j) ∨ (H a = none ∧ ¬ All G1 a) := fun a ⟨i, hi, m⟩ => by
    obtain ⟨_, _, _, _, _, k⟩ := at_ i true hi
    rcases k with ⟨z, _⟩ | ⟨_, j, sl, hr, c1, c2, hG, _⟩ | ⟨_, hr, f⟩
    · cases z
    · rw [hG] at m; exact .inl ⟨i, j, sl, hr, c1, c2, m⟩
    · exact .inr ((f.fr rfl).2 a m).1
  refine ⟨ds, gArg rs G1 Gvs, _, lv, l2, ⟨?_, fun i sl d h1 h2 => ?_, fun i h => ?_, fun i sl h1 h2 => ?_, fun i j sl a n h1 h2 m => ?_, fun i d h => rfl, fun i d a h m => ?_, fun a h => h, fun i a m => .inl ⟨i, m⟩, fun i d a h m => .inl m, fun i sl a h1 h2 m => ?_, fun i h => ?_⟩, hrun, fun v H2 d fl ds' Ga Gv pf hP => ?_⟩
  · rw [List.length_map, argEnv_len l2]; exact lv
  · have lt : i < ms.length := by
      have := (List.getElem?_eq_some_iff.mp h1).1
      rw [argEnv_len l2] at this; exact this
    obtain ⟨v, d', hv, hd, r, _⟩ := at_ i ms[i] (List.getElem?_eq_getElem lt)
    rw [argEnv_get i l2, List.getElem?_eq_getElem lt, hd] at h1
    have : d' = d := by
      cases h1
      cases hb : ms[i] <;> (rw [hb] at h2; cases h2; rfl)
    subst this
    exact ⟨v, by rw [List.getElem?_map, hv]; rfl, r⟩
  · cases hm : ms[i]? with
    | none => exact out_ i hm
    | some b =>
      obtain ⟨v, d', hv, hd, _⟩ := at_ i b hm
      rw [argEnv_get i l2, hm, hd] at h
      cases b <;> (rcases h with h | h <;> cases h)
  · cases hm : ms[i]? with
    | none => rw [out_ i hm]; exact .nil
    | some b =>
      obtain ⟨v, d', hv, hd, _, k⟩ := at_ i b hm
      rw [argEnv_get i l2, hm, hd] at h1
      rcases k with ⟨hb, _⟩ | ⟨_, j, sl2, hr, c1, c2, hG, _⟩ | ⟨_, hr, f⟩
      · subst hb; cases h1; cases h2
      · rw [hG]; exact s.er.nod j sl2 c1 c2
      · exact (f.fr rfl).1
  · have hi : ms[i]? = some true := by
      have lt : i < ms.length := by
        have := (List.getElem?_eq_some_iff.mp h1).1
        rw [argEnv_len l2] at this; exact this
      rw [argEnv_get i l2, List.getElem?_eq_getElem lt, List.getElem?_eq_getElem (by omega : i < ds.length)] at h1
      rw [List.getElem?_eq_getElem lt]
      cases hb : ms[i] with
      | true => rfl
      | false => rw [hb] at h1; cases h1; cases h2
    exact apart i j a n hi m
  · have lt : i < ms.length := by
      have := (List.getElem?_eq_some_iff.mp h).1
      rw [argEnv_len l2] at this; exact this
    rw [argEnv_get i l2, List.getElem?_eq_getElem lt, List.getElem?_eq_getElem (by omega : i < ds.length)] at h
    cases hb : ms[i] <;> (rw [hb] at h; cases h)
  · cases hm : ms[i]? with
    | none => rw [out_ i hm] at m; cases m
    | some b =>
      obtain ⟨v, d', hv, hd, _, k⟩ := at_ i b hm
      rw [argEnv_get i l2, hm, hd] at h1
      rcases k with ⟨hb, _⟩ | ⟨_, j, sl2, hr, c1, c2, hG, _⟩ | ⟨_, hr, f⟩
      · subst hb; cases h1; cases h2
      · rw [hG] at m; exact s.er.mu j sl2 a c1 c2 m
      · exact ((f.fr rfl).2 a m).2
  · have lt : i < ms.length := (List.getElem?_eq_some_iff.mp h).1
    refine ⟨ds[i]'(by omega), ?_⟩
    rw [argEnv_get i l2, h, List.getElem?_eq_getElem (by omega : i < ds.length)]; rfl
  -- behind the call
  have gN : ∀ j, posOf rs j = none → (upds rs ds' env1)[j]? = env1[j]? := fun j h => upds_out (posOf_none h)
  have gS : ∀ j i, posOf rs j = some i → ∃ sl d', env1[j]? = some sl ∧ sl.hot = true ∧ (upds rs ds' env1)[j]? = some (sl.put d') ∧ ms[i]? = some true ∧ gArg rs G1 Gvs i = G1 j ∧ ∃ v, σ[j]? = some (some v) ∧ Rep K H2 v d' (Ga i) := fun j i h => by
    obtain ⟨hm, sl, c1, c2, hG, v, _, hv, hs⟩ := slt_ i j (posOf_some h)
    obtain ⟨v', d', hv', hd', r'⟩ := pf.ho i hm
    rw [hv] at hv'; cases hv'
    exact ⟨sl, d', c1, c2, upds_at nd (posOf_some h) hd' c1, hm, hG, v, hs, r'⟩
  generalize hG2 : (fun j => match posOf rs j with | some i => Ga i | none => G1 j) = G2
  have g2N : ∀ j, posOf rs j = none → G2 j = G1 j := fun j h => by rw [← hG2]; show (match posOf rs j with | some i => Ga i | none => G1 j) = G1 j; rw [h]
  have g2S : ∀ j i, posOf rs j = some i → G2 j = Ga i := fun j i h => by rw [← hG2]; show (match posOf rs j with | some i => Ga i | none => G1 j) = Ga i; rw [h]
  generalize he2 : upds rs ds' env1 = env2 at gN gS hP
  have len2 : env2.length = env1.length := by rw [← he2]; exact upds_len
  -- what hangs on a slot now hung on it, or is new
  have from_ : ∀ j a, a ∈ G2 j → a ∈ G1 j ∨ H1 a = none := fun j a m => by
    cases h : posOf rs j with
    | none => rw [g2N j h] at m; exact .inl m
    | some i =>
      rw [g2S j i h] at m
      obtain ⟨sl, d', c1, c2, _, hm, hG, _⟩ := gS j i h
      rcases pf.c1 i a hm m with z | z
      · rw [hG] at z; exact .inl z
      · exact .inr z
  -- the kind of a slot
  have kind : ∀ (j : Nat) (sl2 : Sl), env2[j]? = some sl2 → ∃ sl : Sl, env1[j]? = some sl ∧ sl.hot = sl2.hot ∧ (∀ d, sl2 = .pi d → ∃ d', sl = .pi d') ∧ (∀ d, sl2 = .ho d → ∃ d', sl = .ho d') := fun j sl2 h2 => by
    cases h : posOf rs j with
    | none =>
      rw [gN j h] at h2
      exact ⟨sl2, h2, rfl, fun d z => ⟨d, z⟩, fun d z => ⟨d, z⟩⟩
    | some i =>
      obtain ⟨sl, d', c1, c2, e2, _⟩ := gS j i h
      rw [e2] at h2; cases h2
      refine ⟨sl, c1, ?_, fun d z => ?_, fun d z => ?_⟩
      · rw [c2, Sl.put_hot c2]
      · cases sl <;> first | exact ⟨_, rfl⟩ | cases z
      · cases sl with
        | no => cases c2
        | co d => cases c2
        | ho d => exact ⟨_, rfl⟩
        | pi d => cases z
  have alive1 : ∀ j a, a ∈ G1 j → H1 a ≠ none := fun j a m z => by
    obtain ⟨o, k⟩ := s.er.alloc m
    rw [z] at k; cases k
  have er2 : EnvR K B σ H2 env2 G2 := by
    refine ⟨s.er.len.trans len2.symm, fun j sl d h1 h2 => ?_, fun j h => ?_, fun j sl h1 h2 => ?_, fun j k sl a n h1 h2 m => ?_, fun j d h => ?_, fun j d a h m => ?_, fun a h => s.er.he a (pf.stp.al a h), fun j a m => ?_, fun j d a h m => ?_, fun j sl a h1 h2 m => ?_, fun j h => ?_⟩
    · cases h : posOf rs j with
      | none =>
        rw [gN j h] at h1
        obtain ⟨v, hv, r⟩ := s.er.rep j sl d h1 h2
        rw [g2N j h]
        refine ⟨v, hv, r.step pf.stp fun a m z => ?_⟩
        rcases hotA a z with ⟨i, j2, sl2, hr, c1, c2, m2⟩ | ⟨_, na⟩
        · have nj : j2 ≠ j := fun z => by
            subst z
            exact posOf_none h (slots_mem hr)
          exact s.er.dis j2 j sl2 a nj c1 c2 m2 m
        · exact na ⟨j, m⟩
      | some i =>
        obtain ⟨sl0, d', c1, c2, e2, hm, hG, v, hv, r⟩ := gS j i h
        rw [e2] at h1; cases h1
        rw [put_dv] at h2; cases h2
        rw [g2S j i h]
        exact ⟨v, hv, r⟩
    · cases h' : posOf rs j with
      | none => rw [gN j h'] at h; rw [g2N j h']; exact s.er.non j h
      | some i =>
        obtain ⟨sl0, d', c1, c2, e2, _⟩ := gS j i h'
        rcases h with h | h
        · rw [e2] at h
          cases sl0 with
          | no => cases c2
          | co d => cases c2
          | ho d =>
            have h : some (Sl.ho d') = some Sl.no := h
            cases h
          | pi d =>
            have h : some (Sl.pi d') = some Sl.no := h
            cases h
        · rw [e2] at h; cases h
    · cases h : posOf rs j with
      | none =>
        rw [gN j h] at h1; rw [g2N j h]
        exact s.er.nod j sl h1 h2
      | some i =>
        obtain ⟨_, _, _, _, _, hm, _⟩ := gS j i h
        rw [g2S j i h]; exact pf.nod i hm
    · intro m'
      obtain ⟨sl0, k1, k2, _⟩ := kind j sl h1
      rw [h2] at k2
      cases hj : posOf rs j with
      | some i =>
        cases hk : posOf rs k with
        | some i2 =>
          obtain ⟨_, _, _, _, _, hm, _⟩ := gS j i hj
          obtain ⟨_, _, _, _, _, hm2, _⟩ := gS k i2 hk
          rw [g2S j i hj] at m
          rw [g2S k i2 hk] at m'
          have : i ≠ i2 := fun z => by
            subst z
            have a1 := posOf_some hj
            rw [posOf_some hk] at a1
            cases a1; exact n rfl
          exact pf.dis i i2 a this hm hm2 m m'
        | none =>
          rw [g2N k hk] at m'
          rcases from_ j a m with z | z
          · exact s.er.dis j k sl0 a n k1 k2 z m'
          · exact alive1 k a m' z
      | none =>
        rw [g2N j hj] at m
        rcases from_ k a m' with z | z
        · exact s.er.dis j k sl0 a n k1 k2 m z
        · exact alive1 j a m z
    · obtain ⟨sl0, k1, _, k3, _⟩ := kind j _ h
      obtain ⟨d', k3⟩ := k3 d rfl
      subst k3
      exact s.er.pin j d' k1
    · obtain ⟨sl0, k1, _, _, k4⟩ := kind j _ h
      obtain ⟨d', k4⟩ := k4 d rfl
      subst k4
      rcases from_ j a m with z | z
      · exact s.er.loc j d' a k1 z
      · exact s.er.he a z
    · rcases from_ j a m with z | z
      · exact s.er.org j a z
      · exact .inr (s.er.he a z)
    · obtain ⟨sl0, k1, _, k3, _⟩ := kind j _ h
      obtain ⟨d', k3⟩ := k3 d rfl
      subst k3
      rcases from_ j a m with z | z
      · exact s.er.pc j d' a k1 z
      · exact .inr (s.er.he a z)
    · cases h : posOf rs j with
      | none =>
        rw [gN j h] at h1; rw [g2N j h] at m
        obtain ⟨o, k, mm⟩ := s.er.mu j sl a h1 h2 m
        refine ⟨o, pf.stp.keep a o k fun _ z => ?_, mm⟩
        rcases hotA a z with ⟨i, j2, sl2, hr, c1, c2, m2⟩ | ⟨_, na⟩
        · have nj : j2 ≠ j := fun z => by
            subst z
            exact posOf_none h (slots_mem hr)
          exact s.er.dis j2 j sl2 a nj c1 c2 m2 m
        · exact na ⟨j, m⟩
      | some i =>
        obtain ⟨_, _, _, _, _, hm, _⟩ := gS j i h
        rw [g2S j i h] at m
        exact pf.mu i a hm m
    · obtain ⟨d, h1⟩ := s.er.kp j h
      cases hj : posOf rs j with
      | none => exact ⟨d, by rw [gN j hj]; exact h1⟩
      | some i =>
        obtain ⟨sl0, d', c1, c2, e2, _⟩ := gS j i hj
        rw [h1] at c1; cases c1
        exact ⟨d', e2⟩
  have hot2 : ∀ a, Hot env2 G2 a → Hot env1 G1 a ∨ H1 a = none := fun a ⟨j, sl, h1, h2, m⟩ => by
    obtain ⟨sl0, k1, k2, _⟩ := kind j sl h1
    rcases from_ j a m with z | z
    · exact .inl ⟨j, sl0, k1, k2.trans h2, z⟩
    · exact .inr z
  have hotH : ∀ a, HotA ms (gArg rs G1 Gvs) a → Hot env G a ∨ H a = none := fun a z => by
    rcases hotA a z with ⟨i, j, sl, _, c1, c2, m⟩ | ⟨z, _⟩
    · exact s.mv.c1 a ⟨j, sl, c1, c2, m⟩
    · exact .inr z
  have se : Se K B σ env G H (pu && noHot ms) env2 G2 H2 := by
    refine ⟨⟨s.mv.stp.trans pf.stp hotH, fun a z => ?_⟩, fun a ⟨j, m⟩ => ?_, fun j sl h1 h2 => ?_, fun j sl h1 h2 => ?_, len2.trans s.ln, er2, fun hp => ?_⟩
    · rcases hot2 a z with z | z
      · exact s.mv.c1 a z
      · exact .inr (back a z)
    · rcases from_ j a m with z | z
      · exact s.c2 a ⟨j, z⟩
      · exact .inr (back a z)
    · obtain ⟨k1, k2⟩ := s.cs j sl h1 h2
      cases hj : posOf rs j with
      | none => exact ⟨by rw [gN j hj]; exact k1, by rw [g2N j hj]; exact k2⟩
      | some i =>
        obtain ⟨sl0, d', c1, c2, _⟩ := gS j i hj
        rw [k1] at c1; cases c1
        rw [h2] at c2; cases c2
    · obtain ⟨d, k1⟩ := s.hs j sl h1 h2
      cases hj : posOf rs j with
      | none => exact ⟨d, by rw [gN j hj]; exact k1⟩
      | some i =>
        obtain ⟨sl0, d', c1, c2, e2, _⟩ := gS j i hj
        rw [k1] at c1; cases c1
        rw [Sl.put_put] at e2
        exact ⟨d', e2⟩
    · obtain ⟨p1, p2⟩ := Bool.and_eq_true_iff.mp hp
      obtain ⟨q1, q2, q3⟩ := s.pr p1
      have nS : ∀ j, posOf rs j = none := fun j => by
        cases hj : posOf rs j with
        | none => rfl
        | some i =>
          obtain ⟨_, _, _, _, _, hm, _⟩ := gS j i hj
          exact absurd hm (noHot_no p2 i)
      refine ⟨q1.trans (pf.stp.to_same fun a ⟨i, hi, _⟩ => noHot_no p2 i hi), ?_, ?_⟩
      · rw [← q2]
        exact List.ext_getElem? fun j => gN j (nS j)
      · rw [← q3]
        exact funext fun j => g2N j (nS j)
  have alR : ∀ a ∈ Gv, H2 a ≠ none := fun a m z => by
    obtain ⟨o, k⟩ := pf.rep.alloc a m
    rw [z] at k; cases k
  refine q v H2 d (flc rs fl) _ env2 G2 Gv se pf.rep ⟨fun nv a m z => ?_, fun hf => ?_, fun a m => ?_⟩ hP
  · obtain ⟨j, sl, h1, h2, mj⟩ := z
    obtain ⟨sl0, k1, k2, _⟩ := kind j sl h1
    rw [h2] at k2
    cases hj : posOf rs j with
    | some i =>
      obtain ⟨_, _, _, _, _, hm, _⟩ := gS j i hj
      rw [g2S j i hj] at mj
      exact pf.cold a m ⟨i, hm, mj⟩
    | none =>
      rw [g2N j hj] at mj
      rcases pf.c3 a m with ⟨i, mi⟩ | z
      · cases hm : ms[i]? with
        | none => rw [out_ i hm] at mi; cases mi
        | some b =>
          obtain ⟨_, _, _, _, _, k⟩ := at_ i b hm
          rcases k with ⟨hb, fl', hr, c, f⟩ | ⟨_, j2, sl2, hr, c1, c2, hG, _⟩ | ⟨_, hr, f⟩
          · have hfl : fl = .fresh ∨ anyView rs = false := by
              cases hv : anyView rs with
              | false => exact .inr rfl
              | true =>
                left
                cases fl with
                | fresh => rfl
                | cold => exact absurd (show flc rs .cold = .view by unfold flc; simp only; rw [hv]; rfl) nv
                | view => exact absurd (show flc rs .view = .view by unfold flc; simp only; rw [hv]; rfl) nv
            rcases hfl with hfl | hfl
            · exact alive1 j a mj ((pf.fr hfl).2 a m).1
            · exact f.cold (anyView_no hfl hr) a mi ⟨j, sl0, k1, k2, mj⟩
          · rw [hG] at mi
            have nj : j2 ≠ j := fun z => by
              subst z
              exact posOf_none hj (slots_mem hr)
            exact s.er.dis j2 j sl2 a nj c1 c2 mi mj
          · exact ((f.fr rfl).2 a mi).1.2 ⟨j, mj⟩
      · exact alive1 j a mj z
  · have hfl : fl = .fresh := by
      cases fl with
      | fresh => rfl
      | cold => unfold flc at hf; simp only at hf; split at hf <;> cases hf
      | view => unfold flc at hf; simp only at hf; split at hf <;> cases hf
    obtain ⟨n, q⟩ := pf.fr hfl
    refine ⟨n, fun a m => ⟨⟨back a (q a m).1, fun ⟨j, mj⟩ => ?_⟩, (q a m).2⟩⟩
    cases hj : posOf rs j with
    | some i =>
      obtain ⟨_, _, _, _, _, hm, _⟩ := gS j i hj
      rw [g2S j i hj] at mj
      exact pf.cold a m ⟨i, hm, mj⟩
    | none =>
      rw [g2N j hj] at mj
      exact alive1 j a mj (q a m).1
  · rcases pf.c3 a m with ⟨i, mi⟩ | z
    · cases hm : ms[i]? with
      | none => rw [out_ i hm] at mi; cases mi
      | some b =>
        obtain ⟨_, _, _, _, _, k⟩ := at_ i b hm
        rcases k with ⟨hb, fl', hr, c, f⟩ | ⟨_, j2, sl2, hr, c1, c2, hG, _⟩ | ⟨_, hr, f⟩
        · exact f.c3 a mi
        · rw [hG] at mi; exact s.c2 a ⟨j2, mi⟩
        · exact f.c3 a mi
    · exact .inr (back a z)
/-- f(..) -/
theorem dt_call {sp : Sp} {E : XK} {tr : TA} {env : List Sl} {P : Dv → Fl → Bool → List Sl → Prop} (hsp : sp = spD K ms run)
    (h : DTA K B tr env fun rs pu env1 => ∃ ds, Fit env1 (!noHot ms) ms rs ds ∧ (slots rs).Nodup ∧ run ds fun d fl ds' => P d (flc rs fl) (pu && noHot ms) (upds rs ds' env1)) : DT K B (tCall sp [] E tr) env P := fun σ H G Q e q => by
  subst hsp
  refine h σ H G _ e fun vs H1 rs pu env1 G1 Gvs s ar ⟨ds, ft, nd, hrun⟩ => ?_
  show spD K ms run (vs ++ []) H1 Q E
  rw [List.append_nil]
  exact call_core e s ar ft nd hrun q
end
end Fd
namespace Fd
open PySem PySem.Spec PyProof.Rows L2

/-! ### operators of every kind -/
section
variable {X : Cx}
theorem PE_or {e : Expr} {t u : TE} (a : PE X e t) (b : PE X e u) : PE X e (fun σ H Q => t σ H Q ∨ u σ H Q) := ⟨fun pins s σ H Q I h => by
  rcases h with h | h
  · exact a.run pins s σ H Q I h
  · exact b.run pins s σ H Q I h⟩
theorem PT_or {e : Expr} {t u : TT} (a : PT X e t) (b : PT X e u) : PT X e (fun σ H Q => t σ H Q ∨ u σ H Q) := ⟨fun pins s σ H Q I h => by
  rcases h with h | h
  · exact a.run pins s σ H Q I h
  · exact b.run pins s σ H Q I h⟩
theorem PS_or {e : Stmt} {t u : TS} (a : PS X e t) (b : PS X e u) : PS X e (fun D σ H => t D σ H ∨ u D σ H) := ⟨fun pins s σ H Q I h => by
  rcases h with h | h
  · exact a.run pins s σ H Q I h
  · exact b.run pins s σ H Q I h⟩
theorem CallR_or {f : Value} {r r' : List V → Hp → VK → Prop} (h : CallR X f r) (h' : CallR X f r') : CallR X f (fun xs H Q => r xs H Q ∨ r' xs H Q) := by
  intro pins s σ H xs us Q I rx q
  rcases q with q | q
  · exact h pins s σ H xs us Q I rx q
  · exact h' pins s σ H xs us Q I rx q
theorem IxR_or {r r' : R2} (h : IxR X r) (h' : IxR X r') : IxR X (fun x y H Q => r x y H Q ∨ r' x y H Q) := h.or h'
theorem SlR_or {r r' : V → Option Int → Option Int → Hp → VK → Prop} (h : SlR X r) (h' : SlR X r') : SlR X (fun x l u H Q => r x l u H Q ∨ r' x l u H Q) := by
  intro pins s σ H x v vl vu lo hi sl Q I rx hs pl pu q
  rcases q with q | q
  · exact h pins s σ H x v vl vu lo hi sl Q I rx hs pl pu q
  · exact h' pins s σ H x v vl vu lo hi sl Q I rx hs pl pu q
end
section
variable {K : PySem.W.Frag} {H : Hp}
theorem OpD.or {r r' : R2} {nw : Bool} {f f' : Dv → Dv → Option Dv} (a : OpD K r nw f) (b : OpD K r' nw f') : OpD K (fun x y H Q => r x y H Q ∨ r' x y H Q) nw (fun d e => (f d e).or (f' d e)) := fun H x y d1 d2 d G1 G2 Q r1 r2 e q => by
  cases h : f d1 d2 with
  | some z =>
    have e : (f d1 d2).or (f' d1 d2) = some d := e
    rw [h] at e
    exact .inl (a H x y d1 d2 d G1 G2 Q r1 r2 (by rw [h]; exact e) q)
  | none =>
    have e : (f d1 d2).or (f' d1 d2) = some d := e
    rw [h] at e
    exact .inr (b H x y d1 d2 d G1 G2 Q r1 r2 (by exact e) q)
theorem ite_some {α : Type} {C : Prop} [Decidable C] {a b : α} (h : (if C then some a else none) = some b) : C ∧ a = b := by
  by_cases c : C
  · rw [if_pos c] at h; exact ⟨c, Option.some.inj h⟩
  · rw [if_neg c] at h; cases h
/-! scalars -/
def intOp (g : Int → Int → Dv) : Dv → Dv → Option Dv
  | .int a, .int b => some (g a b)
  | _, _ => none
def intOpC (C : Int → Int → Prop) [∀ a b, Decidable (C a b)] (g : Int → Int → Dv) : Dv → Dv → Option Dv
  | .int a, .int b => if C a b then some (g a b) else none
  | _, _ => none
theorem opD_int {g : Int → Int → V} {g' : Int → Int → Dv} (hr : ∀ i j H, Rep K H (g i j) (g' i j) []) {nw : Bool} : OpD K (rI0 g) nw (intOp g') := fun H x y d1 d2 d G1 G2 Q r1 r2 e q => by
  cases r1 <;> first | cases e | skip
  cases r2 <;> first | cases e | skip
  exact ⟨_, _, rfl, rfl, q _ H [] (.refl H) (hr _ _ H) (fun a m => (nomatch m)) fun _ _ => ⟨.nil, fun a m => (nomatch m)⟩⟩
theorem opD_intC {C : Int → Int → Prop} [∀ a b, Decidable (C a b)] {g : Int → Int → V} {g' : Int → Int → Dv} (hr : ∀ i j H, Rep K H (g i j) (g' i j) []) {nw : Bool} : OpD K (rI C g) nw (intOpC C g') := fun H x y d1 d2 d G1 G2 Q r1 r2 e q => by
  cases r1 with
  | int i =>
    cases r2 with
    | int j =>
      obtain ⟨hc, rfl⟩ := ite_some (C := C i j) e
      exact ⟨_, _, rfl, rfl, hc, q _ H [] (.refl H) (hr _ _ H) (fun a m => (nomatch m)) fun _ _ => ⟨.nil, fun a m => (nomatch m)⟩⟩
    | _ => cases e
  | _ => cases e
def strOp (g : Str → Str → Dv) : Dv → Dv → Option Dv
  | .str a, .str b => some (g a b)
  | _, _ => none
theorem opD_str {g : Str → Str → V} {g' : Str → Str → Dv} (hr : ∀ i j H, Rep K H (g i j) (g' i j) []) {nw : Bool} : OpD K (fun x y H Q => ∃ i j, x = .str i ∧ y = .str j ∧ Q (g i j) H) nw (strOp g') := fun H x y d1 d2 d G1 G2 Q r1 r2 e q => by
  cases r1 <;> first | cases e | skip
  cases r2 <;> first | cases e | skip
  exact ⟨_, _, rfl, rfl, q _ H [] (.refl H) (hr _ _ H) (fun a m => (nomatch m)) fun _ _ => ⟨.nil, fun a m => (nomatch m)⟩⟩
/-! + -/
def rAddA (K : PySem.W.Frag) : R2 := fun x y H Q => (rI0 fun i j => .int (i + j)) x y H Q ∨ (∃ i j, x = .str i ∧ y = .str j ∧ i.length + j.length ≤ sizeLine ∧ Q (.str (i ++ j)) H) ∨ rCat x y H Q ∨ rCatA K x y H Q
theorem op_addA {X : Cx} : OpR X (binaryOp .Add) (rAddA X.K) := op_add.or (op_add_str.or (op_cat.or op_catA))
def addD : Dv → Dv → Option Dv
  | .int a, .int b => some (.int (a + b))
  | .str a, .str b => if a.length + b.length ≤ sizeLine then some (.str (a ++ b)) else none
  | .lst a, .lst b => if a.length + b.length ≤ sizeLine then some (.lst (a ++ b)) else none
  | .tup a, .tup b => if a.length + b.length ≤ sizeLine then some (.tup (a ++ b)) else none
  | _, _ => none
theorem purs_app (a b : List Dv) : Dv.purs (a ++ b) = (Dv.purs a && Dv.purs b) := by
  rw [purs_all, purs_all, purs_all, List.all_append]
theorem opD_add : OpD K (rAddA K) true addD := fun H x y d1 d2 d G1 G2 Q r1 r2 e q => by
  cases r1 with
  | int i =>
    cases r2 with
    | int j =>
      cases e
      exact .inl ⟨_, _, rfl, rfl, q _ H [] (.refl H) (.int _) (fun a m => (nomatch m)) fun _ _ => ⟨.nil, fun a m => (nomatch m)⟩⟩
    | _ => cases e
  | str i =>
    cases r2 with
    | str j =>
      obtain ⟨hc, rfl⟩ := ite_some (C := i.length + j.length ≤ sizeLine) e
      exact .inr (.inl ⟨_, _, rfl, rfl, hc, q _ H [] (.refl H) (.str _) (fun a m => (nomatch m)) fun _ _ => ⟨.nil, fun a m => (nomatch m)⟩⟩)
    | _ => cases e
  | @lst a xs ds g ha ra =>
    cases r2 with
    | @lst b ys es g' hb rb =>
      obtain ⟨hc, rfl⟩ := ite_some (C := ds.length + es.length ≤ sizeLine) e
      refine .inr (.inr (.inl ⟨a, b, xs, ys, rfl, rfl, ha, hb, by rw [ra.len, rb.len]; exact hc, fun p hp => ?_⟩))
      have sm : Same H (upd H p (.lst (xs ++ ys))) := same_new hp
      refine q _ _ (p :: (g ++ g')) sm (.lst upd_same ((ra.app rb).step (M := fun _ => False) (.same sm) fun _ _ z => z)) (fun a m => ?_) (fun _ hs => ?_)
      · rcases List.mem_cons.mp m with rfl | m
        · exact .inr (.inr hp)
        · rcases List.mem_append.mp m with m | m
          · exact .inl (List.mem_cons_of_mem _ m)
          · exact .inr (.inl (List.mem_cons_of_mem _ m))
      · have hs : Dv.purs (ds ++ es) = true := hs
        have := (ra.app rb).purG hs
        rw [this]
        exact ⟨List.nodup_cons.mpr ⟨fun m => (nomatch m), .nil⟩, fun a m => by
          rcases List.mem_cons.mp m with rfl | m
          · exact ⟨hp, _, upd_same, True.intro⟩
          · cases m⟩
    | _ => cases e
  | @tup a xs ds g ha0 ra =>
    have ha := ha0.sq
    cases r2 with
    | @tup b ys es g' hb0 rb =>
      have hb := hb0.sq
      obtain ⟨hc, rfl⟩ := ite_some (C := ds.length + es.length ≤ sizeLine) e
      refine .inr (.inr (.inr ⟨a, b, xs, ys, rfl, rfl, ha, hb, by rw [ra.len, rb.len]; exact hc, fun h0 => ?_, fun h0 h1 => ?_, fun h0 h1 p hp => ?_⟩))
      · subst h0
        cases ra
        exact q _ H _ (.refl H) (.tup hb0 rb) (fun a m => .inr (.inl m)) fun _ hs => by
          rw [rb.purG hs]; exact ⟨.nil, fun a m => (nomatch m)⟩
      · subst h1
        cases rb
        refine q _ H _ (.refl H) ?_ (fun a m => .inl m) fun _ hs => ?_
        · rw [List.append_nil]; exact .tup ha0 ra
        · have hs : Dv.purs (ds ++ []) = true := hs
          rw [List.append_nil] at hs
          rw [ra.purG hs]; exact ⟨.nil, fun a m => (nomatch m)⟩
      · have sm : Same H (upd H p (.tup (xs ++ ys))) := same_new hp
        refine q _ _ _ sm (.tup (.inl upd_same) ((ra.app rb).step (M := fun _ => False) (.same sm) fun _ _ z => z)) (fun a m => ?_) (fun _ hs => ?_)
        · rcases List.mem_append.mp m with m | m
          · exact .inl m
          · exact .inr (.inl m)
        · have hs : Dv.purs (ds ++ es) = true := hs
          rw [(ra.app rb).purG hs]
          exact ⟨.nil, fun a m => (nomatch m)⟩
    | _ => cases e
  | _ => cases e
/-! x[i] -/
def rIxA (K : PySem.W.Frag) : R2 := rIx K
def ixD : Dv → Dv → Option Dv
  | .lst xs, .int i => atI xs i
  | .tup xs, .int i => atI xs i
  | .frl xs, .int i => (atI xs i).map .int
  | .str z, .int i => if z.length ≤ sizeLine then (atI z.cps.toList i).map fun c => .str ⟨#[c]⟩ else none
  | _, _ => none
theorem atI_get {α : Type} {xs : List α} {i : Int} {v : α} (h : atI xs i = some v) : ∃ j, ixN xs.length i = some j ∧ xs[j]? = some v := by
  unfold atI at h
  cases e : ixN xs.length i with
  | none => rw [e] at h; cases h
  | some j => rw [e] at h; exact ⟨j, rfl, h⟩
theorem atI_of {α : Type} {xs : List α} {i : Int} {v : α} {j : Nat} (h : ixN xs.length i = some j) (e : xs[j]? = some v) : atI xs i = some v := by
  unfold atI; rw [h]; exact e
theorem opD_ix : OpD K (rIx K) false ixD := fun H x y d1 d2 d G1 G2 Q r1 r2 e q => by
  cases r1 with
  | @lst a xs ds g ha ra =>
    cases r2 <;> first | cases e | skip
    obtain ⟨j, hj, hd⟩ := atI_get (show atI ds _ = some d from e)
    obtain ⟨v, G', hv, rv, m⟩ := ra.getD j d hd
    refine .inl ⟨a, xs, _, v, rfl, rfl, (SqL.of ha), atI_of (by rw [ra.len]; exact hj) hv, q v H G' (.refl H) rv (fun b k => .inl (List.mem_cons_of_mem _ (m b k))) (fun z => nomatch z)⟩
  | @tup a xs ds g ha0 ra =>
    have ha := ha0.sq
    cases r2 <;> first | cases e | skip
    obtain ⟨j, hj, hd⟩ := atI_get (show atI ds _ = some d from e)
    obtain ⟨v, G', hv, rv, m⟩ := ra.getD j d hd
    refine .inr (.inl ⟨a, xs, _, v, rfl, rfl, ha, atI_of (by rw [ra.len]; exact hj) hv, q v H G' (.refl H) rv (fun b k => .inl (m b k)) (fun z => nomatch z)⟩)
  | @frl a ns h =>
    cases r2 <;> first | cases e | skip
    rename_i i
    obtain ⟨n, hn, rfl⟩ := Option.map_eq_some_iff.mp (show (atI ns i).map Dv.int = some d from e)
    obtain ⟨j, hj, hd⟩ := atI_get hn
    exact .inl ⟨a, _, i, .int n, rfl, rfl, h.sq, atI_of (j := j) (by rw [List.length_map]; exact hj) (by rw [List.getElem?_map, hd]; rfl), q _ H [] (.refl H) (.int n) (fun b k => (nomatch k)) (fun z => nomatch z)⟩
  | str z =>
    cases r2 <;> first | cases e | skip
    rename_i i
    have e : (if z.length ≤ sizeLine then (atI z.cps.toList i).map (fun c => Dv.str ⟨#[c]⟩) else none) = some d := e
    by_cases hz : z.length ≤ sizeLine
    · rw [if_pos hz] at e
      obtain ⟨c, hc, rfl⟩ := Option.map_eq_some_iff.mp e
      exact .inr (.inr ⟨z, i, c, rfl, rfl, hz, hc, q _ H [] (.refl H) (.str _) (fun b k => (nomatch k)) (fun z => nomatch z)⟩)
    · rw [if_neg hz] at e; cases e
  | _ => cases e
/-! == and != of what is no dict and no object -/
mutual
def pyD : Dv → Option PyData
  | .non => some .none
  | .bl b => some (.bool b)
  | .int i => some (.int i)
  | .str x => some (.str x)
  | .tup xs => (pyDs xs).map .tuple
  | .lst xs => (pyDs xs).map .list
  | .frl ns => some (.list (ns.map .int))
  | .dct _ => none
  | .dctT _ => none
  | .obj _ _ => none
def pyDs : List Dv → Option (List PyData)
  | [] => some []
  | d :: ds => match pyD d, pyDs ds with
    | some p, some ps => some (p :: ps)
    | _, _ => none
end
theorem dpAll_ints {K : PySem.W.Frag} {H : Hp} : ∀ ns : List Int, DpAll K H (ns.map V.int) (ns.map .int)
  | [] => .nil
  | n :: ns => .cons (.int n) (dpAll_ints ns)
mutual
theorem Rep.dp {v : V} {d : Dv} {G : List Addr} {p : PyData} : Rep K H v d G → pyD d = some p → Dp K H v p
  | .non, e => by cases e; exact .non
  | .bl b, e => by cases e; exact .bl b
  | .int i, e => by cases e; exact .int i
  | .str x, e => by cases e; exact .str x
  | .tup h r, e => by
    unfold pyD at e
    obtain ⟨ps, h1, rfl⟩ := Option.map_eq_some_iff.mp e
    exact .tup h.sq (Reps.dp r h1)
  | .lst h r, e => by
    unfold pyD at e
    obtain ⟨ps, h1, rfl⟩ := Option.map_eq_some_iff.mp e
    exact .lst ((SqL.of h)) (Reps.dp r h1)
  | .frl h, e => by
    cases e
    exact .lst h.sq (dpAll_ints _)
  | .dct _ _ _, e => by cases e
  | .dctT _ _ _, e => by cases e
  | .obj _ _ _, e => by cases e
theorem Reps.dp {vs : List V} {ds : List Dv} {G : List Addr} {ps : List PyData} : Reps K H vs ds G → pyDs ds = some ps → DpAll K H vs ps
  | .nil, e => by cases e; exact .nil
  | @Reps.cons _ _ v d G vs ds G' h r, e => by
    unfold pyDs at e
    cases h1 : pyD d with
    | none => rw [h1] at e; cases e
    | some p =>
      cases h2 : pyDs ds with
      | none => rw [h1, h2] at e; cases e
      | some qs =>
        rw [h1, h2] at e
        cases e
        exact .cons (Rep.dp h h1) (Reps.dp r h2)
end
def eqP (neg : Bool) (d1 d2 : Dv) : Option Dv := match pyD d1, pyD d2 with
  | some p, some q => if (SeqAt.shaped p && SeqAt.shaped q) = true then some (.bl (if neg then !PyData.eqv p q else PyData.eqv p q)) else none
  | _, _ => none
theorem opD_eq : OpD K (rEqD K) true (eqP false) := fun H x y d1 d2 d G1 G2 Q r1 r2 e q => by
  unfold eqP at e
  split at e
  · rename_i p p' h1 h2
    split at e
    · rename_i hs
      obtain ⟨s1, s2⟩ := Bool.and_eq_true_iff.mp hs
      cases e
      exact ⟨p, p', r1.dp h1, r2.dp h2, s1, s2, q _ H [] (.refl H) (.bl _) (fun b k => (nomatch k)) fun _ _ => ⟨.nil, fun a m => (nomatch m)⟩⟩
    · cases e
  · cases e
theorem opD_ne : OpD K (rNeD K) true (eqP true) := fun H x y d1 d2 d G1 G2 Q r1 r2 e q => by
  unfold eqP at e
  split at e
  · rename_i p p' h1 h2
    split at e
    · rename_i hs
      obtain ⟨s1, s2⟩ := Bool.and_eq_true_iff.mp hs
      cases e
      exact ⟨p, p', r1.dp h1, r2.dp h2, s1, s2, q _ H [] (.refl H) (.bl _) (fun b k => (nomatch k)) fun _ _ => ⟨.nil, fun a m => (nomatch m)⟩⟩
    · cases e
  · cases e
/-! is -/
def rIsA : R2 := fun x y H Q => (∃ a b, x = .bl a ∧ y = .bl b ∧ Q (.bl (decide (a = b))) H) ∨ (y = .non ∧ Q (.bl (decide (x = .non))) H)
def rIsntA : R2 := fun x y H Q => (∃ a b, x = .bl a ∧ y = .bl b ∧ Q (.bl (!decide (a = b))) H) ∨ (y = .non ∧ Q (.bl (!decide (x = .non))) H)
theorem op_isA {X : Cx} : OpR X (compareOp .Is) rIsA := op_is_bl.or op_isN
theorem op_isntA {X : Cx} : OpR X (compareOp .IsNot) rIsntA := op_isnot_bl.or op_notN
def Dv.isN : Dv → Bool
  | .non => true
  | _ => false
def isD (neg : Bool) : Dv → Dv → Option Dv
  | .bl a, .bl b => some (.bl (if neg then !decide (a = b) else decide (a = b)))
  | d, .non => some (.bl (if neg then !d.isN else d.isN))
  | _, _ => none
theorem Rep.isN {v : V} {d : Dv} {G : List Addr} (r : Rep K H v d G) : decide (v = .non) = d.isN := by
  cases r <;> simp [Dv.isN]
theorem opD_is : OpD K rIsA true (isD false) := fun H x y d1 d2 d G1 G2 Q r1 r2 e q => by
  have fin : ∀ b : Bool, d = .bl b → Q (.bl b) H := fun b h => by
    subst h
    exact q _ H [] (.refl H) (.bl _) (fun b k => (nomatch k)) fun _ _ => ⟨.nil, fun a m => (nomatch m)⟩
  cases r2 with
  | non =>
    have e' : some (Dv.bl d1.isN) = some d := by
      rw [← e]; cases d1 <;> rfl
    cases e'
    exact .inr ⟨rfl, by rw [r1.isN]; exact fin _ rfl⟩
  | bl b =>
    cases r1 <;> first | cases e | skip
    exact .inl ⟨_, _, rfl, rfl, fin _ rfl⟩
  | _ => cases d1 <;> cases e
theorem opD_isnt : OpD K rIsntA true (isD true) := fun H x y d1 d2 d G1 G2 Q r1 r2 e q => by
  have fin : ∀ b : Bool, d = .bl b → Q (.bl b) H := fun b h => by
    subst h
    exact q _ H [] (.refl H) (.bl _) (fun b k => (nomatch k)) fun _ _ => ⟨.nil, fun a m => (nomatch m)⟩
  cases r2 with
  | non =>
    have e' : some (Dv.bl (!d1.isN)) = some d := by
      rw [← e]; cases d1 <;> rfl
    cases e'
    exact .inr ⟨rfl, by rw [r1.isN]; exact fin _ rfl⟩
  | bl b =>
    cases r1 <;> first | cases e | skip
    exact .inl ⟨_, _, rfl, rfl, fin _ rfl⟩
  | _ => cases d1 <;> cases e
/-! a sign in a text -/
def inS (neg : Bool) : Dv → Dv → Option Dv
  | .str a, .str b => if a.cps.size = 1 then some (.bl (if neg then !decide (a.cps.getD 0 0 ∈ b.cps.toList) else decide (a.cps.getD 0 0 ∈ b.cps.toList))) else none
  | _, _ => none
theorem str_one {a : Str} (h : a.cps.size = 1) : a = ⟨#[a.cps.getD 0 0]⟩ := by
  obtain ⟨⟨l⟩⟩ := a
  match l, h with
  | [c], _ => rfl
theorem opD_inS : OpD K (fun x y H Q => ∃ (c : Nat) (z : Str), x = .str ⟨#[c]⟩ ∧ y = .str z ∧ Q (.bl (decide (c ∈ z.cps.toList))) H) true (inS false) := fun H x y d1 d2 d G1 G2 Q r1 r2 e q => by
  cases r1 <;> first | cases e | skip
  cases r2 <;> first | cases e | skip
  rename_i a b
  unfold inS at e
  simp only at e
  by_cases h : a.cps.size = 1
  · rw [if_pos h] at e
    cases e
    exact ⟨_, b, by rw [← str_one h], rfl, q _ H [] (.refl H) (.bl _) (fun b k => (nomatch k)) fun _ _ => ⟨.nil, fun a m => (nomatch m)⟩⟩
  · rw [if_neg h] at e; cases e
theorem opD_notInS : OpD K (fun x y H Q => ∃ (c : Nat) (z : Str), x = .str ⟨#[c]⟩ ∧ y = .str z ∧ Q (.bl (!decide (c ∈ z.cps.toList))) H) true (inS true) := fun H x y d1 d2 d G1 G2 Q r1 r2 e q => by
  cases r1 <;> first | cases e | skip
  cases r2 <;> first | cases e | skip
  rename_i a b
  unfold inS at e
  simp only at e
  by_cases h : a.cps.size = 1
  · rw [if_pos h] at e
    cases e
    exact ⟨_, b, by rw [← str_one h], rfl, q _ H [] (.refl H) (.bl _) (fun b k => (nomatch k)) fun _ _ => ⟨.nil, fun a m => (nomatch m)⟩⟩
  · rw [if_neg h] at e; cases e
/-! calls -/
def lenD : List Dv → Option Dv
  | [.str z] => if z.length ≤ sizeLine then some (.int z.length) else none
  | [.lst xs] => some (.int xs.length)
  | [.tup xs] => some (.int xs.length)
  | [.frl xs] => some (.int xs.length)
  | _ => none
abbrev rLenA (K : PySem.W.Frag) : List V → Hp → VK → Prop := fun xs H Q => ∃ x n, xs = [x] ∧ LenV K x H n ∧ Q (.int n) H
theorem Reps.inv1 {vs : List V} {d : Dv} {G : List Addr} (r : Reps K H vs [d] G) : ∃ v, vs = [v] ∧ Rep K H v d G := by
  cases r with
  | cons h t =>
    cases t
    exact ⟨_, rfl, by rw [List.append_nil]; exact h⟩
theorem Reps.inv2 {vs : List V} {d e : Dv} {G : List Addr} (r : Reps K H vs [d, e] G) : ∃ v u G1 G2, vs = [v, u] ∧ Rep K H v d G1 ∧ Rep K H u e G2 ∧ G = G1 ++ G2 := by
  cases r with
  | cons h t =>
    obtain ⟨u, rfl, k⟩ := t.inv1
    exact ⟨_, u, _, _, rfl, h, k, rfl⟩
theorem callD_len : CallD K (rLenA K) true lenD := fun H vs ds d G Q r e q => by
  have fin : ∀ n : Nat, d = .int n → Q (.int n) H := fun n h => by
    subst h
    exact q _ H [] (.refl H) (.int _) (fun b k => (nomatch k)) fun _ _ => ⟨.nil, fun a m => (nomatch m)⟩
  unfold lenD at e
  split at e
  · obtain ⟨v, rfl, r1⟩ := r.inv1
    split at e
    · rename_i z h
      cases e
      cases r1
      exact ⟨_, _, rfl, ⟨h, rfl⟩, fin _ rfl⟩
    · cases e
  · obtain ⟨v, rfl, r1⟩ := r.inv1
    cases e
    cases r1 with
    | lst h rr => exact ⟨_, _, rfl, .inl ⟨_, (SqL.of h), rr.len.symm⟩, fin _ rfl⟩
  · obtain ⟨v, rfl, r1⟩ := r.inv1
    cases e
    cases r1 with
    | tup h rr => exact ⟨_, _, rfl, .inr ⟨_, h.sq, rr.len.symm⟩, fin _ rfl⟩
  · obtain ⟨v, rfl, r1⟩ := r.inv1
    cases e
    cases r1 with
    | frl h => exact ⟨_, _, rfl, .inl ⟨_, h.sq, by rw [List.length_map]⟩, fin _ rfl⟩
  · cases e
def minmaxD (f : Int → Int → Int) : List Dv → Option Dv
  | [.int a, .int b] => some (.int (f a b))
  | _ => none
theorem callD_mm {f : Int → Int → Int} : CallD K (fun xs H Q => ∃ i j, xs = [.int i, .int j] ∧ Q (.int (f i j)) H) true (minmaxD f) := fun H vs ds d G Q r e q => by
  unfold minmaxD at e
  split at e
  · obtain ⟨v, u, G1, G2, rfl, r1, r2, _⟩ := r.inv2
    cases e
    cases r1
    cases r2
    exact ⟨_, _, rfl, q _ H [] (.refl H) (.int _) (fun b k => (nomatch k)) fun _ _ => ⟨.nil, fun a m => (nomatch m)⟩⟩
  · cases e
def intD : List Dv → Option Dv
  | [.int a] => some (.int a)
  | [.bl b] => some (.int (if b then 1 else 0))
  | _ => none
theorem callD_int : CallD K (fun xs H Q => (∃ i, xs = [.int i] ∧ Q (.int i) H) ∨ ∃ k, xs = [.bl k] ∧ Q (.int (if k then 1 else 0)) H) true intD := fun H vs ds d G Q r e q => by
  unfold intD at e
  split at e
  · obtain ⟨v, rfl, r1⟩ := r.inv1
    cases e
    cases r1
    exact .inl ⟨_, rfl, q _ H [] (.refl H) (.int _) (fun b k => (nomatch k)) fun _ _ => ⟨.nil, fun a m => (nomatch m)⟩⟩
  · obtain ⟨v, rfl, r1⟩ := r.inv1
    cases e
    cases r1
    exact .inr ⟨_, rfl, q _ H [] (.refl H) (.int _) (fun b k => (nomatch k)) fun _ _ => ⟨.nil, fun a m => (nomatch m)⟩⟩
  · cases e
def strIntD : List Dv → Option Dv
  | [.int a] => if a.natAbs.log2 < 1920 then some (.str (toString a)) else none
  | _ => none
theorem callD_strInt : CallD K (fun xs H Q => ∃ i, xs = [.int i] ∧ i.natAbs.log2 < 1920 ∧ Q (.str (toString i)) H) true strIntD := fun H vs ds d G Q r e q => by
  unfold strIntD at e
  split at e
  · obtain ⟨v, rfl, r1⟩ := r.inv1
    split at e
    · rename_i h
      cases e
      cases r1
      exact ⟨_, rfl, h, q _ H [] (.refl H) (.str _) (fun b k => (nomatch k)) fun _ _ => ⟨.nil, fun a m => (nomatch m)⟩⟩
    · cases e
  · cases e
/-- a list of truths -/
def blsD : List Dv → Option (List Bool)
  | [] => some []
  | .bl b :: r => (blsD r).map (b :: ·)
  | _ :: _ => none
theorem Reps.bls {vs : List V} : ∀ {ds : List Dv} {G : List Addr} {bs : List Bool}, Reps K H vs ds G → blsD ds = some bs → vs = bs.map V.bl := by
  induction vs with
  | nil =>
    intro ds G bs r e
    cases r
    cases e
    rfl
  | cons v vs ih =>
    intro ds G bs r e
    cases r with
    | @cons _ d G1 _ ds G' h t =>
      cases d <;> first | cases e | skip
      rename_i b
      obtain ⟨bs', h1, rfl⟩ := Option.map_eq_some_iff.mp (show (blsD ds).map (b :: ·) = some bs from e)
      cases h
      rw [ih t h1]; rfl
def quantD (f : List Bool → Bool) : List Dv → Option Dv
  | [.lst ds] => (blsD ds).map fun bs => .bl (f bs)
  | _ => none
theorem callD_quant {f : List Bool → Bool} : CallD K (fun vs H Q => ∃ (a : Addr) (bs : List Bool), vs = [V.ref a] ∧ SqL K H a (bs.map V.bl) ∧ Q (.bl (f bs)) H) true (quantD f) := fun H vs ds d G Q r e q => by
  unfold quantD at e
  split at e
  · obtain ⟨v, rfl, r1⟩ := r.inv1
    obtain ⟨bs, h1, rfl⟩ := Option.map_eq_some_iff.mp e
    cases r1 with
    | lst h rr =>
      have := rr.bls h1
      subst this
      exact ⟨_, bs, rfl, (SqL.of h), q _ H [] (.refl H) (.bl _) (fun b k => (nomatch k)) fun _ _ => ⟨.nil, fun a m => (nomatch m)⟩⟩
  · cases e
/-! isinstance -/
def isT (T : String) : Dv → Option Bool
  | .non => kitB "NoneType" T
  | .bl _ => kitB "bool" T
  | .int _ => kitB "int" T
  | .str _ => kitB "str" T
  | .tup _ => kitB "tuple" T
  | .lst _ => kitB "list" T
  | .frl _ => kitB "list" T
  | .dct _ => kitB "dict" T
  | .dctT _ => kitB "dict" T
  | .obj _ _ => none
def tyN : Dv → Option String
  | .non => some "NoneType"
  | .bl _ => some "bool"
  | .int _ => some "int"
  | .str _ => some "str"
  | .tup _ => some "tuple"
  | .lst _ => some "list"
  | .frl _ => some "list"
  | .dct _ => some "dict"
  | .dctT _ => some "dict"
  | .obj _ _ => none
def frzT (H : Hp) (v : V) : Prop := ∃ a ob kvs, v = .ref a ∧ H a = some (.frz ob (.dT kvs))
theorem Rep.tyX {v : V} {d : Dv} {G : List Addr} (r : Rep K H v d G) {n : String} (h : tyN d = some n) : TyX K H v (.type n) ∨ (n = "dict" ∧ frzT H v) := by
  cases r with
  | non => cases h; exact .inl (.base .non)
  | bl b => cases h; exact .inl (.base (.bl b))
  | int b => cases h; exact .inl (.base (.int b))
  | str b => cases h; exact .inl (.base (.str b))
  | tup e _ =>
    cases h
    left
    rcases e.sq with (e | ⟨o, e⟩) | ⟨o, its, n, e, c, _⟩
    · exact .base (.tup e)
    · exact .fTuple e
    · exact .kTuple e c
  | lst e _ =>
    cases h
    left
    exact .base (.lst e)
  | frl e =>
    cases h
    left
    rcases e with ⟨o, e⟩ | ⟨o, its, n, e, c, _⟩
    · exact .base (.frz e)
    · exact .kList e c
  | dct e _ _ =>
    cases h
    left
    rcases e with e | ⟨o, e⟩
    · exact .base (.dK e)
    · exact .fDict e
  | dctT e _ _ =>
    cases h
    rcases e with e | ⟨o, e⟩
    · exact .inl (.base (.dT e))
    · exact .inr ⟨rfl, _, _, _, rfl, e⟩
  | obj _ _ _ => cases h
def rIsiD (K : PySem.W.Frag) : List V → Hp → VK → Prop := fun xs H Q => rIsi K xs H Q ∨ ∃ v T b, xs = [v, .ty T] ∧ frzT H v ∧ kitB "dict" T = some b ∧ Q (.bl b) H
theorem call_isiD {X : Cx} : CallR X (.builtin "isinstance") (rIsiD X.K) := by
  intro pins s σ H xs us Q I r h
  rcases h with h | ⟨v, T, b, rfl, ⟨a, ob, kvs, rfl, ea⟩, hb, q⟩
  · exact call_isi pins s σ H xs us Q I r h
  · obtain ⟨u1, u2, rfl, r1, r2⟩ := vals2 r
    cases (show u1 = Value.ref a from r1)
    cases (show u2 = Value.type T from r2)
    obtain ⟨_, _, _, xs, _, o, es, ep, h1, h2, _⟩ := (show ObjOk X.prog X.w H s.heap a (.frz ob (.dT kvs)) from I.hok a _ ea)
    exact PySem.W.kia_one PySem.W.kitx_dict I.kIn ⟨o, h1, h2.1⟩ (kit_ty hb) (fun z => nomatch z) fun tk => ⟨.bl b, H, I.tok tk, rfl, q⟩
theorem isT_ty {T : String} {d : Dv} {b : Bool} (h : isT T d = some b) : ∃ n, tyN d = some n ∧ kitB n T = some b := by
  cases d <;> first | exact ⟨_, rfl, h⟩ | cases h
variable {B : Bs} {env : List Sl} {P : Dv → Fl → Bool → List Sl → Prop} {ta tb te : TE}
theorem dt_isi {T : String} (h : DT K B ta env fun d _ pu env1 => ∃ b, isT T d = some b ∧ P (.bl b) .fresh pu env1) : DT K B (tCB (rIsiD K) (tCons ta (tCons (tC (.ty T)) tNil))) env P := fun σ H G Q e q => by
  refine h σ H G _ e fun v H1 d fl pu env1 G1 Gv s r f ⟨b, hb, hP⟩ => ?_
  obtain ⟨n, h1, h2⟩ := isT_ty hb
  have fin := q _ H1 _ _ _ env1 G1 [] s (.bl b) .nil hP
  rcases r.tyX h1 with z | ⟨rfl, z⟩
  · exact .inl ⟨v, .ty T, .type n, .type T, b, rfl, .ty T, z, h2, fin⟩
  · exact .inr ⟨v, T, b, rfl, z, h2, fin⟩
/-! a chain of two comparisons -/
theorem dt_chain {r r' : R2} {tc : TE} {f f' : Dv → Dv → Option Dv} (o : OpD K r true f) (o' : OpD K r' true f')
    (h : DT K B ta env fun d1 f1 p1 env1 => DT K B tb env1 fun d2 f2 p2 env2 => p2 = true ∧ ∃ b, f d1 d2 = some (.bl b) ∧ if b = true then DT K B tc env2 fun d3 f3 p3 env3 => p3 = true ∧ ∃ c, f' d2 d3 = some (.bl c) ∧ P (.bl c) .fresh (p1 && p2 && p3) env3 else P (.bl false) .fresh (p1 && p2) env2) :
    DT K B (tChain r r' ta tb tc) env P := fun σ H G Q e q => by
  refine h σ H G _ e fun x H1 d1 f1 p1 env1 G1 Gx s1 rx fx h1 => ?_
  refine h1 σ H1 G1 _ s1.er fun y H2 d2 f2 p2 env2 G2 Gy s2 ry fy ⟨hp, b, hb, h2⟩ => ?_
  obtain ⟨rx2, fx2⟩ := pend s2 rx fx fun _ => hp
  refine o H2 x y d1 d2 _ Gx Gy _ rx2 ry hb fun z H3 Gz sm rz _ _ => ?_
  cases rz
  refine ⟨b, rfl, ?_⟩
  have s3 := (s1.trans s2).trans (.same s2.er sm)
  rw [Bool.and_true] at s3
  cases b with
  | false =>
    rw [if_neg Bool.false_ne_true] at h2 ⊢
    exact q _ H3 _ _ _ env2 G2 [] s3 (.bl _) .nil h2
  | true =>
    rw [if_pos rfl] at h2 ⊢
    refine h2 σ H3 G2 _ s3.er fun w' H4 d3 f3 p3 env3 G3 Gw s4 rw' fw ⟨hp3, c, hc, hP⟩ => ?_
    have ry3 : Rep K H3 y d2 Gy := ry.step (M := fun _ => False) (.same sm) fun _ _ z => z
    have ry4 : Rep K H4 y d2 Gy := by
      obtain ⟨sm4, _, _⟩ := s4.pr hp3
      exact ry3.step (M := fun _ => False) (.same sm4) fun _ _ z => z
    refine o' H4 y w' d2 d3 _ Gy Gw _ ry4 rw' hc fun z' H5 Gz' sm5 rz' _ _ => ?_
    cases rz'
    have s5 := (s3.trans s4).trans (.same s4.er sm5)
    rw [Bool.and_true] at s5
    exact q _ H5 _ _ _ env3 G3 [] s5 (.bl _) .nil hP
end
end Fd
namespace Fd
open PySem PySem.Spec PyProof.Rows L2
section
variable {K : PySem.W.Frag} {B : Bs} {env env1 env2 : List Sl} {D : Ds} {P : Dv → Fl → Bool → List Sl → Prop} {ta tb te tl : TE} {t u : TS} {c : TT} {tr : TA}
/-! ### what is one's own is not changed any more -/
theorem EnvR.cool {σ : L2.St} {H : Hp} {G : Nat → List Addr} {i : Nat} {d : Dv} (e : EnvR K B σ H env G) (hi : env[i]? = some (.ho d)) : EnvR K B σ H (env.set i (.co d)) G := by
  have hlt : i < env.length := (List.getElem?_eq_some_iff.mp hi).1
  have at_i : (env.set i (.co d))[i]? = some (.co d) := List.getElem?_set_self hlt
  have at_j : ∀ j, j ≠ i → (env.set i (.co d))[j]? = env[j]? := fun j n => List.getElem?_set_ne (Ne.symm n)
  have down : ∀ (j : Nat) (s : Sl), (env.set i (.co d))[j]? = some s → s.hot = true → env[j]? = some s := fun j s h k => by
    by_cases n : j = i
    · subst n; rw [at_i] at h; cases h; cases k
    · rw [at_j j n] at h; exact h
  refine ⟨by rw [List.length_set]; exact e.len, fun j s d' h1 h2 => ?_, fun j h => ?_, fun j s h1 h2 => e.nod j s (down j s h1 h2) h2, fun j k s a n h1 h2 m => e.dis j k s a n (down j s h1 h2) h2 m, fun j d' h => e.pin j d' (down j _ h rfl), fun j d' a h m => e.loc j d' a (down j _ h rfl) m, e.he, e.org, fun j d' a h m => e.pc j d' a (down j _ h rfl) m, fun j s a h1 h2 m => e.mu j s a (down j s h1 h2) h2 m, fun j h => ?_⟩
  · by_cases n : j = i
    · subst n; rw [at_i] at h1; cases h1
      exact e.rep j _ d' hi (by cases h2; rfl)
    · rw [at_j j n] at h1; exact e.rep j s d' h1 h2
  · by_cases n : j = i
    · subst n
      rcases h with h | h
      · rw [at_i] at h; cases h
      · rw [at_i] at h; cases h
    · rw [at_j j n] at h; exact e.non j h
  · obtain ⟨d', h'⟩ := e.kp j h
    have n : j ≠ i := fun z => by subst z; rw [hi] at h'; cases h'
    exact ⟨d', by rw [at_j j n]; exact h'⟩
theorem hot_cool {G : Nat → List Addr} {i : Nat} {d : Dv} {a : Addr} (h : Hot (env.set i (.co d)) G a) : Hot env G a := by
  obtain ⟨j, s, h1, h2, m⟩ := h
  by_cases n : j = i
  · subst n
    by_cases hl : j < env.length
    · rw [List.getElem?_set_self hl] at h1; cases h1; cases h2
    · rw [List.getElem?_eq_none (by rw [List.length_set]; exact Nat.not_lt.mp hl)] at h1; cases h1
  · rw [List.getElem?_set_ne (Ne.symm n)] at h1
    exact ⟨j, s, h1, h2, m⟩
theorem dts_cool (i : Nat) {d : Dv} (hi : env[i]? = some (.ho d)) (h : DTS K B t (env.set i (.co d)) D) : DTS K B t env D := fun σ H G E e l =>
  h σ H G E (e.cool hi) (l.on ⟨.refl, fun a z => .inl (hot_cool z)⟩)

/-! ### targets -/
def DG (K : PySem.W.Frag) (B : Bs) (ws : List Nat) (g : TG) (d : Dv) (env env' : List Sl) : Prop := ∀ (σ : L2.St) (H : Hp) (G : Nat → List Addr) (v : V) (Gv : List Addr) (Q : L2.St → Hp → Prop), EnvR K B σ H env G → Rep K H v d Gv → (∀ a ∈ Gv, ¬ Hot env G a) → (∀ a ∈ Gv, All B.G0 a ∨ B.He a = none) →
  (∀ σ' G', Mv env G H env' G' H → EnvR K B σ' H env' G' → σ'.length = σ.length → (∀ j, j ∉ ws → σ'[j]? = σ[j]?) → (∀ j, j ∉ ws → env'[j]? = env[j]? ∧ G' j = G j) → (∀ a, All G' a → All G a ∨ a ∈ Gv) → Q σ' H) → g v σ H Q
def DGs (K : PySem.W.Frag) (B : Bs) (ws : List Nat) (t : TGs) (ds : List Dv) (env env' : List Sl) : Prop := ∀ (σ : L2.St) (H : Hp) (G : Nat → List Addr) (vs : List V) (Gv : List Addr) (Q : L2.St → Hp → Prop), EnvR K B σ H env G → Reps K H vs ds Gv → (∀ a ∈ Gv, ¬ Hot env G a) → (∀ a ∈ Gv, All B.G0 a ∨ B.He a = none) →
  (∀ σ' G', Mv env G H env' G' H → EnvR K B σ' H env' G' → σ'.length = σ.length → (∀ j, j ∉ ws → σ'[j]? = σ[j]?) → (∀ j, j ∉ ws → env'[j]? = env[j]? ∧ G' j = G j) → (∀ a, All G' a → All G a ∨ a ∈ Gv) → Q σ' H) → t vs σ H Q
theorem dg_name {i : Nat} {d : Dv} {s : Sl} (hi : env[i]? = some s) (hs : s.free = true) : DG K B [i] (gName i) d env (env.set i (.co d)) := fun σ H G v Gv Q e r cold c3 q => by
  refine q _ (setG G i Gv) ⟨.refl, fun a z => ?_⟩ (e.set hi hs rfl rfl r cold (fun z => nomatch z) c3) List.length_set (fun j n => ?_) (fun j n => ?_) (fun a ⟨j, m⟩ => ?_)
  · rcases hot_set z with z | ⟨z, _⟩
    · exact .inl z
    · cases z
  · exact List.getElem?_set_ne fun z => n (by rw [z]; exact List.mem_cons_self)
  · have : j ≠ i := fun z => n (by rw [z]; exact List.mem_cons_self)
    exact ⟨List.getElem?_set_ne (Ne.symm this), setG_ne this⟩
  · by_cases n : j = i
    · subst n; rw [setG_same] at m; exact .inr m
    · rw [setG_ne n] at m; exact .inl ⟨j, m⟩
theorem dgs_nil : DGs K B [] gNil [] env env := fun σ H G vs Gv Q e r cold c3 q => by
  cases r
  exact ⟨rfl, q σ G .refl e rfl (fun _ _ => rfl) (fun _ _ => ⟨rfl, rfl⟩) fun _ z => .inl z⟩
theorem dgs_cons {g : TG} {tg : TGs} {d : Dv} {ds : List Dv} {ws ws' : List Nat} (h1 : DG K B ws g d env env1) (h2 : DGs K B ws' tg ds env1 env2) : DGs K B (ws ++ ws') (gCons g tg) (d :: ds) env env2 := fun σ H G vs Gv Q e r cold c3 q => by
  cases r with
  | @cons v _ G1 vs _ G2 r1 r2 =>
    refine ⟨v, vs, rfl, h1 σ H G v G1 _ e r1 (fun a m => cold a (List.mem_append_left _ m)) (fun a m => c3 a (List.mem_append_left _ m)) fun σ1 Ga m1 e1 l1 o1 p1 a1 => ?_⟩
    refine h2 σ1 H Ga vs G2 _ e1 r2 (fun a m z => ?_) (fun a m => c3 a (List.mem_append_right _ m)) fun σ2 Gb m2 e2 l2 o2 p2 a2 => ?_
    · rcases m1.c1 a z with z | z
      · exact cold a (List.mem_append_right _ m) z
      · obtain ⟨o, k⟩ := r2.alloc a m
        rw [z] at k; cases k
    · refine q σ2 Gb (m1.trans m2) e2 (l2.trans l1) (fun j n => ?_) (fun j n => ?_) (fun a z => ?_)
      · exact (o2 j fun z => n (List.mem_append_right _ z)).trans (o1 j fun z => n (List.mem_append_left _ z))
      · obtain ⟨x1, x2⟩ := p2 j fun z => n (List.mem_append_right _ z)
        obtain ⟨y1, y2⟩ := p1 j fun z => n (List.mem_append_left _ z)
        exact ⟨x1.trans y1, x2.trans y2⟩
      · rcases a2 a z with z | z
        · rcases a1 a z with z | z
          · exact .inl z
          · exact .inr (List.mem_append_left _ z)
        · exact .inr (List.mem_append_right _ z)
theorem dg_tup {tg : TGs} {ds : List Dv} {n : Nat} {ws : List Nat} (hl : ds.length = n) (h : DGs K B ws tg ds env env1) : DG K B ws (gTup K n tg) (.tup ds) env env1 := fun σ H G v Gv Q e r cold c3 q => by
  cases r with
  | @tup a xs _ _ ht rr => exact ⟨a, xs, rfl, ht.sq, rr.len.trans hl, h σ H G xs Gv Q e rr cold c3 q⟩
theorem dg_unl {tg : TGs} {ds : List Dv} {n : Nat} {ws : List Nat} (hl : ds.length = n) (h : DGs K B ws tg ds env env1) : DG K B ws (gUnl K n tg) (.lst ds) env env1 := fun σ H G v Gv Q e r cold c3 q => by
  cases r with
  | @lst a xs _ g ht rr =>
    exact ⟨a, xs, rfl, SqL.of ht, rr.len.trans hl, h σ H G xs g Q e rr (fun b m => cold b (List.mem_cons_of_mem _ m)) (fun b m => c3 b (List.mem_cons_of_mem _ m)) fun σ' G' m e' l o p al => q σ' G' m e' l o p fun b z => (al b z).imp_right (List.mem_cons_of_mem _)⟩
/-- a target stored; what is handed over is not changed any more -/
theorem dts_asg {g : TG} (h : DT K B te env fun d fl pu env1 => ef d fl ≠ .view ∧ ∃ ws env2, DG K B ws g d env1 env2 ∧ D.nx env2) : DTS K B (tAsg te g) env D := fun σ H G E e l => by
  refine h σ H G _ e fun v H1 d fl pu env1 G1 Gv s r f ⟨nv, ws, env2, hg, h1⟩ => ?_
  have f' := f.ef r
  refine hg σ H1 G1 v Gv _ s.er r (f'.cold nv) (fun a m => e.org' (f'.c3 a m)) fun σ2 G2 m2 e2 _ _ _ _ => ?_
  exact l.nx σ2 H1 env2 G2 (s.mv.trans m2) e2 h1

/-! ### what is walked -/
structure ItD (K : PySem.W.Frag) (J : It) (St : Hp → Prop) (Gv0 : List Addr) (items : List Dv) : Prop where
  per : ∀ (M : Addr → Prop) (H H' : Hp), Stp M H H' → (∀ a ∈ Gv0, ¬ M a) → St H → St H'
  alloc : ∀ (H : Hp), St H → ∀ a ∈ Gv0, ∃ o, H a = some o
  go : ∀ (i : Nat) (x : Dv) (H : Hp), items[i]? = some x → St H → J.go i H ∧ ∀ y H', J.yld i H y H' → Same H H' ∧ ∃ Gx, Rep K H' y x Gx ∧ ∀ a ∈ Gx, a ∈ Gv0
  stop : ∀ (H : Hp), St H → J.stop items.length H
def DI (K : PySem.W.Frag) (B : Bs) (wi : TI) (env : List Sl) (PI : List Dv → Fl → Bool → List Sl → Prop) : Prop :=
  ∀ (σ : L2.St) (H : Hp) (G : Nat → List Addr) (R : It → Hp → Prop), EnvR K B σ H env G →
    (∀ J H1 pu env1 G1 St fl Gv0 items, Se K B σ env G H pu env1 G1 H1 → ItD K J St Gv0 items → St H1 → Vf H G env1 G1 H1 fl Gv0 → PI items fl pu env1 → R J H1) → wi σ H R
def DIp (Φ : L2.St → Hp → Prop) (K : PySem.W.Frag) (B : Bs) (wi : TI) (env : List Sl) (PI : List Dv → Fl → Bool → List Sl → Prop) : Prop :=
  ∀ (σ : L2.St) (H : Hp) (G : Nat → List Addr) (R : It → Hp → Prop), EnvR K B σ H env G → Φ σ H →
    (∀ J H1 pu env1 G1 St fl Gv0 items, Se K B σ env G H pu env1 G1 H1 → ItD K J St Gv0 items → St H1 → Vf H G env1 G1 H1 fl Gv0 → PI items fl pu env1 → R J H1) → wi σ H R
def DTp (Φ : L2.St → Hp → Prop) (K : PySem.W.Frag) (B : Bs) (te : TE) (env : List Sl) (P : Dv → Fl → Bool → List Sl → Prop) : Prop :=
  ∀ (σ : L2.St) (H : Hp) (G : Nat → List Addr) (Q : VK), EnvR K B σ H env G → Φ σ H →
    (∀ v H' d fl pu env' G' Gv, Se K B σ env G H pu env' G' H' → Rep K H' v d Gv → Vf H G env' G' H' fl Gv → P d fl pu env' → Q v H') → te σ H Q
def DTSp (Φ : L2.St → Hp → Prop) (K : PySem.W.Frag) (B : Bs) (ts : TS) (env : List Sl) (D : Ds) : Prop :=
  ∀ (σ : L2.St) (H : Hp) (G : Nat → List Addr) (E : Ends), EnvR K B σ H env G → Φ σ H → Lk K B env G H D E → ts E σ H
def Tr : L2.St → Hp → Prop := fun _ _ => True
variable {PI : List Dv → Fl → Bool → List Sl → Prop}
theorem DIp.of {Φ : L2.St → Hp → Prop} {wi : TI} (h : DI K B wi env PI) : DIp Φ K B wi env PI := fun σ H G R e _ q => h σ H G R e q
def itemsL : Dv → Option (List Dv)
  | .lst ds => some ds
  | .frl ns => some (ns.map .int)
  | _ => none
theorem di_list (h : DT K B tl env fun d fl pu env1 => ∃ items, itemsL d = some items ∧ PI items (ef d fl) pu env1) : DI K B (iList K tl) env PI := fun σ H G R e q => by
  refine h σ H G _ e fun v H1 d fl pu env1 G1 Gv s r f ⟨items, hi, hp⟩ => ?_
  cases r with
  | @lst a xs ds g ha ra =>
    cases hi
    refine ⟨a, rfl, ⟨xs, SqL.of ha⟩, q _ H1 pu env1 G1 (fun H' => H' a = some (.lst xs) ∧ Reps K H' xs items g) _ (a :: g) items s ⟨fun M H H' st n z => ?_, fun H z b m => ?_, fun i x H hx z => ?_, fun H z => ?_⟩ ⟨ha, ra⟩ (f.ef (.lst ha ra)) hp⟩
    · exact ⟨st.keep _ _ z.1 fun _ => n _ List.mem_cons_self, z.2.step st fun b m => n b (List.mem_cons_of_mem _ m)⟩
    · exact (Rep.lst z.1 z.2).alloc b m
    · obtain ⟨v, G', hv, rv, m⟩ := z.2.getD i x hx
      refine ⟨⟨xs, v, SqL.of z.1, hv⟩, fun y H' ⟨e1, e2⟩ => ?_⟩
      subst e1
      have := e2 xs (SqL.of z.1)
      rw [hv] at this; cases this
      exact ⟨.refl _, G', rv, fun b k => List.mem_cons_of_mem _ (m b k)⟩
    · exact ⟨xs, SqL.of z.1, by rw [z.2.len]; exact Nat.le_refl _⟩
  | @frl a ns h0 =>
    cases hi
    refine ⟨a, rfl, ⟨_, h0.sq⟩, q _ H1 pu env1 G1 (fun H' => SqF K H' a (ns.map V.int)) _ [] _ s ⟨fun M H H' st n z => sqF_step z st, fun H z b m => (nomatch m), fun i x H hx z => ?_, fun H z => ⟨_, z.sq, by rw [List.length_map, List.length_map]; exact Nat.le_refl _⟩⟩ h0 .nil hp⟩
    rw [List.getElem?_map] at hx
    obtain ⟨n, hn, rfl⟩ := Option.map_eq_some_iff.mp hx
    have hv : (ns.map V.int)[i]? = some (.int n) := by rw [List.getElem?_map, hn]; rfl
    refine ⟨⟨_, _, z.sq, hv⟩, fun y H' ⟨e1, e2⟩ => ?_⟩
    subst e1
    have := e2 _ z.sq
    rw [hv] at this; cases this
    exact ⟨.refl _, [], .int n, fun b k => (nomatch k)⟩
  | _ => cases hi
theorem di_tup (h : DT K B tl env fun d fl pu env1 => ∃ items, d = .tup items ∧ PI items (ef d fl) pu env1) : DI K B (iTup K tl) env PI := fun σ H G R e q => by
  refine h σ H G _ e fun v H1 d fl pu env1 G1 Gv s r f ⟨items, hi, hp⟩ => ?_
  subst hi
  cases r with
  | @tup a xs _ _ ha ra =>
    refine ⟨a, rfl, ⟨xs, ha.sq⟩, q _ H1 pu env1 G1 (fun H' => TqT K H' a xs ∧ Reps K H' xs items Gv) _ Gv items s ⟨fun M H H' st n z => ⟨tqT_step z.1 st, z.2.step st n⟩, fun H z b m => z.2.alloc b m, fun i x H hx z => ?_, fun H z => ⟨xs, z.1.sq, by rw [z.2.len]; exact Nat.le_refl _⟩⟩ ⟨ha, ra⟩ (f.ef (.tup ha ra)) hp⟩
    obtain ⟨v, G', hv, rv, m⟩ := z.2.getD i x hx
    refine ⟨⟨xs, v, z.1.sq, hv⟩, fun y H' ⟨e1, e2⟩ => ?_⟩
    subst e1
    have := e2 xs z.1.sq
    rw [hv] at this; cases this
    exact ⟨.refl _, G', rv, m⟩
def rangeD (lo : Int) (n : Nat) : List Dv := (List.range n).map fun (i : Nat) => Dv.int (lo + (i : Int))
theorem rangeD_len {lo : Int} {n : Nat} : (rangeD lo n).length = n := by unfold rangeD; rw [List.length_map, List.length_range]
theorem rangeD_get {lo : Int} {n i : Nat} {x : Dv} (h : (rangeD lo n)[i]? = some x) : i < n ∧ x = .int (lo + i) := by
  unfold rangeD at h
  rw [List.getElem?_map] at h
  obtain ⟨j, hj, rfl⟩ := Option.map_eq_some_iff.mp h
  obtain ⟨h1, h2⟩ := List.getElem?_eq_some_iff.mp hj
  rw [List.length_range] at h1
  rw [List.getElem_range] at h2
  subst h2
  exact ⟨h1, rfl⟩
theorem itD_range {lo : Int} {n : Nat} : ItD K (Itr lo n) (fun _ => True) [] (rangeD lo n) :=
  ⟨fun _ _ _ _ _ _ => True.intro, fun _ _ _ m => (nomatch m), fun i x H hx _ => by
    obtain ⟨h1, rfl⟩ := rangeD_get hx
    exact ⟨h1, fun y H' ⟨e1, e2⟩ => by subst e1 e2; exact ⟨.refl _, [], .int _, fun b k => (nomatch k)⟩⟩, fun H _ => by
    rw [rangeD_len]; exact Nat.le_refl n⟩
theorem di_range1 (h : DTA K B tr env fun rs pu env1 => ∃ j fl, rs = [.val (.int j) fl] ∧ (-(2 ^ 62) ≤ j ∧ j < 2 ^ 62) ∧ PI (rangeD 0 j.toNat) .fresh pu env1) : DI K B (iRng1 tr) env PI := fun σ H G R e q => by
  refine h σ H G _ e fun vs H1 rs pu env1 G1 Gvs s ar ⟨j, fl, hr, hb, hp⟩ => ?_
  subst hr
  cases ar with
  | cons ok _ tl =>
    cases tl
    obtain ⟨r, _⟩ := ok
    cases r
    exact ⟨j, rfl, hb.1, hb.2, q _ H1 pu env1 G1 (fun _ => True) .fresh [] _ s itD_range True.intro .nil hp⟩
theorem di_range2 (h : DTA K B tr env fun rs pu env1 => ∃ i j fl fl', rs = [.val (.int i) fl, .val (.int j) fl'] ∧ (-(2 ^ 62) ≤ i ∧ i < 2 ^ 62 ∧ -(2 ^ 62) ≤ j ∧ j < 2 ^ 62) ∧ PI (rangeD i (j - i).toNat) .fresh pu env1) : DI K B (iRng2 tr) env PI := fun σ H G R e q => by
  refine h σ H G _ e fun vs H1 rs pu env1 G1 Gvs s ar ⟨i, j, fl, fl', hr, hb, hp⟩ => ?_
  subst hr
  cases ar with
  | cons ok _ tl =>
    cases tl with
    | cons ok2 _ tl =>
      cases tl
      obtain ⟨r, _⟩ := ok
      obtain ⟨r2, _⟩ := ok2
      cases r
      cases r2
      exact ⟨i, j, rfl, hb, q _ H1 pu env1 G1 (fun _ => True) .fresh [] _ s itD_range True.intro .nil hp⟩
def signsD (x : Str) : List Dv := x.cps.toList.map fun c => .str ⟨#[c]⟩
theorem di_str (h : DT K B tl env fun d fl pu env1 => ∃ x, d = .str x ∧ PI (signsD x) .fresh pu env1) : DI K B (iStr tl) env PI := fun σ H G R e q => by
  refine h σ H G _ e fun v H1 d fl pu env1 G1 Gv s r f ⟨x, hx, hp⟩ => ?_
  subst hx
  cases r
  refine ⟨x, rfl, q _ H1 pu env1 G1 (fun _ => True) .fresh [] _ s ⟨fun _ _ _ _ _ _ => True.intro, fun _ _ _ m => (nomatch m), fun i y H hy _ => ?_, fun H _ => ?_⟩ True.intro .nil hp⟩
  · unfold signsD at hy
    rw [List.getElem?_map] at hy
    obtain ⟨c, hc, rfl⟩ := Option.map_eq_some_iff.mp hy
    rw [Array.getElem?_toList] at hc
    refine ⟨(Array.getElem?_eq_some_iff.mp hc).1, fun z H' ⟨e1, c', e2, e3⟩ => ?_⟩
    subst e1 e3
    rw [hc] at e2; cases e2
    exact ⟨.refl _, [], .str _, fun b k => (nomatch k)⟩
  · unfold signsD
    rw [List.length_map, Array.length_toList]
    exact Nat.le_refl _
/-! ### for -/
theorem dts_forp {Φ : L2.St → Hp → Prop} {wi : TI} {g : TG} {tb : TS} (h : DIp Φ K B wi env fun items fl pu env1 => ∃ I : Nat → List Sl → Prop, fl ≠ .view ∧ I 0 env1 ∧
    (∀ k x env2, items[k]? = some x → I k env2 → ∃ ws env3, DG K B ws g x env2 env3 ∧ DTS K B tb env3 { D with nx := I (k + 1), ct := I (k + 1), bk := D.nx }) ∧ (∀ env2, I items.length env2 → D.nx env2)) : DTSp Φ K B (tFor wi g tb) env D := fun σ H G E e φ l => by
  refine h σ H G _ e φ fun J H1 pu env1 G1 St fl Gv0 items s it st f ⟨I, nv, i0, turn, fin⟩ => ?_
  have l1 := l.on s.mv
  have cold := f.cold nv
  refine ⟨fun i m σ' H' => m = items.length - i ∧ i ≤ items.length ∧ ∃ env' G', Mv env1 G1 H1 env' G' H' ∧ EnvR K B σ' H' env' G' ∧ I i env', ⟨_, rfl, Nat.zero_le _, env1, G1, .refl, s.er, i0⟩, ?_⟩
  rintro i m σ' H' ⟨rfl, hi, env', G', mv, e', ii⟩
  have st' : St H' := it.per _ _ _ mv.stp cold st
  have cold' : ∀ a ∈ Gv0, ¬ Hot env' G' a := fun a ma z => by
    rcases mv.c1 a z with z | z
    · exact cold a ma z
    · obtain ⟨o, k⟩ := it.alloc H1 st a ma
      rw [z] at k; cases k
  by_cases hlt : i < items.length
  · right
    obtain ⟨x, hx⟩ : ∃ x, items[i]? = some x := ⟨_, List.getElem?_eq_getElem hlt⟩
    obtain ⟨go, yl⟩ := it.go i x H' hx st'
    refine ⟨go, fun σ2 H2 => ∃ env2 G2, Mv env1 G1 H1 env2 G2 H2 ∧ EnvR K B σ2 H2 env2 G2 ∧ I (i + 1) env2, fun σ2 H2 ⟨env2, G2, m2, e2, i2⟩ => ⟨items.length - (i + 1), by omega, rfl, hlt, env2, G2, m2, e2, i2⟩, fun y H2 hy => ?_⟩
    obtain ⟨sm, Gx, rx, sub⟩ := yl y H2 hy
    obtain ⟨ws, env3, hg, hb⟩ := turn i x env' hx ii
    have m2 : Mv env1 G1 H1 env' G' H2 := mv.trans (.same sm)
    refine hg σ' H2 G' y Gx _ (e'.same sm) rx (fun a ma => cold' a (sub a ma)) (fun a ma => e.org' (f.c3 a (sub a ma))) fun σ3 G3 m3 e3 _ _ _ _ => ?_
    have m13 := m2.trans m3
    refine hb σ3 H2 G3 _ e3 ⟨fun σ4 H4 env4 G4 m4 e4 h4 => ⟨env4, G4, m13.trans m4, e4, h4⟩, fun σ4 H4 env4 G4 m4 e4 h4 => l1.nx σ4 H4 env4 G4 (m13.trans m4) e4 h4, fun σ4 H4 env4 G4 m4 e4 h4 => ⟨env4, G4, m13.trans m4, e4, h4⟩, fun σ4 H4 env4 G4 v d fl' Gv m4 e4 r4 f4 h4 => l1.rt σ4 H4 env4 G4 v d fl' Gv (m13.trans m4) e4 r4 f4 h4⟩
  · have hi' : i = items.length := by omega
    subst hi'
    exact .inl ⟨it.stop H' st', l1.nx σ' H' env' G' mv e' (fin env' ii)⟩
theorem dts_for {wi : TI} {g : TG} {tb : TS} (h : DI K B wi env fun items fl pu env1 => ∃ I : Nat → List Sl → Prop, fl ≠ .view ∧ I 0 env1 ∧
    (∀ k x env2, items[k]? = some x → I k env2 → ∃ ws env3, DG K B ws g x env2 env3 ∧ DTS K B tb env3 { D with nx := I (k + 1), ct := I (k + 1), bk := D.nx }) ∧ (∀ env2, I items.length env2 → D.nx env2)) : DTS K B (tFor wi g tb) env D := fun σ H G E e l => dts_forp (Φ := Tr) (DIp.of h) σ H G E e True.intro l
/-! ### while -/
theorem dts_while {tc : TT} {tb : TS} (I : Nat → List Sl → Prop) (n0 : Nat) (i0 : I n0 env) (h : ∀ n env1, I n env1 → DTT K B tc env1 fun b pu env2 => if b = true then DTS K B tb env2 { D with nx := fun env3 => ∃ m, m < n ∧ I m env3, ct := fun env3 => ∃ m, m < n ∧ I m env3, bk := D.nx } else D.nx env2) : DTS K B (tWhile tc tb) env D := fun σ H G E e l => by
  refine ⟨fun m σ' H' => ∃ env' G', Mv env G H env' G' H' ∧ EnvR K B σ' H' env' G' ∧ I m env', ⟨n0, env, G, .refl, e, i0⟩, ?_⟩
  rintro m σ' H' ⟨env', G', mv, e', ii⟩
  refine h m env' ii σ' H' G' _ e' fun b H2 pu env2 G2 s hb => ?_
  have l2 := l.on (mv.trans s.mv)
  cases b with
  | false =>
    rw [if_neg Bool.false_ne_true] at hb ⊢
    exact l2.nx σ' H2 env2 G2 .refl s.er hb
  | true =>
    rw [if_pos rfl] at hb ⊢
    refine ⟨fun σ4 H4 => ∃ m', m' < m ∧ ∃ env4 G4, Mv env G H env4 G4 H4 ∧ EnvR K B σ4 H4 env4 G4 ∧ I m' env4, fun σ4 H4 ⟨m', lt, x⟩ => ⟨m', lt, x⟩, ?_⟩
    refine hb σ' H2 G2 _ s.er ⟨fun σ4 H4 env4 G4 m4 e4 ⟨m', lt, h4⟩ => ⟨m', lt, env4, G4, (mv.trans s.mv).trans m4, e4, h4⟩, fun σ4 H4 env4 G4 m4 e4 h4 => l2.nx σ4 H4 env4 G4 m4 e4 h4, fun σ4 H4 env4 G4 m4 e4 ⟨m', lt, h4⟩ => ⟨m', lt, env4, G4, (mv.trans s.mv).trans m4, e4, h4⟩, fun σ4 H4 env4 G4 v d fl' Gv m4 e4 r4 f4 h4 => l2.rt σ4 H4 env4 G4 v d fl' Gv m4 e4 r4 f4 h4⟩
end
end Fd
namespace Fd
open PySem PySem.Spec PyProof.Rows L2
/-! ### comprehensions -/
def wipeE (env : List Sl) : List Nat → List Sl
  | [] => env
  | v :: vs => (wipeE env vs).set v .no
def wipeG (G : Nat → List Addr) (vs : List Nat) (j : Nat) : List Addr := if j ∈ vs then [] else G j
theorem wipeE_len {env : List Sl} : ∀ vs : List Nat, (wipeE env vs).length = env.length
  | [] => rfl
  | v :: vs => by unfold wipeE; rw [List.length_set, wipeE_len vs]
theorem wipeE_out {env : List Sl} {j : Nat} : ∀ {vs : List Nat}, j ∉ vs → (wipeE env vs)[j]? = env[j]?
  | [], _ => rfl
  | v :: vs, h => by
    unfold wipeE
    rw [List.getElem?_set_ne fun z => h (by rw [z]; exact List.mem_cons_self)]
    exact wipeE_out fun z => h (List.mem_cons_of_mem _ z)
theorem wipeE_in {env : List Sl} {j : Nat} (hj : j < env.length) : ∀ {vs : List Nat}, j ∈ vs → (wipeE env vs)[j]? = some .no
  | [], h => nomatch h
  | v :: vs, h => by
    unfold wipeE
    by_cases e : v = j
    · subst e
      exact List.getElem?_set_self (by rw [wipeE_len]; exact hj)
    · rw [List.getElem?_set_ne e]
      exact wipeE_in hj ((List.mem_cons.mp h).resolve_left fun z => e z.symm)
theorem wipe_in {σ : L2.St} {j : Nat} (hj : j < σ.length) : ∀ {vs : List Nat}, j ∈ vs → (wipe σ vs)[j]? = some none
  | [], h => nomatch h
  | v :: vs, h => by
    unfold wipe
    by_cases e : v = j
    · subst e
      exact List.getElem?_set_self (by rw [wipe_length]; exact hj)
    · rw [List.getElem?_set_ne e]
      exact wipe_in hj ((List.mem_cons.mp h).resolve_left fun z => e z.symm)
theorem wipe_eq {σ σ2 : L2.St} {vs : List Nat} (hl : σ2.length = σ.length) (h : ∀ j, j ∉ vs → σ2[j]? = (wipe σ vs)[j]?) : wipe σ2 vs = wipe σ vs := by
  refine List.ext_getElem? fun j => ?_
  by_cases hj : j ∈ vs
  · by_cases hlt : j < σ.length
    · rw [wipe_in hlt hj, wipe_in (by rw [hl]; exact hlt) hj]
    · rw [List.getElem?_eq_none (by rw [wipe_length, hl]; exact Nat.not_lt.mp hlt), List.getElem?_eq_none (by rw [wipe_length]; exact Nat.not_lt.mp hlt)]
  · rw [wipe_out hj, h j hj]
section
variable {K : PySem.W.Frag} {B : Bs} {env env1 env2 : List Sl}
theorem EnvR.slots {σ σ' : L2.St} {H : Hp} {G : Nat → List Addr} (e : EnvR K B σ H env G) (hl : σ'.length = σ.length) (h : ∀ (j : Nat) (s : Sl), env[j]? = some s → s ≠ .no → σ'[j]? = σ[j]?) : EnvR K B σ' H env G :=
  ⟨hl.trans e.len, fun i s d h1 h2 => (let ⟨v, h3, r⟩ := e.rep i s d h1 h2; ⟨v, (h i s h1 fun z => by subst z; cases h2).trans h3, r⟩), e.non, e.nod, e.dis, fun i d h1 => (h i _ h1 fun z => nomatch z).trans (e.pin i d h1), e.loc, e.he, e.org, e.pc, e.mu, e.kp⟩
theorem EnvR.forget {σ : L2.St} {H : Hp} {G : Nat → List Addr} {vs : List Nat} (e : EnvR K B σ H env G) (np : ∀ j ∈ vs, ∀ d, env[j]? ≠ some (.pi d)) : EnvR K B σ H (wipeE env vs) (wipeG G vs) := by
  have down : ∀ (j : Nat) (s : Sl), (wipeE env vs)[j]? = some s → s ≠ .no → j ∉ vs ∧ env[j]? = some s := fun j s h n => by
    by_cases hj : j ∈ vs
    · by_cases hlt : j < env.length
      · rw [wipeE_in hlt hj] at h; cases h; exact absurd rfl n
      · rw [List.getElem?_eq_none (by rw [wipeE_len]; exact Nat.not_lt.mp hlt)] at h; cases h
    · rw [wipeE_out hj] at h; exact ⟨hj, h⟩
  have nn : ∀ s : Sl, s.hot = true → s ≠ .no := fun s h z => by subst z; cases h
  have g_out : ∀ j, j ∉ vs → wipeG G vs j = G j := fun j h => if_neg h
  have g_sub : ∀ j a, a ∈ wipeG G vs j → a ∈ G j := fun j a m => by
    unfold wipeG at m
    by_cases h : j ∈ vs
    · rw [if_pos h] at m; cases m
    · rw [if_neg h] at m; exact m
  refine ⟨by rw [wipeE_len]; exact e.len, fun j s d h1 h2 => ?_, fun j h => ?_, fun j s h1 h2 => ?_, fun j k s a n h1 h2 m m' => ?_, fun j d h => ?_, fun j d a h m => ?_, e.he, fun j a m => e.org j a (g_sub j a m), fun j d a h m => ?_, fun j s a h1 h2 m => ?_, fun j h => ?_⟩
  · obtain ⟨hj, h1⟩ := down j s h1 fun z => by subst z; cases h2
    rw [g_out j hj]; exact e.rep j s d h1 h2
  · unfold wipeG
    by_cases hj : j ∈ vs
    · exact if_pos hj
    · rw [if_neg hj]
      rw [wipeE_out hj] at h
      exact e.non j h
  · obtain ⟨hj, h1⟩ := down j s h1 (nn s h2)
    rw [g_out j hj]; exact e.nod j s h1 h2
  · obtain ⟨hj, h1⟩ := down j s h1 (nn s h2)
    exact e.dis j k s a n h1 h2 (g_sub j a m) (g_sub k a m')
  · obtain ⟨hj, h1⟩ := down j _ h fun z => nomatch z
    exact e.pin j d h1
  · obtain ⟨hj, h1⟩ := down j _ h fun z => nomatch z
    exact e.loc j d a h1 (g_sub j a m)
  · obtain ⟨hj, h1⟩ := down j _ h fun z => nomatch z
    exact e.pc j d a h1 (g_sub j a m)
  · obtain ⟨hj, h1⟩ := down j s h1 (nn s h2)
    exact e.mu j s a h1 h2 (g_sub j a m)
  · obtain ⟨d, h1⟩ := e.kp j h
    exact ⟨d, by rw [wipeE_out fun z => np j z d h1]; exact h1⟩
theorem hot_wipe {G : Nat → List Addr} {vs : List Nat} {a : Addr} (h : Hot (wipeE env vs) (wipeG G vs) a) : Hot env G a := by
  obtain ⟨j, s, h1, h2, m⟩ := h
  have hj : j ∉ vs := fun z => by
    unfold wipeG at m
    rw [if_pos z] at m; cases m
  rw [wipeE_out hj] at h1
  unfold wipeG at m
  rw [if_neg hj] at m
  exact ⟨j, s, h1, h2, m⟩
/-- a turn's end: the block's own names are forgotten -/
theorem turn_back {σ σ2 : L2.St} {H1 H' H2 H3 : Hp} {G1 G' G3 G4 : Nat → List Addr} {env' env3 env4 : List Sl} {pb p : Bool} {vs ws : List Nat} (s1 : Se K B σ env1 G1 H1 pb env' G' H') (sm : Same H' H2) (m3 : Mv env' G' H2 env3 G3 H2) (e3 : EnvR K B σ2 H2 env3 G3)
    (l3 : σ2.length = σ.length) (o3 : ∀ j, j ∉ ws → σ2[j]? = σ[j]?) (p3 : ∀ j, j ∉ ws → env3[j]? = env'[j]? ∧ G3 j = G' j) (s4 : Se K B σ2 env3 G3 H2 p env4 G4 H3) (hp : pb = true → p = true) (hw : ∀ j ∈ ws, j ∈ vs) (no : ∀ j ∈ vs, env'[j]? = some .no) (no1 : ∀ j ∈ vs, env1[j]? = some .no) (np : ∀ j ∈ vs, ∀ d, env4[j]? ≠ some (.pi d)) :
    Se K B σ env1 G1 H1 pb (wipeE env4 vs) (wipeG G4 vs) H3 ∧ (∀ a, All (wipeG G4 vs) a → All G' a ∨ H' a = none) ∧ ∀ j ∈ vs, (wipeE env4 vs)[j]? = some .no := by
  have hotd : ∀ a, Hot env3 G3 a → Hot env' G' a ∨ H' a = none := fun a z => by
    rcases m3.c1 a z with z | z
    · exact .inl z
    · exact .inr (sm.free z)
  have hot4 : ∀ a, Hot (wipeE env4 vs) (wipeG G4 vs) a → Hot env' G' a ∨ H' a = none := fun a z => by
    rcases s4.mv.c1 a (hot_wipe z) with z | z
    · exact hotd a z
    · exact .inr (sm.free z)
  have len4 : env4.length = env'.length := by
    rw [s4.ln, ← e3.len, l3, s1.er.len]
  have all4 : ∀ a, All (wipeG G4 vs) a → All G' a ∨ H' a = none := fun a ⟨j, m⟩ => by
    have hj : j ∉ vs := fun z => by unfold wipeG at m; rw [if_pos z] at m; cases m
    have hjw : j ∉ ws := fun z => hj (hw j z)
    have m' : a ∈ G4 j := by unfold wipeG at m; rw [if_neg hj] at m; exact m
    obtain ⟨x1, x2⟩ := p3 j hjw
    cases h : env3[j]? with
    | none =>
      have : env4[j]? = none := by
        rw [List.getElem?_eq_none_iff] at h ⊢
        rw [s4.ln]; exact h
      rw [s4.er.non j (.inr this)] at m'; cases m'
    | some sl =>
      cases hh : sl.hot with
      | false =>
        obtain ⟨_, g⟩ := s4.cs j sl h hh
        rw [g, x2] at m'
        exact .inl ⟨j, m'⟩
      | true =>
        obtain ⟨d, h4⟩ := s4.hs j sl h hh
        rcases s4.mv.c1 a ⟨j, _, h4, Sl.put_hot hh d, m'⟩ with z | z
        · exact (hotd a z).imp_left Hot.all
        · exact .inr (sm.free z)
  have er6 : EnvR K B σ H3 (wipeE env4 vs) (wipeG G4 vs) := by
    refine (s4.er.forget np).slots l3.symm fun j s h n => ?_
    have hj : j ∉ vs := fun z => by
      by_cases hlt : j < env4.length
      · rw [wipeE_in hlt z] at h; cases h; exact n rfl
      · rw [List.getElem?_eq_none (by rw [wipeE_len]; exact Nat.not_lt.mp hlt)] at h; cases h
    exact (o3 j fun z => hj (hw j z)).symm
  refine ⟨⟨⟨s1.mv.stp.trans ((Stp.same sm).trans (s4.mv.stp.mono fun a z => z) (M1 := Hot env3 G3) (M := Hot env' G') hotd) s1.mv.c1, fun a z => ?_⟩, fun a z => ?_, fun j s h k => ?_, fun j s h k => ?_, ?_, er6, fun hpb => ?_⟩, all4, fun j hj => ?_⟩
  · rcases hot4 a z with z | z
    · exact s1.mv.c1 a z
    · exact .inr (s1.mv.stp.al a z)
  · rcases all4 a z with z | z
    · exact s1.c2 a z
    · exact .inr (s1.mv.stp.al a z)
  · by_cases hj : j ∈ vs
    · have hlt : j < env4.length := by
        rw [len4]; exact (List.getElem?_eq_some_iff.mp (no j hj)).1
      rw [no1 j hj] at h; cases h
      refine ⟨wipeE_in hlt hj, ?_⟩
      unfold wipeG
      rw [if_pos hj]
      -- nothing hung there
      have := s1.cs j .no (no1 j hj) rfl
      rw [← this.2]
      exact (s1.er.non j (.inl (no j hj))).symm
    · obtain ⟨y1, y2⟩ := s1.cs j s h k
      obtain ⟨x1, x2⟩ := p3 j fun z => hj (hw j z)
      obtain ⟨z1, z2⟩ := s4.cs j s (x1.trans y1) k
      refine ⟨by rw [wipeE_out hj]; exact z1, ?_⟩
      unfold wipeG
      rw [if_neg hj]
      exact z2.trans (x2.trans y2)
  · have hj : j ∉ vs := fun z => by rw [no1 j z] at h; cases h; cases k
    obtain ⟨d1, y1⟩ := s1.hs j s h k
    obtain ⟨x1, _⟩ := p3 j fun z => hj (hw j z)
    obtain ⟨d2, z1⟩ := s4.hs j _ (x1.trans y1) (Sl.put_hot k d1)
    rw [Sl.put_put] at z1
    exact ⟨d2, by rw [wipeE_out hj]; exact z1⟩
  · rw [wipeE_len, len4]; exact s1.ln
  · obtain ⟨q1, q2, q3⟩ := s1.pr hpb
    obtain ⟨r1, r2, r3⟩ := s4.pr (hp hpb)
    refine ⟨q1.trans (sm.trans r1), ?_, ?_⟩
    · rw [← q2]
      refine List.ext_getElem? fun j => ?_
      by_cases hj : j ∈ vs
      · rw [no j hj]
        exact wipeE_in (by rw [len4]; exact (List.getElem?_eq_some_iff.mp (no j hj)).1) hj
      · rw [wipeE_out hj, r2]
        exact (p3 j fun z => hj (hw j z)).1
    · rw [← q3]
      funext j
      unfold wipeG
      by_cases hj : j ∈ vs
      · rw [if_pos hj]
        exact (s1.er.non j (.inl (no j hj))).symm
      · rw [if_neg hj, r3]
        exact (p3 j fun z => hj (hw j z)).2
  · exact wipeE_in (by rw [len4]; exact (List.getElem?_eq_some_iff.mp (no j hj)).1) hj
theorem EnvR.upd1 {σ : L2.St} {H : Hp} {G : Nat → List Addr} {D : Addr} {o : HO} (e : EnvR K B σ H env G) (h : ¬ All G D) (hD : H D ≠ none) (nm : ∀ u, H D = some u → Mu u) : EnvR K B σ (upd H D o) env G := by
  have st : Stp (fun a => a = D) H (upd H D o) := ⟨fun a u q n => by
    by_cases z : a = D
    · subst z; exact absurd rfl (n (nm u q))
    · rw [upd_ne z]; exact q, fun a q => by
    by_cases z : a = D
    · subst z; rw [upd_same] at q; cases q
    · rw [upd_ne z] at q; exact q⟩
  exact ⟨e.len, fun i s d h1 h2 => (let ⟨v, h3, r⟩ := e.rep i s d h1 h2; ⟨v, h3, r.step st fun a m z => h ⟨i, by rw [← z]; exact m⟩⟩), e.non, e.nod, e.dis, e.pin, e.loc, fun a q => e.he a (st.al a q), e.org, e.pc, fun i s a h1 h2 m => (by
    obtain ⟨u, q, mm⟩ := e.mu i s a h1 h2 m
    refine ⟨u, ?_, mm⟩
    rw [upd_ne fun z => h ⟨i, by rw [← z]; exact m⟩]
    exact q), e.kp⟩
theorem Se.puW {σ : L2.St} {H H1 : Hp} {G G1 : Nat → List Addr} (s : Se K B σ env G H true env1 G1 H1) (pb : Bool) : Se K B σ env G H pb env1 G1 H1 := ⟨s.mv, s.c2, s.cs, s.hs, s.ln, s.er, fun _ => s.pr rfl⟩
theorem flm_nv {a b : Fl} (h1 : a ≠ .view) (h2 : b ≠ .view) : flm a b ≠ .view := by
  cases a <;> cases b <;> first | exact absurd rfl h1 | exact absurd rfl h2 | decide
theorem dt_lcp {Φ : L2.St → Hp → Prop} {P : Dv → Fl → Bool → List Sl → Prop} {wi : TI} {g : TG} {tt : TT} {te : TE} {vs : List Nat} (pb : Bool) (h : DIp Φ K B wi env fun items fl pu env1 => ∃ I : Nat → List Dv → Fl → List Sl → Prop, (fl = .view → pb = true) ∧ (∀ j ∈ vs, env1[j]? = some .no) ∧ I 0 [] .fresh env1 ∧
    (∀ k x acc f env2, items[k]? = some x → I k acc f env2 → ∃ ws env3, (∀ j ∈ ws, j ∈ vs) ∧ DG K B ws g x env2 env3 ∧ (∀ j ∈ vs, ∀ d, env3[j]? ≠ some (.pi d)) ∧ (fl = .view → x.pur = true) ∧
      DTT K B tt env3 fun b p env4 => (pb = true → p = true) ∧ if b = true then DT K B te env4 fun y fy p2 env5 => (pb = true → p2 = true) ∧ ef y fy ≠ .view ∧ acc.length < sizeLine ∧ I (k + 1) (acc ++ [y]) (flm f (ef y fy)) (wipeE env5 vs) else I (k + 1) acc f (wipeE env4 vs)) ∧
    (∀ acc f env2, I items.length acc f env2 → P (.lst acc) f (pu && pb) env2)) : DTp Φ K B (tLc wi g tt te vs) env P := fun σ H G Q e φ q => by
  refine h σ H G _ e φ fun J H1 pu env1 G1 St fl Gv0 items s it st f ⟨I, nv, no, i0, turn, fin⟩ => ?_
  intro D hD
  have D0 : ¬ All G1 D := s.er.not_all hD
  have DH : H D = none := s.mv.stp.al D hD
  have DG0 : D ∉ Gv0 := fun m => by
    obtain ⟨o, k⟩ := it.alloc H1 st D m
    rw [hD] at k; cases k
  have slot_b : ∀ (j : Nat) (sl : Sl), env1[j]? = some sl → sl ≠ .no → (wipe σ vs)[j]? = σ[j]? := fun j sl h1 h2 => wipe_out fun z => by
    rw [no j z] at h1; cases h1; exact h2 rfl
  have eb : EnvR K B (wipe σ vs) H1 env1 G1 := s.er.slots (wipe_length σ vs) slot_b
  -- the walk's word
  refine ⟨fun i m H' => m = items.length - i ∧ i ≤ items.length ∧ ∃ acc f' env' G' accV Gacc, Se K B (wipe σ vs) env1 G1 H1 pb env' G' H' ∧ H' D = some (.lst accV) ∧ Reps K H' accV acc Gacc ∧ ¬ All G' D ∧ D ∉ Gacc ∧ f' ≠ .view ∧ Vf H G env' G' H' f' Gacc ∧ (∀ j ∈ vs, env'[j]? = some .no) ∧ I i acc f' env',
    ⟨_, rfl, Nat.zero_le _, [], .fresh, env1, G1, [], [], .puW (.same eb (same_new hD)) pb, upd_same, .nil, D0, (fun m => nomatch m), (fun z => nomatch z), .nil, no, i0⟩, ?_⟩
  rintro i m H' ⟨rfl, hi, acc, f', env', G', accV, Gacc, s1, hDl, racc, nD, nDg, nvf, vf, no', ii⟩
  have st' : St H' := by
    cases hfl : fl with
    | view =>
      obtain ⟨sm, _, _⟩ := s1.pr (nv hfl)
      exact it.per (fun _ => False) _ _ (.same sm) (fun _ _ z => z) st
    | cold => exact it.per _ _ _ s1.mv.stp (f.cold (by rw [hfl]; exact fun z => nomatch z)) st
    | fresh => exact it.per _ _ _ s1.mv.stp (f.cold (by rw [hfl]; exact fun z => nomatch z)) st
  by_cases hlt : i < items.length
  case neg =>
    have hi' : i = items.length := by omega
    subst hi'
    left
    refine ⟨it.stop H' st', ?_⟩
    have es : EnvR K B σ H' env' G' := s1.er.slots (wipe_length σ vs).symm fun j sl h1 h2 => (wipe_out fun z => by rw [no' j z] at h1; cases h1; exact h2 rfl).symm
    have s2 : Se K B σ env1 G1 H1 pb env' G' H' := ⟨s1.mv, s1.c2, s1.cs, s1.hs, s1.ln, es, s1.pr⟩
    refine q (.ref D) H' (.lst acc) f' _ env' G' (D :: Gacc) (s.trans s2) (.lst hDl racc) ⟨fun _ a ma => ?_, fun hf => ⟨List.nodup_cons.mpr ⟨nDg, (vf.fr hf).1⟩, fun a ma => ?_⟩, fun a ma => ?_⟩ (fin acc f' env' ii)
    · rcases List.mem_cons.mp ma with rfl | ma
      · exact fun z => nD z.all
      · exact vf.cold nvf a ma
    · rcases List.mem_cons.mp ma with rfl | ma
      · exact ⟨⟨DH, nD⟩, _, hDl, True.intro⟩
      · exact (vf.fr hf).2 a ma
    · rcases List.mem_cons.mp ma with rfl | ma
      · exact .inr DH
      · exact vf.c3 a ma
  case pos =>
    right
    obtain ⟨x, hx⟩ : ∃ x, items[i]? = some x := ⟨_, List.getElem?_eq_getElem hlt⟩
    obtain ⟨go, yl⟩ := it.go i x H' hx st'
    refine ⟨go, fun H3 => ∃ acc f' env' G' accV Gacc, Se K B (wipe σ vs) env1 G1 H1 pb env' G' H3 ∧ H3 D = some (.lst accV) ∧ Reps K H3 accV acc Gacc ∧ ¬ All G' D ∧ D ∉ Gacc ∧ f' ≠ .view ∧ Vf H G env' G' H3 f' Gacc ∧ (∀ j ∈ vs, env'[j]? = some .no) ∧ I (i + 1) acc f' env',
      fun H3 h3 => ⟨items.length - (i + 1), by omega, rfl, hlt, h3⟩, fun y H2 hy => ?_⟩
    obtain ⟨sm, Gx, rx, sub⟩ := yl y H2 hy
    obtain ⟨ws, env3, hws, hg, np, pv, hb⟩ := turn i x acc f' env' hx ii
    have coldx : ∀ a ∈ Gx, ¬ Hot env' G' a := fun a ma z => by
      cases hfl : fl with
      | view =>
        have := rx.purG (pv hfl)
        rw [this] at ma; cases ma
      | cold =>
        rcases s1.mv.c1 a z with z | z
        · exact f.cold (by rw [hfl]; exact fun z => nomatch z) a (sub a ma) z
        · obtain ⟨o, k⟩ := it.alloc H1 st a (sub a ma)
          rw [z] at k; cases k
      | fresh =>
        rcases s1.mv.c1 a z with z | z
        · exact f.cold (by rw [hfl]; exact fun z => nomatch z) a (sub a ma) z
        · obtain ⟨o, k⟩ := it.alloc H1 st a (sub a ma)
          rw [z] at k; cases k
    refine hg _ H2 G' y Gx _ (s1.er.same sm) rx coldx (fun a ma => e.org' (f.c3 a (sub a ma))) fun σ2 G3 m3 e3 l3 o3 p3 a3 => ⟨?_, ?_⟩
    · exact wipe_eq (l3.trans (wipe_length σ vs)) fun j hj => o3 j fun z => hj (hws j z)
    have nD3 : ¬ All G3 D := fun z => by
      rcases a3 D z with z | z
      · exact nD z
      · exact DG0 (sub D z)
    refine hb σ2 H2 G3 _ e3 fun b H3 p env4 G4 s4 ⟨hp, hb⟩ => ?_
    have np4 : ∀ j ∈ vs, ∀ d, env4[j]? ≠ some (.pi d) := fun j hj d z => by
      cases h3 : env3[j]? with
      | none =>
        have : env4[j]? = none := by rw [List.getElem?_eq_none_iff] at h3 ⊢; rw [s4.ln]; exact h3
        rw [this] at z; cases z
      | some sl =>
        cases hh : sl.hot with
        | false =>
          obtain ⟨k, _⟩ := s4.cs j sl h3 hh
          rw [k] at z; cases z; cases hh
        | true =>
          obtain ⟨d', k⟩ := s4.hs j sl h3 hh
          rw [k] at z
          cases sl with
          | no => cases hh
          | co d => cases hh
          | ho d => cases z
          | pi d => exact np j hj d h3
    -- what lies at D, and what was made so far, stays while an element is reckoned
    have lay : ∀ {H4 : Hp} {pz : Bool} {env5 : List Sl} {G5 : Nat → List Addr}, Se K B σ2 env3 G3 H2 pz env5 G5 H4 → H4 D = some (.lst accV) ∧ Reps K H4 accV acc Gacc := fun {H4 pz env5 G5} sz => by
      have hot3 : ∀ a, Hot env3 G3 a → Hot env' G' a ∨ H' a = none := fun a z => by
        rcases m3.c1 a z with z | z
        · exact .inl z
        · exact .inr (sm.free z)
      refine ⟨sz.mv.stp.keep D _ (sm D _ hDl) fun _ z => nD3 z.all, (racc.step (M := fun _ => False) (.same sm) fun _ _ z => z).step sz.mv.stp fun a ma z => ?_⟩
      rcases hot3 a z with z | z
      · exact vf.cold nvf a ma z
      · obtain ⟨o, k⟩ := racc.alloc a ma
        rw [z] at k; cases k
    have vfK : ∀ {H4 : Hp} {pz : Bool} {env5 : List Sl} {G5 : Nat → List Addr}, Se K B σ2 env3 G3 H2 pz env5 G5 H4 → (∀ a, All (wipeG G5 vs) a → All G' a ∨ H' a = none) → Vf H G (wipeE env5 vs) (wipeG G5 vs) H4 f' Gacc := fun {H4 pz env5 G5} sz all5 => by
      have al : ∀ a ∈ Gacc, H' a ≠ none := fun a ma z => by
        obtain ⟨o, k⟩ := racc.alloc a ma
        rw [z] at k; cases k
      have hot3 : ∀ a, Hot env3 G3 a → Hot env' G' a ∨ H' a = none := fun a z => by
        rcases m3.c1 a z with z | z
        · exact .inl z
        · exact .inr (sm.free z)
      refine ⟨fun _ a ma z => ?_, fun hf => ⟨(vf.fr hf).1, fun a ma => ⟨⟨((vf.fr hf).2 a ma).1.1, fun z => ?_⟩, ?_⟩⟩, vf.c3⟩
      · rcases sz.mv.c1 a (hot_wipe z) with z | z
        · rcases hot3 a z with z | z
          · exact vf.cold nvf a ma z
          · exact al a ma z
        · exact al a ma (sm.free z)
      · rcases all5 a z with z | z
        · exact ((vf.fr hf).2 a ma).1.2 z
        · exact al a ma z
      · obtain ⟨o, k, mm⟩ := ((vf.fr hf).2 a ma).2
        refine ⟨o, sz.mv.stp.keep a o (sm a o k) fun _ z => ?_, mm⟩
        rcases hot3 a z with z | z
        · exact vf.cold nvf a ma z
        · exact al a ma z
    cases b with
    | false =>
      rw [if_neg Bool.false_ne_true] at hb ⊢
      obtain ⟨sb, all5, no5⟩ := turn_back s1 sm m3 e3 l3 o3 p3 s4 hp hws no' no np4
      obtain ⟨q1, q2⟩ := lay s4
      refine ⟨acc, f', _, _, accV, Gacc, sb, q1, q2, fun z => ?_, nDg, nvf, vfK s4 all5, no5, hb⟩
      rcases all5 D z with z | z
      · exact nD z
      · rw [hDl] at z; cases z
    | true =>
      rw [if_pos rfl] at hb ⊢
      refine hb σ2 H3 G4 _ s4.er fun v H4 yd fy p2 env5 G5 Gy s5 ry fvy ⟨hp2, nvy, hsz, hI⟩ => ?_
      have s45 := s4.trans s5
      have np5 : ∀ j ∈ vs, ∀ d, env5[j]? ≠ some (.pi d) := fun j hj d z => by
        cases h3 : env4[j]? with
        | none =>
          have : env5[j]? = none := by rw [List.getElem?_eq_none_iff] at h3 ⊢; rw [s5.ln]; exact h3
          rw [this] at z; cases z
        | some sl =>
          cases hh : sl.hot with
          | false =>
            obtain ⟨k, _⟩ := s5.cs j sl h3 hh
            rw [k] at z; cases z; cases hh
          | true =>
            obtain ⟨d', k⟩ := s5.hs j sl h3 hh
            rw [k] at z
            cases sl with
            | no => cases hh
            | co d => cases hh
            | ho d => cases z
            | pi d => exact np4 j hj d h3
      obtain ⟨sb, all5, no5⟩ := turn_back s1 sm m3 e3 l3 o3 p3 s45 (fun z => by rw [hp z, hp2 z]; rfl) hws no' no np5
      obtain ⟨q1, q2⟩ := lay s45
      have nD6 : ¬ All (wipeG G5 vs) D := fun z => by
        rcases all5 D z with z | z
        · exact nD z
        · rw [hDl] at z; cases z
      have q3 : H3 D = some (.lst accV) := (lay s4).1
      have nDy : D ∉ Gy := fun m => by
        rcases fvy.c3 D m with z | z
        · rcases s4.c2 D z with z | z
          · exact nD3 z
          · rw [sm D _ hDl] at z; cases z
        · rw [q3] at z; cases z
      refine ⟨accV, q1, by rw [q2.len]; exact hsz, acc ++ [yd], flm f' (ef yd fy), _, _, accV ++ [v], Gacc ++ Gy, ?_, upd_same, ?_, nD6, ?_, ?_, ?_, no5, hI⟩
      · have er7 := sb.er.upd1 (o := .lst (accV ++ [v])) nD6 (by rw [q1]; exact fun z => nomatch z) (fun u z => by rw [q1] at z; cases z; exact True.intro)
        refine ⟨⟨⟨fun a o k n => ?_, fun a k => ?_⟩, sb.mv.c1⟩, sb.c2, sb.cs, sb.hs, sb.ln, er7, fun z => ?_⟩
        · have : a ≠ D := fun z => by rw [z, hD] at k; cases k
          rw [upd_ne this]; exact sb.mv.stp.keep a o k n
        · refine sb.mv.stp.al a ?_
          by_cases z : a = D
          · subst z; rw [upd_same] at k; cases k
          · rw [upd_ne z] at k; exact k
        · obtain ⟨k1, k2, k3⟩ := sb.pr z
          refine ⟨fun a o k => ?_, k2, k3⟩
          have : a ≠ D := fun z => by rw [z, hD] at k; cases k
          rw [upd_ne this]; exact k1 a o k
      · have st1 : Stp (fun a => a = D) H4 (upd H4 D (.lst (accV ++ [v]))) := ⟨fun a u k n => by
          by_cases z : a = D
          · subst z; rw [q1] at k; cases k; exact absurd rfl (n True.intro)
          · rw [upd_ne z]; exact k, fun a k => by
          by_cases z : a = D
          · subst z; rw [upd_same] at k; cases k
          · rw [upd_ne z] at k; exact k⟩
        exact (q2.app (Reps.one ry)).step st1 fun a m z => by
          subst z
          rcases List.mem_append.mp m with m | m
          · exact nDg m
          · exact nDy m
      · exact fun m => (List.mem_append.mp m).elim nDg nDy
      · exact flm_nv nvf nvy
      · have v1 := vfK s45 all5
        have v2 := fvy.ef ry
        have al3 : ∀ a, H3 a = none → H a = none := fun a z => s.mv.stp.al a (s1.mv.stp.al a (sm.free (s4.mv.stp.al a z)))
        refine ⟨fun _ a m => ?_, fun hf => ?_, fun a m => ?_⟩
        · rcases List.mem_append.mp m with m | m
          · exact v1.cold nvf a m
          · exact fun z => v2.cold nvy a m (hot_wipe z)
        · obtain ⟨n1, n2⟩ := flm_fresh hf
          refine ⟨List.nodup_append.mpr ⟨(v1.fr n1).1, (v2.fr n2).1, fun a ma b mb z => ?_⟩, fun a m => ?_⟩
          · subst z
            have k1 := ((v2.fr n2).2 a mb).1.1
            obtain ⟨o, k⟩ := (lay s4).2.alloc a ma
            rw [k1] at k; cases k
          · rcases List.mem_append.mp m with m | m
            · obtain ⟨k1, o, k2, mm⟩ := (v1.fr n1).2 a m
              exact ⟨k1, o, (upd_ne (show a ≠ D from fun z => nDg (by rw [← z]; exact m))).trans k2, mm⟩
            · obtain ⟨⟨k1, k3⟩, o, k2, mm⟩ := (v2.fr n2).2 a m
              refine ⟨⟨al3 a k1, fun ⟨j, z⟩ => k3 ⟨j, ?_⟩⟩, o, (upd_ne (show a ≠ D from fun z => nDy (by rw [← z]; exact m))).trans k2, mm⟩
              unfold wipeG at z
              by_cases hj : j ∈ vs
              · rw [if_pos hj] at z; cases z
              · rw [if_neg hj] at z; exact z
        · rcases List.mem_append.mp m with m | m
          · exact vf.c3 a m
          · rcases fvy.c3 a m with z | z
            · rcases s4.c2 a z with z | z
              · rcases a3 a z with z | z
                · rcases s1.c2 a z with z | z
                  · exact s.c2 a z
                  · exact .inr (s.mv.stp.al a z)
                · exact f.c3 a (sub a z)
              · exact .inr (s.mv.stp.al a (s1.mv.stp.al a (sm.free z)))
            · exact .inr (al3 a z)
theorem dt_lc {P : Dv → Fl → Bool → List Sl → Prop} {wi : TI} {g : TG} {tt : TT} {te : TE} {vs : List Nat} (pb : Bool) (h : DI K B wi env fun items fl pu env1 => ∃ I : Nat → List Dv → Fl → List Sl → Prop, (fl = .view → pb = true) ∧ (∀ j ∈ vs, env1[j]? = some .no) ∧ I 0 [] .fresh env1 ∧
    (∀ k x acc f env2, items[k]? = some x → I k acc f env2 → ∃ ws env3, (∀ j ∈ ws, j ∈ vs) ∧ DG K B ws g x env2 env3 ∧ (∀ j ∈ vs, ∀ d, env3[j]? ≠ some (.pi d)) ∧ (fl = .view → x.pur = true) ∧
      DTT K B tt env3 fun b p env4 => (pb = true → p = true) ∧ if b = true then DT K B te env4 fun y fy p2 env5 => (pb = true → p2 = true) ∧ ef y fy ≠ .view ∧ acc.length < sizeLine ∧ I (k + 1) (acc ++ [y]) (flm f (ef y fy)) (wipeE env5 vs) else I (k + 1) acc f (wipeE env4 vs)) ∧
    (∀ acc f env2, I items.length acc f env2 → P (.lst acc) f (pu && pb) env2)) : DT K B (tLc wi g tt te vs) env P := fun σ H G Q e q => dt_lcp (Φ := Tr) pb (DIp.of h) σ H G Q e True.intro q
end
end Fd
namespace Fd
open PySem PySem.Spec PyProof.Rows L2
section
variable {K : PySem.W.Frag} {B : Bs} {env env1 env2 : List Sl} {D : Ds} {P : Dv → Fl → Bool → List Sl → Prop} {ta tb te tl : TE} {t u : TS} {c : TT} {tr : TA}
/-! ### one's own thing changes -/
theorem EnvR.put {σ : L2.St} {H H' : Hp} {G : Nat → List Addr} {i : Nat} {s : Sl} {v : V} {d : Dv} {g : List Addr} (e : EnvR K B σ H env G) (hi : env[i]? = some s) (hs : s.hot = true) (hv : σ[i]? = some (some v)) (st : Stp (fun a => a ∈ G i) H H') (r : Rep K H' v d g)
    (nd : g.Nodup) (from_ : ∀ a ∈ g, a ∈ G i ∨ (H a = none)) (mu : ∀ a ∈ g, ∃ o, H' a = some o ∧ Mu o) : EnvR K B σ H' (env.set i (s.put d)) (setG G i g) := by
  have hlt : i < env.length := (List.getElem?_eq_some_iff.mp hi).1
  have at_i : (env.set i (s.put d))[i]? = some (s.put d) := List.getElem?_set_self hlt
  have at_j : ∀ j, j ≠ i → (env.set i (s.put d))[j]? = env[j]? := fun j n => List.getElem?_set_ne (Ne.symm n)
  have alive : ∀ j a, a ∈ G j → H a ≠ none := fun j a m z => by
    obtain ⟨o, k⟩ := e.alloc m
    rw [z] at k; cases k
  refine ⟨by rw [List.length_set]; exact e.len, fun j sj dj h1 h2 => ?_, fun j h => ?_, fun j sj h1 h2 => ?_, fun j k sj a n h1 h2 m => ?_, fun j dj h => ?_, fun j dj a h m => ?_, fun a h => e.he a (st.al a h), fun j a m => ?_, fun j dj a h m => ?_, fun j sj a h1 h2 m => ?_, fun j h => ?_⟩
  · by_cases n : j = i
    · subst n
      rw [at_i] at h1; cases h1
      rw [put_dv] at h2; cases h2
      rw [setG_same]
      exact ⟨v, hv, r⟩
    · rw [at_j j n] at h1
      rw [setG_ne n]
      obtain ⟨w', h3, r'⟩ := e.rep j sj dj h1 h2
      exact ⟨w', h3, r'.step st fun a m z => e.dis i j s a (Ne.symm n) hi hs z m⟩
  · by_cases n : j = i
    · subst n
      rcases h with h | h
      · rw [at_i] at h
        cases s with
        | no => cases hs
        | co d' => cases hs
        | ho d' =>
          have h : some (Sl.ho d) = some Sl.no := h
          cases h
        | pi d' =>
          have h : some (Sl.pi d) = some Sl.no := h
          cases h
      · rw [at_i] at h; cases h
    · rw [at_j j n] at h
      rw [setG_ne n]; exact e.non j h
  · by_cases n : j = i
    · subst n; rw [setG_same]; exact nd
    · rw [at_j j n] at h1
      rw [setG_ne n]; exact e.nod j sj h1 h2
  · by_cases nj : j = i
    · subst nj
      rw [setG_same] at m
      rw [setG_ne (Ne.symm n)]
      rcases from_ a m with z | z
      · exact e.dis j k s a n hi hs z
      · exact fun m' => alive k a m' z
    · rw [at_j j nj] at h1
      rw [setG_ne nj] at m
      by_cases nk : k = i
      · subst nk
        rw [setG_same]
        intro m'
        rcases from_ a m' with z | z
        · exact e.dis j k sj a n h1 h2 m z
        · exact alive j a m z
      · rw [setG_ne nk]
        exact e.dis j k sj a n h1 h2 m
  · by_cases n : j = i
    · subst n
      rw [at_i] at h
      cases s with
      | no => cases hs
      | co d => cases hs
      | ho d => cases h
      | pi d' => exact e.pin j d' hi
    · rw [at_j j n] at h
      exact e.pin j dj h
  · by_cases n : j = i
    · subst n
      rw [at_i] at h
      rw [setG_same] at m
      cases s with
      | no => cases hs
      | co d => cases hs
      | ho d' =>
        rcases from_ a m with z | z
        · exact e.loc j d' a hi z
        · exact e.he a z
      | pi d' => cases h
    · rw [at_j j n] at h
      rw [setG_ne n] at m
      exact e.loc j dj a h m
  · by_cases n : j = i
    · subst n
      rw [setG_same] at m
      rcases from_ a m with z | z
      · exact e.org j a z
      · exact .inr (e.he a z)
    · rw [setG_ne n] at m
      exact e.org j a m
  · by_cases n : j = i
    · subst n
      rw [at_i] at h
      rw [setG_same] at m
      cases s with
      | no => cases hs
      | co d => cases hs
      | ho d' => cases h
      | pi d' =>
        rcases from_ a m with z | z
        · exact e.pc j d' a hi z
        · exact .inr (e.he a z)
    · rw [at_j j n] at h
      rw [setG_ne n] at m
      exact e.pc j dj a h m
  · by_cases n : j = i
    · subst n
      rw [setG_same] at m
      exact mu a m
    · rw [at_j j n] at h1
      rw [setG_ne n] at m
      obtain ⟨o, k, mm⟩ := e.mu j sj a h1 h2 m
      exact ⟨o, st.keep a o k fun _ z => e.dis i j s a (Ne.symm n) hi hs z m, mm⟩
  · obtain ⟨dj, h'⟩ := e.kp j h
    by_cases n : j = i
    · subst n
      rw [hi] at h'; cases h'
      exact ⟨d, at_i⟩
    · exact ⟨dj, by rw [at_j j n]; exact h'⟩
theorem mv_put {H H' : Hp} {G : Nat → List Addr} {i : Nat} {s s' : Sl} {g : List Addr} (hi : env[i]? = some s) (hs : s.hot = true) (st : Stp (fun a => a ∈ G i) H H') (from_ : ∀ a ∈ g, a ∈ G i ∨ H a = none) : Mv env G H (env.set i s') (setG G i g) H' :=
  ⟨st.mono fun a m => ⟨i, s, hi, hs, m⟩, fun a z => by
    rcases hot_set z with z | ⟨_, m⟩
    · exact .inl z
    · rcases from_ a m with z | z
      · exact .inl ⟨i, s, hi, hs, z⟩
      · exact .inr z⟩
theorem hot_dv {s : Sl} (h : s.hot = true) : ∃ d, s.dv = some d := by
  cases s with
  | no => cases h
  | co d => cases h
  | ho d => exact ⟨d, rfl⟩
  | pi d => exact ⟨d, rfl⟩
theorem stp_one {H : Hp} {a : Addr} {o u : HO} {M : Addr → Prop} (h : H a = some u) (hu : Mu u) (m : M a) : Stp M H (upd H a o) :=
  ⟨fun b w q n => by
    by_cases z : b = a
    · subst z; rw [h] at q; cases q; exact absurd m (n hu)
    · rw [upd_ne z]; exact q, fun b q => by
    by_cases z : b = a
    · subst z; rw [upd_same] at q; cases q
    · rw [upd_ne z] at q; exact q⟩
theorem Reps.setP {H : Hp} : ∀ {vs : List V} {ds : List Dv} {G : List Addr} (j : Nat) {v : V} {d : Dv}, Reps K H vs ds G → Dv.purs ds = true → Rep K H v d [] → Reps K H (vs.set j v) (ds.set j d) []
  | _, _, _, j, v, d, .nil, _, _ => .nil
  | _, _, _, 0, v, d, .cons h r, p, q => by
    have p' : _ ∧ _ := Bool.and_eq_true_iff.mp p
    have := r.purG p'.2
    subst this
    exact .cons q r
  | _, _, _, j + 1, v, d, .cons h r, p, q => by
    have p' : _ ∧ _ := Bool.and_eq_true_iff.mp p
    have := h.purG p'.1
    subst this
    exact .cons h (Reps.setP j r p'.2 q)
/-- x[i] = e, x a list of one's own of what can't change -/
theorem dts_setIx {i : Nat} {ti : TE} (h : DT K B te env fun d fl p1 env1 => d.pur = true ∧ (∃ s, env1[i]? = some s ∧ s.hot = true) ∧ DT K B ti env1 fun di _ _ env2 => ∃ s xs k j, env2[i]? = some s ∧ s.hot = true ∧ s.dv = some (.lst xs) ∧ di = .int k ∧ ixN xs.length k = some j ∧ Dv.purs xs = true ∧ D.nx (env2.set i (s.put (.lst (xs.set j d))))) :
    DTS K B (tAsg te (gSub (tVar i) ti rSetL)) env D := fun σ H G E e l => by
  refine h σ H G _ e fun v H1 d fl p1 env1 G1 Gv s1 r f ⟨hp, ⟨sl1, k1, k2⟩, h1⟩ => ?_
  have hG := r.purG hp
  subst hG
  obtain ⟨dx, hdx⟩ := hot_dv k2
  obtain ⟨x, hx, _⟩ := s1.er.rep i sl1 dx k1 hdx
  refine ⟨x, hx, h1 σ H1 G1 _ s1.er fun vi H2 di fi p2 env2 G2 Gi s2 ri fi' ⟨sl, xs, k, j, e1, e2, e3, e4, e5, e6, hn⟩ => ?_⟩
  subst e4
  cases ri
  obtain ⟨x', hx', rx⟩ := s2.er.rep i sl _ e1 e3
  rw [hx] at hx'; cases hx'
  obtain ⟨r2, _⟩ := pend s2 r (f.ef r) (fun z => by unfold Fd.ef at z; rw [if_pos hp] at z; cases z)
  generalize hg : G2 i = g at rx
  cases rx with
  | @lst a vs _ g ha ra =>
    have hz := ra.purG e6
    subst hz
    refine ⟨a, vs, k, j, rfl, rfl, ha, by rw [ra.len]; exact e5, ?_⟩
    have st : Stp (fun b => b ∈ G2 i) H2 (upd H2 a (.lst (vs.set j v))) := stp_one ha True.intro (by rw [hg]; exact List.mem_cons_self)
    have st1 : Stp (fun b => b = a) H2 (upd H2 a (.lst (vs.set j v))) := stp_one ha True.intro rfl
    have rn : Rep K (upd H2 a (.lst (vs.set j v))) (.ref a) (.lst (xs.set j d)) [a] := .lst upd_same ((ra.setP j e6 r2).step st1 fun b m => (nomatch m))
    have fr : ∀ b ∈ [a], b ∈ G2 i ∨ H2 b = none := fun b m => .inl (by rw [hg]; exact m)
    have er := s2.er.put e1 e2 hx st rn (List.nodup_cons.mpr ⟨fun m => (nomatch m), .nil⟩) fr fun b m => by
      rcases List.mem_cons.mp m with rfl | m
      · exact ⟨_, upd_same, True.intro⟩
      · cases m
    exact l.nx σ _ _ _ ((s1.mv.trans s2.mv).trans (mv_put e1 e2 st fr)) er hn
/-- x.append(e), x a list of one's own -/
theorem dts_append {i : Nat} (h : DT K B te env fun d fl p1 env1 => d.pur = true ∧ ∃ s xs, env1[i]? = some s ∧ s.hot = true ∧ s.dv = some (.lst xs) ∧ xs.length < sizeLine ∧ D.nx (env1.set i (s.put (.lst (xs ++ [d]))))) (hi : ∃ s xs, env[i]? = some s ∧ s.hot = true ∧ s.dv = some (.lst xs)) :
    DTS K B (tDrop (tBM K "list" rAppend (tVar i) (tCons te tNil))) env D := fun σ H G E e l => by
  obtain ⟨s0, xs0, k1, k2, k3⟩ := hi
  obtain ⟨x, hx, rx0⟩ := e.rep i s0 _ k1 k3
  refine ⟨x, hx, ?_, ?_⟩
  · generalize G i = g0 at rx0
    cases rx0 with
    | lst ha _ => exact .inl ⟨rfl, _, SqL.of ha⟩
  · refine h σ H G _ e fun v H1 d fl p1 env1 G1 Gv s1 r f ⟨hp, sl, xs, e1, e2, e3, e4, hn⟩ => ?_
    have hG := r.purG hp
    subst hG
    obtain ⟨x', hx', rx⟩ := s1.er.rep i sl _ e1 e3
    rw [hx] at hx'; cases hx'
    have nd := s1.er.nod i sl e1 e2
    generalize hg : G1 i = g at rx
    cases rx with
    | @lst a vs _ g ha ra =>
      refine ⟨a, vs, v, rfl, rfl, ha, by rw [ra.len]; exact e4, ?_⟩
      have st : Stp (fun b => b ∈ G1 i) H1 (upd H1 a (.lst (vs ++ [v]))) := stp_one ha True.intro (by rw [hg]; exact List.mem_cons_self)
      have st1 : Stp (fun b => b = a) H1 (upd H1 a (.lst (vs ++ [v]))) := stp_one ha True.intro rfl
      rw [hg] at nd
      have na : a ∉ g := (List.nodup_cons.mp nd).1
      have rr := (ra.app (Reps.one r)).step st1 (fun b m z => by
        rw [List.append_nil] at m
        subst z; exact na m)
      rw [List.append_nil] at rr
      have fr : ∀ b ∈ a :: g, b ∈ G1 i ∨ H1 b = none := fun b m => .inl (by rw [hg]; exact m)
      have er := s1.er.put e1 e2 hx st (.lst upd_same rr) nd fr fun b m => by
        rcases List.mem_cons.mp m with rfl | m
        · exact ⟨_, upd_same, True.intro⟩
        · obtain ⟨o, k, mm⟩ := s1.er.mu i sl b e1 e2 (by rw [hg]; exact List.mem_cons_of_mem _ m)
          exact ⟨o, by rw [upd_ne (show b ≠ a from fun z => na (by rw [← z]; exact m))]; exact k, mm⟩
      exact l.nx σ _ _ _ (s1.mv.trans (mv_put e1 e2 st fr)) er hn
/-! slices -/
def DO (K : PySem.W.Frag) (B : Bs) (to : TO) (env : List Sl) (PO : Option Int → Bool → List Sl → Prop) : Prop := ∀ (σ : L2.St) (H : Hp) (G : Nat → List Addr) (Q : Option Int → Hp → Prop), EnvR K B σ H env G →
  (∀ o H' pu env' G', Se K B σ env G H pu env' G' H' → PO o pu env' → Q o H') → to σ H Q
variable {PO : Option Int → Bool → List Sl → Prop} {tlo thi : TO}
theorem do_none (h : PO none true env) : DO K B tNoPart env PO := fun σ H G Q e q => q none H true env G (.refl e) h
theorem do_some (h : DT K B te env fun d _ pu env1 => ∃ i, d = .int i ∧ PO (some i) pu env1) : DO K B (tPart te) env PO := fun σ H G Q e q => by
  refine h σ H G _ e fun v H1 d fl p1 env1 G1 Gv s1 r f ⟨i, hd, hP⟩ => ?_
  subst hd
  cases r
  exact ⟨i, rfl, q (some i) H1 p1 env1 G1 s1 hP⟩
def cutD (xs : List Dv) (lo hi : Option Int) : List Dv := (xs.drop (HT.sIx xs.length 0 lo)).take (HT.sIx xs.length xs.length hi - HT.sIx xs.length 0 lo)
def slD : Dv → Option Int → Option Int → Option Dv
  | .str z, lo, hi => if z.length ≤ sizeLine then some (.str (cutS z lo hi)) else none
  | .lst xs, lo, hi => some (.lst (cutD xs lo hi))
  | .tup xs, lo, hi => some (.tup (cutD xs lo hi))
  | _, _, _ => none
def rSlD (K : PySem.W.Frag) : V → Option Int → Option Int → Hp → VK → Prop := fun x lo hi H Q => rSlS x lo hi H Q ∨ rSlL K x lo hi H Q ∨ rSlA K x lo hi H Q
theorem sl_any {X : Cx} : SlR X (rSlD X.K) := SlR_or sl_str (SlR_or sl_list sl_tupA)
theorem Reps.take {H : Hp} : ∀ {vs : List V} {ds : List Dv} {G : List Addr} (n : Nat), Reps K H vs ds G → ∃ G', Reps K H (vs.take n) (ds.take n) G' ∧ ∀ a ∈ G', a ∈ G
  | _, _, _, 0, _ => ⟨[], .nil, fun a m => (nomatch m)⟩
  | _, _, _, _ + 1, .nil => ⟨[], .nil, fun a m => (nomatch m)⟩
  | _, _, _, n + 1, .cons h r => (let ⟨G', r', m⟩ := Reps.take n r; ⟨_, .cons h r', fun a k => (List.mem_append.mp k).elim (fun k => List.mem_append_left _ k) fun k => List.mem_append_right _ (m a k)⟩)
theorem Reps.drop {H : Hp} : ∀ {vs : List V} {ds : List Dv} {G : List Addr} (n : Nat), Reps K H vs ds G → ∃ G', Reps K H (vs.drop n) (ds.drop n) G' ∧ ∀ a ∈ G', a ∈ G
  | _, _, _, 0, r => ⟨_, r, fun a m => m⟩
  | _, _, _, _ + 1, .nil => ⟨[], .nil, fun a m => (nomatch m)⟩
  | _, _, _, n + 1, .cons h r => (let ⟨G', r', m⟩ := Reps.drop n r; ⟨G', r', fun a k => List.mem_append_right _ (m a k)⟩)
theorem Reps.cut {H : Hp} {vs : List V} {ds : List Dv} {G : List Addr} (lo hi : Option Int) (r : Reps K H vs ds G) : ∃ G', Reps K H (cutV vs lo hi) (cutD ds lo hi) G' ∧ ∀ a ∈ G', a ∈ G := by
  unfold cutV cutD
  rw [r.len]
  obtain ⟨G1, r1, m1⟩ := r.drop (HT.sIx ds.length 0 lo)
  obtain ⟨G2, r2, m2⟩ := r1.take (HT.sIx ds.length ds.length hi - HT.sIx ds.length 0 lo)
  exact ⟨G2, r2, fun a m => m1 a (m2 a m)⟩
theorem dt_sl (h : DT K B te env fun d f1 p1 env1 => DO K B tlo env1 fun lo p2 env2 => DO K B thi env2 fun hi p3 env3 => (f1 = .view → p2 = true ∧ p3 = true) ∧ ∃ z, slD d lo hi = some z ∧ P z (flr true z f1) (p1 && p2 && p3) env3) : DT K B (tSl (rSlD K) te tlo thi) env P := fun σ H G Q e q => by
  refine h σ H G _ e fun x H1 d f1 p1 env1 G1 Gx s1 rx fx h1 => ?_
  refine h1 σ H1 G1 _ s1.er fun lo H2 p2 env2 G2 s2 h2 => ?_
  refine h2 σ H2 G2 _ s2.er fun hi H3 p3 env3 G3 s3 ⟨hv, z, hz, hP⟩ => ?_
  have s23 := s2.trans s3
  obtain ⟨rx3, fx3⟩ := pend s23 rx fx fun w => by rw [(hv w).1, (hv w).2]; rfl
  have s123 := (s1.trans s2).trans s3
  have back : ∀ a, H3 a = none → H a = none := s123.mv.stp.al
  have src : ∀ (Gz : List Addr), (∀ a ∈ Gz, a ∈ Gx ∨ H3 a = none) → ∀ a ∈ Gz, H3 a ≠ none → (f1 ≠ .view → ¬ Hot env3 G3 a) ∧ (All G a ∨ H a = none) := fun Gz k a m n => by
    rcases k a m with w | w
    · exact ⟨fun nv => fx3.cold nv a w, fx3.c3 a w⟩
    · exact (n w).elim
  cases rx3 with
  | str zz =>
    obtain ⟨hc, rfl⟩ := ite_some (C := zz.length ≤ sizeLine) hz
    exact .inl ⟨zz, rfl, hc, q _ H3 _ _ _ env3 G3 [] s123 (.str _) .nil hP⟩
  | @lst a vs ds g ha ra =>
    cases hz
    obtain ⟨G', rc, sub⟩ := ra.cut lo hi
    refine .inr (.inl ⟨a, vs, rfl, SqL.of ha, fun p hp => ?_⟩)
    have sm : Same H3 (upd H3 p (.lst (cutV vs lo hi))) := same_new hp
    have s4 := s123.trans (.same s123.er sm)
    rw [Bool.and_true] at s4
    refine q _ _ _ _ _ env3 G3 (p :: G') s4 (.lst upd_same (rc.step (M := fun _ => False) (.same sm) fun _ _ z => z)) (made s123.er back (.lst upd_same (rc.step (M := fun _ => False) (.same sm) fun _ _ z => z)) (src _ fun b m => ?_) fun _ hs => ?_) hP
    · rcases List.mem_cons.mp m with rfl | m
      · exact .inr hp
      · exact .inl (List.mem_cons_of_mem _ (sub b m))
    · rw [rc.purG hs]
      exact ⟨List.nodup_cons.mpr ⟨fun m => (nomatch m), .nil⟩, fun b m => by
        rcases List.mem_cons.mp m with rfl | m
        · exact ⟨hp, _, upd_same, True.intro⟩
        · cases m⟩
  | @tup a vs ds _ ha ra =>
    cases hz
    obtain ⟨G', rc, sub⟩ := ra.cut lo hi
    refine .inr (.inr ⟨a, vs, rfl, ha.sq, fun hw => ?_, fun hw p hp => ?_⟩)
    · have ew : cutD ds lo hi = ds := by
        rw [ra.len] at hw
        unfold cutD
        rw [hw.1, hw.2, List.drop_zero, Nat.sub_zero, List.take_length]
      rw [ew] at hP
      refine q _ H3 _ _ _ env3 G3 Gx s123 (.tup ha ra) (made s123.er back (.tup ha ra) (src _ fun b m => .inl m) fun _ hs => ?_) hP
      rw [ra.purG hs]
      exact ⟨.nil, fun a m => (nomatch m)⟩
    · have sm : Same H3 (upd H3 p (.tup (cutV vs lo hi))) := same_new hp
      have s4 := s123.trans (.same s123.er sm)
      rw [Bool.and_true] at s4
      have rt : Rep K (upd H3 p (.tup (cutV vs lo hi))) (.ref p) (.tup (cutD ds lo hi)) G' := .tup (.inl upd_same) (rc.step (M := fun _ => False) (.same sm) fun _ _ z => z)
      refine q _ _ _ _ _ env3 G3 G' s4 rt (made s123.er back rt (src _ fun b m => .inl (sub b m)) fun _ hs => ?_) hP
      rw [rc.purG hs]
      exact ⟨.nil, fun a m => (nomatch m)⟩
  | _ => cases hz
/-! methods of texts -/
def strM0 (C : Str → Prop) [∀ a, Decidable (C a)] (g : Str → Dv) : Dv → List Dv → Option Dv
  | .str a, [] => if C a then some (g a) else none
  | _, _ => none
theorem mtD_str0 {C : Str → Prop} [∀ a, Decidable (C a)] {g : Str → V} {g' : Str → Dv} (hr : ∀ a H, Rep K H (g a) (g' a) []) : MtD K "str" (fun x xs H Q => ∃ a, x = .str a ∧ xs = [] ∧ C a ∧ Q (g a) H) true (strM0 C g') := fun H x vs d1 ds d G1 G Q r1 r e q => by
  cases r1 with
  | str a =>
    cases ds with
    | nil =>
      cases r
      obtain ⟨hc, rfl⟩ := ite_some (C := C a) e
      exact ⟨a, rfl, rfl, hc, q _ H [] (.refl H) (hr a H) (fun a m => (nomatch m)) fun _ _ => ⟨.nil, fun a m => (nomatch m)⟩⟩
    | cons _ _ => cases e
  | _ => cases e
def isStr : Dv → Bool
  | .str _ => true
  | _ => false
theorem tyD_str : TyD K "str" isStr := fun H x d G r h => by
  cases r <;> first | cases h | skip
  exact rfl
end

/-! ### defs by their names -/
structure Cal (P : Program) (w : World) (K : PySem.W.Frag) (mg : Str → Option Value) (base : Heap) (k : Nat) (x : Str) (sp : Sp) : Prop where
  ex : ∃ (f : Addr) (fd : FuncData) (ps : List Str), FnOk P w K mg base CX0 k f fd ps sp ∧ mg x = some (.ref f) ∧ PySem.W.keepIn K (.ref f) = true ∧ Binds K fd ps []
theorem pe_c {X : Cx} {k j : Nat} {x : Str} {sp : Sp} {p pos : Pos} {e : Expr} {es : List Expr} {t : TA} (c : Cal X.prog X.w X.K X.mg X.base k x sp) (hr : Room j X.A) (hk : k ≤ j) (hg : Gl X x) (ha : PA X (e :: es) t)
    (hdb : (x == ("__debug__" : Str)) = false := by decide) (he : starEach (e :: es) X.env = (false, eval e X.env) :: starEach es X.env := by rfl) (hpl : (backTo pos (starEach es X.env)).any (·.1) = false := by rfl) :
    PE X (.Call (.Name x p) (e :: es) [] pos) (tCall sp [] E0 t) := by
  obtain ⟨f, fd, ps, F, hm, kp, b⟩ := c.ex
  exact pe_call F (hr.mono hk) hg hm kp b .nil pass0 ha hdb he hpl
theorem pe_c0 {X : Cx} {k j : Nat} {x : Str} {sp : Sp} {p pos : Pos} (c : Cal X.prog X.w X.K X.mg X.base k x sp) (hr : Room j X.A) (hk : k ≤ j) (hg : Gl X x)
    (hdb : (x == ("__debug__" : Str)) = false := by decide) :
    PE X (.Call (.Name x p) [] [] pos) (tCall sp [] E0 tNil) := by
  obtain ⟨f, fd, ps, F, hm, kp, b⟩ := c.ex
  exact pe_call0 F (hr.mono hk) hg hm kp b .nil pass0 hdb
/-- a constant of the module -/
theorem pe_gc {X : Cx} {x : Str} {p : Pos} {v : V} (hg : Gl X x) (h : ∃ u, X.mg x = some u ∧ RelV v u) (hd : (x == ("__debug__" : Str)) = false := by decide) : PE X (.Name x p) (tC v) := by
  obtain ⟨u, hm, r⟩ := h
  exact pe_glob hg hm r hd
section
variable {P : Program} {w : World} {K : PySem.W.Frag} {mg : Str → Option Value} {base : Heap}
theorem fn_spE {x qual : Str} {params : Arguments} {body : List Stmt} {scope : Scope} {f : Addr} {fd : FuncData} {N ps : List Str} {k : Nat} {ms : List Bool} {run : Fs} (F : FunD K x qual params body scope [] [] f fd) (S : FnScope N ps scope) (hm : ms.length = ps.length) (hN : ps.length ≤ N.length)
    (hbody : ∀ (cdv : Value) (A : Around) (outer : List Env) (s : Shared) (H : Hp) (E : XK), Room k (A.deeper (envOfC qual scope s.heap.objs.size f cdv)) →
      ∃ t, PSs (cxOf CX0 P w K mg base N qual scope f cdv A outer s H E).nox body t ∧
        ∀ (B : Bs) (ds : List Dv) (R : Dv → Fl → List Dv → Prop), B.ms = ms → ds.length = ms.length → run ds R →
          DTS K B t (argEnv ms ds ++ List.replicate (N.length - ps.length) .no) { nx := fun env' => R .non .fresh (fin ms ds env'), rt := fun d fl env' => R d fl (fin ms ds env') }) :
    FnOk P w K mg base CX0 (k + 1) f fd ps (spD K ms run) := by
  have e : ∃ st : Stmt, defArgs st = params ∧ defBody st = body ∧ defScope st = scope := ⟨.FunctionDef (name := x) (args := params) (body := body) (decorator_list := []) (returns := none) (type_params := []) (scope := scope) (tscope := none) (bind := x) (pos := ⟨0, 0, 0, 0⟩), rfl, rfl, rfl⟩
  obtain ⟨st, rfl, rfl, rfl⟩ := e
  obtain ⟨oc, od, dV, kV, doc, pm, an, cdv, ct, osl, h1, h2, h3, h4, _⟩ := F.ex
  rcases h4 with ⟨_, rfl⟩ | ⟨z, _⟩
  · exact fn_spD (st := st) ⟨⟨oc, od, kV, doc, pm, an, cdv, ct, osl, h1, h2, h3⟩, F.kp⟩ S hm hN hbody
  · exact absurd rfl z
end
end Fd
namespace Fd
open PySem PySem.Spec PyProof.Rows L2
section
variable {K : PySem.W.Frag} {B : Bs} {env : List Sl} {P : Dv → Fl → Bool → List Sl → Prop}
/-! ### the law's own promise -/
theorem law_sp {run : Fs} {H : Hp} {a : Addr} {ns : List Int} {E : XK} (hO : Only H) (hS : SqL K H a (ns.map V.int)) (h : run [.frl ns] fun d _ _ => d = .bl true) : spD K [false] run [.ref a] H (fun v _ => v = .bl true) E := by
  have hF : SqF K H a (ns.map V.int) := by
    rcases hS with (h | ⟨o, h⟩) | h
    · rcases hO a with z | ⟨o, xs, z⟩ <;> (rw [h] at z; cases z)
    · exact .inl ⟨o, h⟩
    · exact .inr h
  refine ⟨[.frl ns], fun _ => [], _, rfl, rfl, ⟨rfl, fun i s d h1 h2 => ?_, fun i _ => rfl, fun i s _ _ => .nil, fun i j s b _ _ _ m => (nomatch m), fun i d h1 => rfl, fun i d b _ m => (nomatch m), fun b q => q, fun i b m => (nomatch m), fun i d b _ m => (nomatch m), fun i s b _ _ m => (nomatch m), fun i h1 => ?_⟩, h, fun v H' d fl ds' G' Gv pf hd => ?_⟩
  · cases i with
    | zero =>
      cases h1
      cases h2
      exact ⟨_, rfl, .frl hF⟩
    | succ i => cases h1
  · cases i with
    | zero => cases h1
    | succ i => cases h1
  · have hd : d = .bl true := hd
    subst hd
    have r := pf.rep
    cases r
    rfl
theorem cal_fn {Pg : Program} {w : World} {mg : Str → Option Value} {base : Heap} {k : Nat} {x : Str} {sp : Sp} {f : Addr} (c : Cal Pg w K mg base k x sp) (hg : mg x = some (.ref f)) :
    ∃ (fd : FuncData) (ps : List Str), FnOk Pg w K mg base CX0 k f fd ps sp := by
  obtain ⟨f', fd, ps, F, hm, _, _⟩ := c.ex
  rw [hg] at hm
  cases hm
  exact ⟨fd, ps, F⟩
/-! ### displays of dicts, the values such as nobody changes -/
def DTP (K : PySem.W.Frag) (B : Bs) (trs : List (TE × TE)) (env : List Sl) (PP : List (Key × Dv) → Bool → List Sl → Prop) : Prop := ∀ (σ : L2.St) (H : Hp) (G : Nat → List Addr) (Q : List (V × V) → Hp → Prop), EnvR K B σ H env G →
  (∀ (kvs : List (Key × V)) (des : List (Key × Dv)) H' pu env' G', Se K B σ env G H pu env' G' H' → des.map (·.1) = kvs.map (·.1) → Reps K H' (kvs.map (·.2)) (des.map (·.2)) [] → PP des pu env' → Q (kvs.map fun kv => (kV kv.1, kv.2)) H') → tPairs trs σ H Q
def dK : Dv → Option Key
  | .int i => some (.inl i)
  | .str x => some (.inr x)
  | _ => none
theorem Rep.key {H : Hp} {v : V} {d : Dv} {G : List Addr} {k : Key} (r : Rep K H v d G) (h : dK d = some k) : v = kV k := by
  cases r <;> first | cases h | skip
  · rfl
  · rfl
theorem dtp_nil {PP : List (Key × Dv) → Bool → List Sl → Prop} (h : PP [] true env) : DTP K B [] env PP := fun σ H G Q e q => q [] [] H true env G (.refl e) rfl .nil h
theorem dtp_cons {PP : List (Key × Dv) → Bool → List Sl → Prop} {tk tv : TE} {trs : List (TE × TE)} (h : DT K B tk env fun d _ p1 env1 => ∃ k, dK d = some k ∧ DT K B tv env1 fun d2 _ p2 env2 => d2.pur = true ∧ DTP K B trs env2 fun des p3 env3 => PP ((k, d2) :: des) (p1 && p2 && p3) env3) : DTP K B ((tk, tv) :: trs) env PP := fun σ H G Q e q => by
  refine h σ H G _ e fun x H1 d f1 p1 env1 G1 Gx s1 rx fx ⟨k, hk, h1⟩ => ?_
  have hx := rx.key hk
  subst hx
  refine h1 σ H1 G1 _ s1.er fun y H2 d2 f2 p2 env2 G2 Gy s2 ry fy ⟨hp, h2⟩ => ?_
  have hG := ry.purG hp
  subst hG
  refine h2 σ H2 G2 _ s2.er fun kvs des H3 p3 env3 G3 s3 hk3 r3 hP => ?_
  refine q ((k, y) :: kvs) ((k, d2) :: des) H3 _ env3 G3 ((s1.trans s2).trans s3) ?_ ?_ hP
  · show k :: des.map (·.1) = k :: kvs.map (·.1)
    rw [hk3]
  · exact .cons (ry.step s3.mv.stp fun a m => (nomatch m)) r3
def putKD (kvs : List (Key × Dv)) (k : Key) (d : Dv) : List (Key × Dv) := match kvs with
  | [] => [(k, d)]
  | p :: r => if p.1 = k then (k, d) :: r else p :: putKD r k d
/-- {k: v}, one pair -/
theorem dt_disp1 {tk tv : TE} (h : DTP K B [(tk, tv)] env fun des pu env1 => ∃ k d, des = [(k, d)] ∧ P (.dct [(k, d)]) .fresh pu env1) : DT K B (tDisp [(tk, tv)]) env P := fun σ H G Q e q p hp => by
  have sm : Same H (upd H p (.dK [])) := same_new hp
  have np : ¬ All G p := e.not_all hp
  refine h σ _ G _ (e.same sm) fun kvs des H' pu env' G' s hk r ⟨k, d, hd, hP⟩ => ?_
  subst hd
  have keep : H' p = some (.dK []) := s.mv.stp.keep p _ upd_same fun _ z => np z.all
  have np' : ¬ All G' p := fun z => by
    rcases s.c2 p z with z | z
    · exact np z
    · rw [upd_same] at z; cases z
  refine ⟨keep, kvs, rfl, ?_, ?_⟩
  · have : kvs.length = 1 := by
      have := congrArg List.length hk
      simpa using this.symm
    omega
  · match kvs, hk, r with
    | [(k', v)], hk, r =>
      have hk : [k] = [k'] := hk
      cases hk
      have rr : Reps K H' [v] [d] [] := r
      have st : Stp (fun a => a = p) H' (upd H' p (.dK (mergeK [] [(k, v)]))) := stp_one keep True.intro rfl
      have s0 : Se K B σ env G H pu env' G' H' := by
        have := (Se.same e sm).trans s
        rwa [Bool.true_and] at this
      have er' := s.er.upd1 (o := .dK [(k, v)]) np' (fun z => by rw [keep] at z; cases z) (fun u hu => by rw [keep] at hu; cases hu; exact True.intro)
      have s1 : Se K B σ env G H pu env' G' (upd H' p (.dK [(k, v)])) := by
        refine ⟨⟨⟨fun a o ha n => ?_, fun a ha => ?_⟩, fun a z => s0.mv.c1 a z⟩, s0.c2, s0.cs, s0.hs, s0.ln, er', fun hpu => ?_⟩
        · have ne : a ≠ p := fun z => by subst z; rw [hp] at ha; cases ha
          rw [upd_ne ne]; exact s0.mv.stp.keep a o ha n
        · have ne : a ≠ p := fun z => by subst z; rw [upd_same] at ha; cases ha
          rw [upd_ne ne] at ha; exact s0.mv.stp.al a ha
        · obtain ⟨q1, q2, q3⟩ := s0.pr hpu
          refine ⟨fun a o ha => ?_, q2, q3⟩
          have ne : a ≠ p := fun z => by subst z; rw [hp] at ha; cases ha
          rw [upd_ne ne]; exact q1 a o ha
      have e1 : mergeK [] [(k, v)] = [(k, v)] := rfl
      rw [e1] at st ⊢
      refine q (.ref p) _ (.dct [(k, d)]) .fresh pu env' G' [p] s1 (.dct (kvs := [(k, v)]) (.inl upd_same) rfl (rr.step st fun a m => (nomatch m))) ?_ hP
      refine ⟨fun _ a m z => ?_, fun _ => ⟨List.nodup_cons.mpr ⟨fun m => (nomatch m), .nil⟩, fun a m => ?_⟩, fun a m => ?_⟩
      · rcases List.mem_cons.mp m with rfl | m
        · exact np' z.all
        · cases m
      · rcases List.mem_cons.mp m with rfl | m
        · exact ⟨⟨hp, np'⟩, _, upd_same, True.intro⟩
        · cases m
      · rcases List.mem_cons.mp m with rfl | m
        · exact .inr hp
        · cases m
end
end Fd
namespace Fd
open PySem PySem.Spec PyProof.Rows L2
section
variable {K : PySem.W.Frag} {B : Bs} {env : List Sl} {P : Dv → Fl → Bool → List Sl → Prop} {te : TE}
def decMul (a b : Int) : Decidable (CMulW a b) := inferInstanceAs (Decidable (a.natAbs.log2 + b.natAbs.log2 < 1000000))
def decDiv (a b : Int) : Decidable (CDivW a b) := inferInstanceAs (Decidable (0 < b ∧ b.natAbs.log2 < 9000))
def decPow (a b : Int) : Decidable (CPow a b) := inferInstanceAs (Decidable (0 ≤ b ∧ b ≤ 1000000 ∧ a.natAbs < 2 ^ 64))
abbrev mulD : Dv → Dv → Option Dv := @intOpC CMulW decMul fun i j => .int (i * j)
abbrev fdivD : Dv → Dv → Option Dv := @intOpC CDivW decDiv fun i j => .int (i / j)
abbrev powD : Dv → Dv → Option Dv := @intOpC CPow decPow fun i j => .int (i ^ j.toNat)
abbrev modD : Dv → Dv → Option Dv := intOpC (fun _ j => 0 < j) fun i j => .int (i % j)
theorem intOpC_ok {C : Int → Int → Prop} {dc : ∀ a b, Decidable (C a b)} {g : Int → Int → Dv} {a b : Int} (h : C a b) : @intOpC C dc g (.int a) (.int b) = some (g a b) := if_pos h
theorem opD_sub : OpD K (rI0 fun i j => .int (i - j)) true (intOp fun i j => .int (i - j)) := opD_int fun _ _ _ => .int _
theorem opD_mulW : OpD K (rI CMulW fun i j => .int (i * j)) true mulD := letI := @decMul; opD_intC fun _ _ _ => .int _
theorem opD_fdivW : OpD K (rI CDivW fun i j => .int (i / j)) true fdivD := letI := @decDiv; opD_intC fun _ _ _ => .int _
theorem opD_mod : OpD K (rI (fun _ j => 0 < j) fun i j => .int (i % j)) true modD := opD_intC fun _ _ _ => .int _
theorem opD_pow : OpD K (rI CPow fun i j => .int (i ^ j.toNat)) true powD := letI := @decPow; opD_intC fun _ _ _ => .int _
theorem opD_lt : OpD K (rI0 fun i j => .bl (decide (i < j))) true (intOp fun i j => .bl (decide (i < j))) := opD_int fun _ _ _ => .bl _
theorem opD_le : OpD K (rI0 fun i j => .bl (decide (i ≤ j))) true (intOp fun i j => .bl (decide (i ≤ j))) := opD_int fun _ _ _ => .bl _
theorem opD_gt : OpD K (rI0 fun i j => .bl (decide (j < i))) true (intOp fun i j => .bl (decide (j < i))) := opD_int fun _ _ _ => .bl _
theorem opD_ge : OpD K (rI0 fun i j => .bl (decide (j ≤ i))) true (intOp fun i j => .bl (decide (j ≤ i))) := opD_int fun _ _ _ => .bl _
def negD : Dv → Option Dv
  | .int a => some (.int (-a))
  | _ => none
theorem unD_neg : UnD K (rU fun i => .int (-i)) negD := fun H x d1 d G1 Q r e q => by
  cases r <;> first | cases e | skip
  exact ⟨_, rfl, q _ (.int _)⟩
/-- x.upper() -/
theorem dt_upper (h : DT K B te env fun d _ p env1 => ∃ a, d = .str a ∧ a.length ≤ 5592405 ∧ P (.str (Txt.upper a)) .fresh p env1) : DT K B (tM0 (fun x xs H Q => ∃ a, x = .str a ∧ xs = [] ∧ a.length ≤ 5592405 ∧ Q (.str (Txt.upper a)) H) te) env P := fun σ H G Q e q => by
  refine h σ H G _ e fun x H1 d1 f1 p1 env1 G1 Gx s1 rx fx ⟨a, hd, hl, hP⟩ => ?_
  subst hd
  cases rx
  exact ⟨⟨a, rfl⟩, a, rfl, rfl, hl, q _ H1 _ _ _ env1 G1 [] s1 (.str _) .nil hP⟩
/-! what gives scalars -/
def Sc (f : Dv → Dv → Option Dv) : Prop := ∀ d1 d2 d, f d1 d2 = some d → d.pur = true
theorem sc_int {g : Int → Int → Dv} (h : ∀ i j, (g i j).pur = true) : Sc (intOp g) := fun d1 d2 d e => by
  cases d1 <;> first | cases e | skip
  cases d2 <;> first | cases e | skip
  exact h _ _
theorem sc_intC {C : Int → Int → Prop} {dc : ∀ a b, Decidable (C a b)} {g : Int → Int → Dv} (h : ∀ i j, (g i j).pur = true) : Sc (@intOpC C dc g) := fun d1 d2 d e => by
  cases d1 with
  | int i =>
    cases d2 with
    | int j =>
      obtain ⟨_, rfl⟩ := ite_some (C := C i j) e
      exact h _ _
    | _ => cases e
  | _ => cases e
theorem sc_eq {neg : Bool} : Sc (eqP neg) := fun d1 d2 d e => by
  unfold eqP at e
  split at e
  · split at e
    · cases e; rfl
    · cases e
  · cases e
theorem sc_is {neg : Bool} : Sc (isD neg) := fun d1 d2 d e => by
  unfold isD at e
  split at e
  · cases e; rfl
  · cases e; rfl
  · cases e
theorem sc_inS {neg : Bool} : Sc (inS neg) := fun d1 d2 d e => by
  unfold inS at e
  split at e
  · split at e
    · cases e; rfl
    · cases e
  · cases e
theorem dt_opS {ta tb : TE} {r : R2} {nw : Bool} {f : Dv → Dv → Option Dv} (o : OpD K r nw f) (sc : Sc f)
    (h : DT K B ta env fun d1 f1 p1 env1 => DT K B tb env1 fun d2 f2 p2 env2 => (f1 = .view → p2 = true) ∧ ∃ d, f d1 d2 = some d ∧ P d .fresh (p1 && p2) env2) : DT K B (tOp r ta tb) env P :=
  dt_op o (h.imp fun d1 f1 p1 env1 h1 => h1.imp fun d2 f2 p2 env2 ⟨hv, d, hd, hP⟩ => ⟨hv, d, hd, by
    have e : flr nw d (flj f1 f2) = .fresh := by
      unfold flr; rw [sc _ _ _ hd]; rfl
    rw [e]; exact hP⟩)
def Sc1 (f : List Dv → Option Dv) : Prop := ∀ ds d, f ds = some d → d.pur = true
theorem sc_len : Sc1 lenD := fun ds d e => by
  unfold lenD at e
  split at e
  · split at e
    · cases e; rfl
    · cases e
  · cases e; rfl
  · cases e; rfl
  · cases e; rfl
  · cases e
theorem sc_mm {f : Int → Int → Int} : Sc1 (minmaxD f) := fun ds d e => by
  unfold minmaxD at e
  split at e
  · cases e; rfl
  · cases e
theorem sc_intD : Sc1 intD := fun ds d e => by
  unfold intD at e
  split at e
  · cases e; rfl
  · cases e; rfl
  · cases e
theorem sc_strInt : Sc1 strIntD := fun ds d e => by
  unfold strIntD at e
  split at e
  · split at e
    · cases e; rfl
    · cases e
  · cases e
theorem sc_quant {f : List Bool → Bool} : Sc1 (quantD f) := fun ds d e => by
  unfold quantD at e
  split at e
  · obtain ⟨_, _, rfl⟩ := Option.map_eq_some_iff.mp e; rfl
  · cases e
theorem dt_cbS {tr : TA} {r : List V → Hp → VK → Prop} {nw : Bool} {f : List Dv → Option Dv} (o : CallD K r nw f) (sc : Sc1 f)
    (h : DTA K B tr env fun rs pu env1 => ∃ ds fl d, valsOf rs = some (ds, fl) ∧ f ds = some d ∧ P d .fresh pu env1) : DT K B (tCB r tr) env P :=
  dt_cb o (fun σ H G Q e q => h σ H G Q e fun vs H' rs pu env' G' Gvs s ar ⟨ds, fl, d, h1, h2, hP⟩ => q vs H' rs pu env' G' Gvs s ar ⟨ds, fl, d, h1, h2, by
    have e : flr nw d fl = .fresh := by
      unfold flr; rw [sc _ _ h2]; rfl
    rw [e]; exact hP⟩)
theorem upds_v {d e : Dv} {fl : Fl} {rs : List Ar} {ds : List Dv} {env : List Sl} : upds (.val d fl :: rs) (e :: ds) env = upds rs ds env := rfl
theorem upds_s {j : Nat} {e : Dv} {rs : List Ar} {ds : List Dv} {env : List Sl} : upds (.slt j :: rs) (e :: ds) env = upds rs ds (putS env j e) := rfl
theorem upds_n {ds : List Dv} {env : List Sl} : upds [] ds env = env := rfl
theorem putS_0 {s : Sl} {env : List Sl} {d : Dv} : putS (s :: env) 0 d = s.put d :: env := rfl
theorem putS_s {s : Sl} {env : List Sl} {j : Nat} {d : Dv} : putS (s :: env) (j + 1) d = s :: putS env j d := by
  unfold putS
  rw [List.getElem?_cons_succ]
  cases env[j]? <;> rfl
theorem put_pi {d e : Dv} : (Sl.pi d).put e = .pi e := rfl
theorem put_ho {d e : Dv} : (Sl.ho d).put e = .ho e := rfl
theorem cmul_dec {i j : Int} (h : decide (i.natAbs.log2 + j.natAbs.log2 < 1000000) = true) : CMulW i j := (of_decide_eq_true h : i.natAbs.log2 + j.natAbs.log2 < 1000000)
theorem cpow_dec {i j : Int} (h : decide (0 ≤ j ∧ j ≤ 1000000 ∧ i.natAbs < 2 ^ 64) = true) : CPow i j := (of_decide_eq_true h : 0 ≤ j ∧ j ≤ 1000000 ∧ i.natAbs < 2 ^ 64)
theorem cdiv_dec {i j : Int} (h : decide (0 < j ∧ j.natAbs.log2 < 9000) = true) : CDivW i j := (of_decide_eq_true h : 0 < j ∧ j.natAbs.log2 < 9000)
theorem lf_mul {i j : Int} (h : i.natAbs < 2 ^ 2000) (h' : j.natAbs < 2 ^ 2000) : CMulW i j := wide_mul h h' (by decide) (by decide) (by decide)
theorem dts_retC {D : Ds} (h : DT K B te env fun d fl pu env1 => ef d fl ≠ .view ∧ D.rt d .cold env1) : DTS K B (tRet te) env D := fun σ H G E e l => by
  refine h σ H G _ e fun v H1 d fl pu env1 G1 Gv s r f ⟨nv, h1⟩ => ?_
  have f' := f.ef r
  refine l.rt σ H1 env1 G1 v d .cold Gv s.mv s.er r ⟨fun a m z => f'.cold nv a m z.hot, fun fr => (nomatch fr), fun a m => ?_⟩ h1
  rcases f'.c3 a m with ⟨i, k⟩ | k
  · exact e.org i a k
  · exact .inr (e.he a k)
theorem sz {n : Nat} (h : n ≤ 1000000) : n ≤ sizeLine := Nat.le_trans h (by decide)
theorem str_add_len (a b : Str) : (a ++ b).length = a.length + b.length := by
  show (a.cps ++ b.cps).size = _
  rw [Array.size_append]; rfl
theorem sign_len (c : Nat) : (⟨#[c]⟩ : Str).length = 1 := rfl
theorem cut_len (w : Str) (lo hi : Option Int) : (cutS w lo hi).length ≤ w.length := by
  show (((w.cps.toList.drop (HT.sIx w.length 0 lo)).take (HT.sIx w.length w.length hi - HT.sIx w.length 0 lo)).toArray).size ≤ w.cps.size
  rw [List.size_toArray, List.length_take, List.length_drop, Array.length_toList]
  omega
theorem iteT {A C : Prop} (h : A) : (if true = true then A else C) := h
theorem iteF {A C : Prop} (h : C) : (if false = true then A else C) := h
theorem argEnv_f {ms : List Bool} {d : Dv} {ds : List Dv} : argEnv (false :: ms) (d :: ds) = .co d :: argEnv ms ds := rfl
theorem argEnv_t {ms : List Bool} {d : Dv} {ds : List Dv} : argEnv (true :: ms) (d :: ds) = .pi d :: argEnv ms ds := rfl
theorem argEnv_n {ds : List Dv} : argEnv [] ds = [] := rfl
theorem iteT1 {A C : Prop} {b : Bool} (e : b = true) (h : A) : (if b = true then A else C) := by subst e; exact h
theorem iteF1 {A C : Prop} {b : Bool} (e : b = false) (h : C) : (if b = true then A else C) := by subst e; exact h
theorem iteB {A C : Prop} {b : Bool} (h : b = true → A) (h' : b = false → C) : (if b = true then A else C) := by
  cases b with
  | true => exact h rfl
  | false => exact h' rfl
theorem fm_take {α β : Type} {f : α → Option β} {xs : List α} {k : Nat} {x : α} (h : xs[k]? = some x) : (xs.take (k + 1)).filterMap f = (xs.take k).filterMap f ++ (f x).toList := by
  rw [List.take_add_one, h, List.filterMap_append]
  cases e : f x <;> simp [e]
theorem purs_app' {a : List Dv} {d : Dv} (h : Dv.purs a = true) (hd : d.pur = true) : Dv.purs (a ++ [d]) = true := by
  rw [purs_app, h]; show (true && (d.pur && true)) = true; rw [hd]; rfl
/-- [y for x in ..], of what can't change, the slots as they were -/
theorem dt_lcFp {Φ : L2.St → Hp → Prop} {wi : TI} {g : TG} {tt : TT} {te : TE} {vs : List Nat} (fm : Dv → Option Dv) (h : DIp Φ K B wi env fun items fl pu env1 => (∀ j ∈ vs, env1[j]? = some .no) ∧ items.length ≤ sizeLine ∧
    (∀ x ∈ items, ∃ ws env3, (∀ j ∈ ws, j ∈ vs) ∧ DG K B ws g x env1 env3 ∧ (∀ j ∈ vs, ∀ d, env3[j]? ≠ some (.pi d)) ∧ (fl = .view → x.pur = true) ∧
      DTT K B tt env3 fun b p env4 => p = true ∧ if b = true then DT K B te env4 fun y fy p2 env5 => p2 = true ∧ y.pur = true ∧ fm x = some y ∧ wipeE env5 vs = env1 else fm x = none ∧ wipeE env4 vs = env1) ∧
    P (.lst (items.filterMap fm)) .fresh pu env1) : DTp Φ K B (tLc wi g tt te vs) env P := by
  refine dt_lcp true ?_
  intro σ H G R e φ q
  refine h σ H G R e φ fun J H1 pu env1 G1 St fl Gv0 items s it st f ⟨no, hl, turn, fin⟩ => ?_
  refine q J H1 pu env1 G1 St fl Gv0 items s it st f ⟨fun k acc f env2 => acc = (items.take k).filterMap fm ∧ f = .fresh ∧ env2 = env1 ∧ k ≤ items.length, fun _ => rfl, no, ⟨rfl, rfl, rfl, Nat.zero_le _⟩, fun k x acc f env2 hx ⟨ha, hf, he, hk⟩ => ?_, fun acc f env2 ⟨ha, hf, he, _⟩ => ?_⟩
  · subst ha hf he
    have hk1 : k + 1 ≤ items.length := (List.getElem?_eq_some_iff.mp hx).1
    obtain ⟨ws, env3, h1, h2, h3, h4, h5⟩ := turn x (List.mem_of_getElem? hx)
    refine ⟨ws, env3, h1, h2, h3, h4, h5.imp fun b p env4 ⟨hp, h6⟩ => ⟨fun _ => hp, ?_⟩⟩
    cases b with
    | true =>
      rw [if_pos rfl] at h6 ⊢
      refine h6.imp fun y fy p2 env5 ⟨hp2, hy, hfm, hw⟩ => ⟨fun _ => hp2, ?_, ?_, ?_, ?_, ?_, hk1⟩
      · unfold ef; rw [if_pos hy]; exact fun z => nomatch z
      · have := List.length_filterMap_le fm (items.take k)
        rw [List.length_take] at this
        omega
      · rw [fm_take hx, hfm]; rfl
      · unfold ef; rw [if_pos hy]; rfl
      · exact hw
    | false =>
      rw [if_neg Bool.false_ne_true] at h6 ⊢
      refine ⟨?_, rfl, h6.2, hk1⟩
      rw [fm_take hx, h6.1]
      exact (List.append_nil _).symm
  · subst ha hf he
    rw [List.take_length, Bool.and_true]
    exact fin
theorem dt_lcF {wi : TI} {g : TG} {tt : TT} {te : TE} {vs : List Nat} (fm : Dv → Option Dv) (h : DI K B wi env fun items fl pu env1 => (∀ j ∈ vs, env1[j]? = some .no) ∧ items.length ≤ sizeLine ∧
    (∀ x ∈ items, ∃ ws env3, (∀ j ∈ ws, j ∈ vs) ∧ DG K B ws g x env1 env3 ∧ (∀ j ∈ vs, ∀ d, env3[j]? ≠ some (.pi d)) ∧ (fl = .view → x.pur = true) ∧
      DTT K B tt env3 fun b p env4 => p = true ∧ if b = true then DT K B te env4 fun y fy p2 env5 => p2 = true ∧ y.pur = true ∧ fm x = some y ∧ wipeE env5 vs = env1 else fm x = none ∧ wipeE env4 vs = env1) ∧
    P (.lst (items.filterMap fm)) .fresh pu env1) : DT K B (tLc wi g tt te vs) env P := fun σ H G Q e q => dt_lcFp (Φ := Tr) fm (DIp.of h) σ H G Q e True.intro q
theorem dtt_yes {PT : Bool → Bool → List Sl → Prop} (h : PT true true env) : DTT K B tYes env PT := fun σ H G Q e q => q true H true env G (.refl e) h
/-- one name in the comprehension -/
theorem dt_lc1p {Φ : L2.St → Hp → Prop} {wi : TI} {tt : TT} {te : TE} {i : Nat} (fm : Dv → Option Dv) (h : DIp Φ K B wi env fun items fl pu env1 => env1[i]? = some .no ∧ items.length ≤ sizeLine ∧ (fl = .view → ∀ x ∈ items, x.pur = true) ∧
    (∀ x ∈ items, DTT K B tt (env1.set i (.co x)) fun b p env4 => p = true ∧ if b = true then DT K B te env4 fun y fy p2 env5 => p2 = true ∧ y.pur = true ∧ fm x = some y ∧ env5.set i .no = env1 else fm x = none ∧ env4.set i .no = env1) ∧
    P (.lst (items.filterMap fm)) .fresh pu env1) : DTp Φ K B (tLc wi (gName i) tt te [i]) env P := by
  refine dt_lcFp fm ?_
  intro σ H G R e φ q
  refine h σ H G R e φ fun J H1 pu env1 G1 St fl Gv0 items s it st f ⟨no, hl, hv, turn, fin⟩ => ?_
  have hlt : i < env1.length := (List.getElem?_eq_some_iff.mp no).1
  refine q J H1 pu env1 G1 St fl Gv0 items s it st f ⟨fun j hj => ?_, hl, fun x hx => ⟨[i], env1.set i (.co x), fun j h => h, dg_name no rfl, fun j hj d => ?_, fun z => hv z x hx, turn x hx⟩, fin⟩
  · rcases List.mem_cons.mp hj with rfl | z
    · exact no
    · cases z
  · rcases List.mem_cons.mp hj with rfl | z
    · rw [List.getElem?_set_self hlt]; exact fun z => nomatch z
    · cases z
theorem dt_lc1 {wi : TI} {tt : TT} {te : TE} {i : Nat} (fm : Dv → Option Dv) (h : DI K B wi env fun items fl pu env1 => env1[i]? = some .no ∧ items.length ≤ sizeLine ∧ (fl = .view → ∀ x ∈ items, x.pur = true) ∧
    (∀ x ∈ items, DTT K B tt (env1.set i (.co x)) fun b p env4 => p = true ∧ if b = true then DT K B te env4 fun y fy p2 env5 => p2 = true ∧ y.pur = true ∧ fm x = some y ∧ env5.set i .no = env1 else fm x = none ∧ env4.set i .no = env1) ∧
    P (.lst (items.filterMap fm)) .fresh pu env1) : DT K B (tLc wi (gName i) tt te [i]) env P := fun σ H G Q e q => dt_lc1p (Φ := Tr) fm (DIp.of h) σ H G Q e True.intro q
theorem blsD_map : ∀ bs : List Bool, blsD (bs.map Dv.bl) = some bs
  | [] => rfl
  | b :: bs => by
    show (blsD (bs.map Dv.bl)).map (b :: ·) = _
    rw [blsD_map bs]; rfl
theorem quantD_ok {f : List Bool → Bool} {ds : List Dv} {bs : List Bool} (h : ds = bs.map Dv.bl) : quantD f [.lst ds] = some (.bl (f bs)) := by
  subst h
  show (blsD (bs.map Dv.bl)).map (fun bs => Dv.bl (f bs)) = _
  rw [blsD_map]; rfl
theorem signs_len (x : Str) : (signsD x).length = x.length := by
  unfold signsD; rw [List.length_map]; exact Array.length_toList
def Fl.nv : Fl → Bool
  | .view => false
  | _ => true
theorem nv_of {a : Fl} (h : a.nv = true) : a ≠ .view := fun z => by subst z; cases h
theorem ef_nv {d : Dv} {a : Fl} (h : a.nv = true) : ef d a ≠ .view := by
  unfold ef
  split
  · exact fun z => nomatch z
  · exact nv_of h
theorem ef_fr {d : Dv} : ef d .fresh = .fresh := by
  unfold ef
  split <;> rfl
theorem ef_pur {d : Dv} {a : Fl} (h : d.pur = true) : ef d a = .fresh := if_pos h
theorem ef_pnv {d : Dv} {a : Fl} (h : d.pur = true) : ef d a ≠ .view := by rw [ef_pur h]; exact fun z => nomatch z
theorem ef_flr {nw : Bool} {d : Dv} {fl : Fl} (h : fl.nv = true) : ef d (flr nw d fl) ≠ .view := by
  apply ef_nv
  unfold flr
  split
  · rfl
  · cases fl <;> first | rfl | cases h
theorem slD_str {z : Str} {lo hi : Option Int} (h : z.length ≤ sizeLine) : slD (.str z) lo hi = some (.str (cutS z lo hi)) := if_pos h
theorem addD_str {a b : Str} (h : a.length + b.length ≤ sizeLine) : addD (.str a) (.str b) = some (.str (a ++ b)) := if_pos h
theorem addD_lst {a b : List Dv} (h : a.length + b.length ≤ sizeLine) : addD (.lst a) (.lst b) = some (.lst (a ++ b)) := if_pos h
theorem addD_tup {a b : List Dv} (h : a.length + b.length ≤ sizeLine) : addD (.tup a) (.tup b) = some (.tup (a ++ b)) := if_pos h
theorem lenD_str {z : Str} (h : z.length ≤ sizeLine) : lenD [.str z] = some (.int z.length) := if_pos h
theorem ixD_str {z : Str} {i : Int} {c : Nat} (h : z.length ≤ sizeLine) (hc : atI z.cps.toList i = some c) : ixD (.str z) (.int i) = some (.str ⟨#[c]⟩) := by
  show (if z.length ≤ sizeLine then (atI z.cps.toList i).map (fun c => Dv.str ⟨#[c]⟩) else none) = _
  rw [if_pos h, hc]; rfl
end
end Fd
namespace Fd
open PySem PySem.Spec PyProof.Rows L2
/-- a text of one to eight small letters -/
def lowC (c : Nat) : Bool := decide (97 ≤ c) && decide (c ≤ 122)
def wordS (x : Str) : Bool := decide (1 ≤ x.length) && (decide (x.length ≤ 8) && x.cps.toList.all lowC)
def wordB : Dv → Bool
  | .str x => wordS x
  | _ => false
def nobj : Dv → Bool
  | .obj _ _ => false
  | _ => true
theorem in_abc (c : Nat) : decide (c ∈ (Str.ofString "abcdefghijklmnopqrstuvwxyz").cps.toList) = lowC c := by
  have e : (Str.ofString "abcdefghijklmnopqrstuvwxyz").cps.toList = (List.range 26).map (· + 97) := by decide +kernel
  rw [e, Bool.eq_iff_iff]
  simp only [decide_eq_true_eq, List.mem_map, List.mem_range, lowC, Bool.and_eq_true]
  exact ⟨fun ⟨a, h, e⟩ => by omega, fun h => ⟨c - 97, by omega, by omega⟩⟩
theorem abc_sign {d : Dv} (h : d ∈ signsD "abcdefghijklmnopqrstuvwxyz") : ∃ c, d = .str ⟨#[c]⟩ ∧ lowC c = true := by
  obtain ⟨c, hc, rfl⟩ := List.mem_map.mp h
  exact ⟨c, rfl, by rw [← in_abc]; exact decide_eq_true hc⟩
theorem str_add_all {p : Nat → Bool} {a b : Str} (h1 : a.cps.toList.all p = true) (h2 : b.cps.toList.all p = true) : (a ++ b).cps.toList.all p = true := by
  show (a.cps ++ b.cps).toList.all p = true
  rw [Array.toList_append, List.all_append, h1, h2]; rfl
theorem wordS_of {w : Str} (h1 : 1 ≤ w.length) (h2 : w.length ≤ 8) (h3 : w.cps.toList.all lowC = true) : wordS w = true := by
  unfold wordS
  rw [decide_eq_true h1, decide_eq_true h2, h3]; rfl
/-- no sign above the last one -/
def vS (y : Str) : Prop := ∀ c ∈ y.cps.toList, c < 1114112
theorem vS_ok {y : Str} (h : vS y) : PyData.strOk y = true := by
  unfold PyData.strOk
  rw [Array.all_eq_true']
  exact fun c hc => decide_eq_true (h c (Array.mem_toList_iff.mpr hc))
theorem vS_add {a b : Str} (h1 : vS a) (h2 : vS b) : vS (a ++ b) := fun c hc => by
  have hc : c ∈ (a.cps ++ b.cps).toList := hc
  rw [Array.toList_append] at hc
  exact (List.mem_append.mp hc).elim (h1 c) (h2 c)
theorem vS_cut {w : Str} {lo hi : Option Int} (h : vS w) : vS (cutS w lo hi) := fun c hc => h c (List.mem_of_mem_drop (List.mem_of_mem_take hc))
theorem vS_dec {y : Str} (h : y.cps.toList.all (fun c => decide (c < 1114112)) = true) : vS y := fun c hc => of_decide_eq_true (List.all_eq_true.mp h c hc)
theorem vS_low {w : Str} (h : w.cps.toList.all lowC = true) : vS w := fun c hc => by
  have := List.all_eq_true.mp h c hc
  simp [lowC] at this; omega
theorem vS_sign {x : Str} {c : Nat} (h : vS x) (hc : c ∈ x.cps.toList) : vS ⟨#[c]⟩ := fun d hd => by
  have : d = c := by simpa using hd
  subst this; exact h _ hc
theorem up_low : ∀ c ∈ List.range 26, Unicode.upperOf (c + 97) = [c + 65] := by decide +kernel
theorem vS_upper {w : Str} (h : w.cps.toList.all lowC = true) : vS (Txt.upper w) := fun c hc => by
  have hc : c ∈ ((w.cps.mapIdx fun i c => (Unicode.upperOf c).toArray).flatten).toList := hc
  rw [Array.mem_toList_iff, Array.mem_flatten] at hc
  obtain ⟨a, ha, hca⟩ := hc
  obtain ⟨i, hi, rfl⟩ := Array.mem_mapIdx.mp ha
  have hl := List.all_eq_true.mp h w.cps[i] (Array.mem_toList_iff.mpr (Array.getElem_mem hi))
  simp [lowC] at hl
  have := up_low (w.cps[i] - 97) (List.mem_range.mpr (by omega))
  rw [show w.cps[i] - 97 + 97 = w.cps[i] by omega] at this
  rw [this] at hca
  simp at hca
  omega
theorem wordS_le {x : Str} (h : wordS x = true) : 1 ≤ x.length ∧ x.length ≤ 8 ∧ x.cps.toList.all lowC = true := by
  unfold wordS at h
  obtain ⟨h1, h2⟩ := Bool.and_eq_true_iff.mp h
  obtain ⟨h2, h3⟩ := Bool.and_eq_true_iff.mp h2
  exact ⟨of_decide_eq_true h1, of_decide_eq_true h2, h3⟩
theorem wordS_long {x : Str} (h : 8 < x.length) : wordS x = false := by
  unfold wordS; rw [decide_eq_false (show ¬ x.length ≤ 8 by omega), Bool.false_and, Bool.and_false]
theorem wordS_bad {x : Str} (h : x.cps.toList.all lowC = false) : wordS x = false := by
  unfold wordS; rw [h, Bool.and_false, Bool.and_false]
theorem all_add (a b : Str) : (a ++ b).cps.toList.all lowC = (a.cps.toList.all lowC && b.cps.toList.all lowC) := by
  show (a.cps ++ b.cps).toList.all lowC = _
  rw [Array.toList_append, List.all_append]
theorem wordS_badR {a b : Str} (h : b.cps.toList.all lowC = false) : wordS (a ++ b) = false := wordS_bad (by rw [all_add, h, Bool.and_false])
theorem wordS_badL {a b : Str} (h : a.cps.toList.all lowC = false) : wordS (a ++ b) = false := wordS_bad (by rw [all_add, h, Bool.false_and])
theorem wordS_upper {x : Str} (h : wordS x = true) : wordS (Txt.upper x) = false := by
  obtain ⟨h1, _, h3⟩ := wordS_le h
  apply wordS_bad
  rw [List.all_eq_false]
  have hs : 0 < x.cps.size := h1
  have hl := List.all_eq_true.mp h3 x.cps[0] (Array.mem_toList_iff.mpr (Array.getElem_mem hs))
  simp [lowC] at hl
  have hu := up_low (x.cps[0] - 97) (List.mem_range.mpr (by omega))
  rw [show x.cps[0] - 97 + 97 = x.cps[0] by omega] at hu
  refine ⟨x.cps[0] - 97 + 65, ?_, ?_⟩
  · show _ ∈ ((x.cps.mapIdx fun i c => (Unicode.upperOf c).toArray).flatten).toList
    rw [Array.mem_toList_iff, Array.mem_flatten]
    exact ⟨_, Array.mem_mapIdx.mpr ⟨0, hs, rfl⟩, by rw [hu]; simp⟩
  · simp [lowC]; omega
theorem strIntD_ok {a : Int} (h : a.natAbs.log2 < 1920) : strIntD [.int a] = some (.str (toString a)) := if_pos h
theorem log2_lt {a : Int} (h : a.natAbs < 2 ^ 200) : a.natAbs.log2 < 1920 := Nat.lt_of_lt_of_le (PySem.Flt.log2_lt_of (by decide) h) (by decide)
section
variable {K : PySem.W.Frag} {B : Bs} {env : List Sl} {P : Dv → Fl → Bool → List Sl → Prop}
/-- a comprehension of one truth again and again -/
theorem dt_lcBp {Φ : L2.St → Hp → Prop} {wi : TI} {te : TE} {i : Nat} (b : Bool) (h : DIp Φ K B wi env fun items fl pu env1 => env1[i]? = some .no ∧ items.length ≤ sizeLine ∧ (fl = .view → ∀ x ∈ items, x.pur = true) ∧
    (∀ x ∈ items, DT K B te (env1.set i (.co x)) fun y fy p2 env5 => p2 = true ∧ y = .bl b ∧ env5.set i .no = env1) ∧
    P (.lst (List.replicate items.length (.bl b))) .fresh pu env1) : DTp Φ K B (tLc wi (gName i) tYes te [i]) env P := by
  refine dt_lc1p (fun _ => some (.bl b)) ?_
  intro σ H G R e φ q
  refine h σ H G R e φ fun J H1 pu env1 G1 St fl Gv0 items s it st f ⟨no, hl, hv, turn, fin⟩ => ?_
  refine q J H1 pu env1 G1 St fl Gv0 items s it st f ⟨no, hl, hv, fun x hx => dtt_yes ⟨rfl, ?_⟩, ?_⟩
  · rw [if_pos rfl]
    exact (turn x hx).imp fun y fy p2 env5 ⟨h1, h2, h3⟩ => ⟨h1, by rw [h2]; rfl, by rw [h2], h3⟩
  · have e1 : items.filterMap (fun _ => some (Dv.bl b)) = List.replicate items.length (.bl b) := by
      rw [show (fun _ : Dv => some (Dv.bl b)) = some ∘ (fun _ => Dv.bl b) from rfl, List.filterMap_eq_map, List.map_const']
    rw [e1]; exact fin
theorem dt_lcB {wi : TI} {te : TE} {i : Nat} (b : Bool) (h : DI K B wi env fun items fl pu env1 => env1[i]? = some .no ∧ items.length ≤ sizeLine ∧ (fl = .view → ∀ x ∈ items, x.pur = true) ∧
    (∀ x ∈ items, DT K B te (env1.set i (.co x)) fun y fy p2 env5 => p2 = true ∧ y = .bl b ∧ env5.set i .no = env1) ∧
    P (.lst (List.replicate items.length (.bl b))) .fresh pu env1) : DT K B (tLc wi (gName i) tYes te [i]) env P := fun σ H G Q e q => dt_lcBp (Φ := Tr) b (DIp.of h) σ H G Q e True.intro q
theorem bls_rep {n : Nat} {b : Bool} : List.replicate n (Dv.bl b) = (List.replicate n b).map Dv.bl := by rw [List.map_replicate]
theorem quant_any0 {n : Nat} : quantD (fun bs => bs.any id) [.lst (List.replicate n (.bl false))] = some (.bl false) := by
  rw [quantD_ok bls_rep]
  congr 2
  simp
theorem quant_all1 {n : Nat} : quantD (fun bs => bs.all id) [.lst (List.replicate n (.bl true))] = some (.bl true) := by
  rw [quantD_ok bls_rep]
  congr 2
  simp
end
theorem pyDs_strs : ∀ xs : List Str, pyDs (xs.map Dv.str) = some (xs.map .str)
  | [] => rfl
  | x :: xs => by
    rw [List.map_cons, pyDs, pyDs_strs xs]; rfl
theorem lay_strs : ∀ xs : List Str, (∀ x ∈ xs, PyData.strOk x = true) → PyData.canLayAll0 (xs.map .str) = true ∧ PyData.depthAll (xs.map .str) = 0
  | [], _ => ⟨by simp [PyData.canLayAll0], by simp [PyData.depthAll]⟩
  | x :: xs, h => by
    obtain ⟨h1, h2⟩ := lay_strs xs fun y hy => h y (List.mem_cons_of_mem _ hy)
    rw [List.map_cons]
    exact ⟨by simp [PyData.canLayAll0, PyData.canLay0, h x List.mem_cons_self, h1], by simp [PyData.depthAll, PyData.depth, h2]⟩
theorem shaped_strs {xs : List Str} (h : ∀ x ∈ xs, PyData.strOk x = true) : SeqAt.shaped (.list (xs.map .str)) = true := by
  obtain ⟨h1, h2⟩ := lay_strs xs h
  unfold SeqAt.shaped
  simp [PyData.canLay0, PyData.depth, h1, h2]
theorem eqP_strsNil {xs : List Str} (h : ∀ x ∈ xs, PyData.strOk x = true) : eqP false (.lst (xs.map Dv.str)) (.lst []) = some (.bl xs.isEmpty) := by
  have e1 : pyD (.lst (xs.map Dv.str)) = some (.list (xs.map .str)) := by
    rw [pyD, pyDs_strs]; rfl
  have e2 : pyD (.lst []) = some (.list []) := rfl
  unfold eqP
  rw [e1, e2]
  simp only
  rw [if_pos (by rw [shaped_strs h]; exact shaped_strs (xs := []) (fun x hx => nomatch hx))]
  cases xs <;> simp [PyData.eqv, PyData.eqvAll]
theorem shI (a : Int) : SeqAt.shaped (.int a) = true := rfl
theorem eqF_int {a b : Int} : eqP false (.int a) (.int b) = some (.bl (decide (a = b))) := by
  show some (Dv.bl (PyData.eqv (.int a) (.int b))) = _
  rw [PyData.eqv]; rfl
theorem eqT_int {a b : Int} : eqP true (.int a) (.int b) = some (.bl (!decide (a = b))) := by
  show some (Dv.bl (!PyData.eqv (.int a) (.int b))) = _
  rw [PyData.eqv]; rfl
theorem eqF_bl {a b : Bool} : eqP false (.bl a) (.bl b) = some (.bl (decide (a = b))) := by cases a <;> cases b <;> rfl
theorem eqT_bl {a b : Bool} : eqP true (.bl a) (.bl b) = some (.bl (!decide (a = b))) := by cases a <;> cases b <;> rfl
theorem isF_bl {a b : Bool} : isD false (.bl a) (.bl b) = some (.bl (decide (a = b))) := rfl
theorem isT_bl {a b : Bool} : isD true (.bl a) (.bl b) = some (.bl (!decide (a = b))) := rfl
end Fd
namespace Fd
open PySem PySem.Spec PyProof.Rows L2
/-! ### dicts -/
def gK (l : List (Key × Dv)) (k : Key) : Option Dv := (l.find? fun p => decide (p.1 = k)).map (·.2)
def pK (l : List (Key × Dv)) (k : Key) (d : Dv) : List (Key × Dv) :=
  if (l.any fun p => decide (p.1 = k)) = true then l.map (fun p => if p.1 = k then (p.1, d) else p) else l ++ [(k, d)]
theorem gK_nil {k : Key} : gK [] k = none := rfl
theorem gK_pos {p : Key × Dv} {r : List (Key × Dv)} {k : Key} (e : p.1 = k) : gK (p :: r) k = some p.2 := by simp [gK, List.find?_cons, e]
theorem gK_neg {p : Key × Dv} {r : List (Key × Dv)} {k : Key} (e : ¬ p.1 = k) : gK (p :: r) k = gK r k := by simp [gK, List.find?_cons, e]
section
variable {K : PySem.W.Frag} {H : Hp}
theorem get_rep : ∀ {kvs : List (Key × V)} {l : List (Key × Dv)} {G : List Addr}, l.map (·.1) = kvs.map (·.1) → Reps K H (kvs.map (·.2)) (l.map (·.2)) G → ∀ k : Key,
    (valV kvs k = none ∧ gK l k = none) ∨ ∃ v d G1, valV kvs k = some v ∧ gK l k = some d ∧ Rep K H v d G1 ∧ ∀ a ∈ G1, a ∈ G
  | [], [], _, _, _, k => .inl ⟨rfl, rfl⟩
  | [], _ :: _, _, e, _, _ => by cases e
  | _ :: _, [], _, e, _, _ => by cases e
  | p :: kvs, q :: l, G, e, r, k => by
    have e1 : q.1 = p.1 := (List.cons.inj e).1
    have e2 : l.map (·.1) = kvs.map (·.1) := (List.cons.inj e).2
    have r' : Reps K H (p.2 :: kvs.map (·.2)) (q.2 :: l.map (·.2)) G := r
    cases r' with
    | @cons _ _ G1 _ _ G2 h t =>
      by_cases c : p.1 = k
      · exact .inr ⟨p.2, q.2, G1, valV_pos c, gK_pos (e1.trans c), h, fun a m => List.mem_append_left _ m⟩
      · rcases get_rep e2 t k with ⟨h1, h2⟩ | ⟨v, d, G3, h1, h2, h3, h4⟩
        · exact .inl ⟨(valV_neg c).trans h1, (gK_neg fun z => c (e1.symm.trans z)).trans h2⟩
        · exact .inr ⟨v, d, G3, (valV_neg c).trans h1, (gK_neg fun z => c (e1.symm.trans z)).trans h2, h3, fun a m => List.mem_append_right _ (h4 a m)⟩
theorem any_keys {kvs : List (Key × V)} {l : List (Key × Dv)} (e : l.map (·.1) = kvs.map (·.1)) (k : Key) : (kvs.any fun p => decide (p.1 = k)) = l.any fun p => decide (p.1 = k) := by
  have h1 : ∀ l : List (Key × Dv), (l.any fun p => decide (p.1 = k)) = (l.map (·.1)).any fun x => decide (x = k) := fun l => by rw [List.any_map]; rfl
  have h2 : ∀ l : List (Key × V), (l.any fun p => decide (p.1 = k)) = (l.map (·.1)).any fun x => decide (x = k) := fun l => by rw [List.any_map]; rfl
  rw [h1, h2, e]
theorem len_keys {kvs : List (Key × V)} {l : List (Key × Dv)} (e : l.map (·.1) = kvs.map (·.1)) : kvs.length = l.length := by
  have := congrArg List.length e
  rw [List.length_map, List.length_map] at this
  exact this.symm
/-- what is stored, the value such as nobody changes, in a dict of such -/
theorem put_rep {kvs : List (Key × V)} {l : List (Key × Dv)} {k : Key} {v : V} {d : Dv} (e : l.map (·.1) = kvs.map (·.1)) (r : Reps K H (kvs.map (·.2)) (l.map (·.2)) []) (hv : Rep K H v d []) :
    (pK l k d).map (·.1) = (putK kvs k v).map (·.1) ∧ Reps K H ((putK kvs k v).map (·.2)) ((pK l k d).map (·.2)) [] := by
  unfold pK putK
  rw [any_keys e k]
  by_cases c : (l.any fun p => decide (p.1 = k)) = true
  · rw [if_pos c, if_pos c]
    clear c
    induction l generalizing kvs with
    | nil =>
      cases kvs with
      | nil => exact ⟨rfl, .nil⟩
      | cons p kvs => cases e
    | cons q l ih =>
      cases kvs with
      | nil => cases e
      | cons p kvs =>
        have e1 : q.1 = p.1 := (List.cons.inj e).1
        have e2 : l.map (·.1) = kvs.map (·.1) := (List.cons.inj e).2
        have r' : Reps K H (p.2 :: kvs.map (·.2)) (q.2 :: l.map (·.2)) [] := r
        generalize hg : ([] : List Addr) = g at r'
        cases r' with
        | @cons _ _ G1 _ _ G2 h t =>
          have hh := List.append_eq_nil_iff.mp hg.symm
          obtain ⟨rfl, rfl⟩ := hh
          obtain ⟨i1, i2⟩ := ih e2 t
          by_cases c : p.1 = k
          · have c' : q.1 = k := e1.trans c
            refine ⟨?_, ?_⟩
            · rw [List.map_cons, List.map_cons, List.map_cons, List.map_cons, i1, if_pos c, if_pos c', e1]
            · rw [List.map_cons, List.map_cons, List.map_cons, List.map_cons, if_pos c, if_pos c']
              exact .cons hv i2
          · have c' : ¬ q.1 = k := fun z => c (e1.symm.trans z)
            refine ⟨?_, ?_⟩
            · rw [List.map_cons, List.map_cons, List.map_cons, List.map_cons, i1, if_neg c, if_neg c', e1]
            · rw [List.map_cons, List.map_cons, List.map_cons, List.map_cons, if_neg c, if_neg c']
              exact .cons h i2
  · rw [if_neg c, if_neg c]
    refine ⟨by rw [List.map_append, List.map_append, e]; rfl, ?_⟩
    rw [List.map_append, List.map_append]
    exact r.app (.one hv)
end
section
variable {K : PySem.W.Frag} {B : Bs} {env : List Sl} {P : Dv → Fl → Bool → List Sl → Prop} {td ty tx te : TE} {D : Ds}
theorem dget_of {H : Hp} {a : Addr} {kvs : List (Key × V)} {k : Key} (h : Rd H a (.dK kvs)) : DGet H a (kV k) (valV kvs k) := .inl ⟨kvs, k, h, rfl, rfl⟩
/-- d[k] -/
theorem dt_dget (h : DT K B td env fun d1 f1 p1 env1 => DT K B ty env1 fun d2 f2 p2 env2 => (f1 = .view → p2 = true) ∧ ∃ l k d, d1 = .dct l ∧ dK d2 = some k ∧ gK l k = some d ∧ P d (flr false d (flj f1 .fresh)) (p1 && p2) env2) : DT K B (tDGet td ty) env P := fun σ H G Q e q => by
  refine h σ H G _ e fun x H1 d1 f1 p1 env1 G1 Gx s1 rx fx h1 => ?_
  refine h1 σ H1 G1 _ s1.er fun y H2 d2 f2 p2 env2 G2 Gy s2 ry fy ⟨hv, l, k, d, e1, e2, e3, hP⟩ => ?_
  subst e1
  have hy := ry.key e2
  subst hy
  obtain ⟨rx2, fx2⟩ := pend s2 rx fx hv
  cases rx2 with
  | @dct a kvs _ g ha ek rr =>
    rcases get_rep ek rr k with ⟨_, z⟩ | ⟨v, d', G3, z1, z2, z3, z4⟩
    · rw [e3] at z; cases z
    · rw [e3] at z2; cases z2
      refine ⟨a, v, rfl, by rw [← z1]; exact dget_of ha, ?_⟩
      have s3 := s1.trans s2
      refine q v H2 d _ _ env2 G2 G3 s3 z3 (made (nw := false) (fl := flj f1 .fresh) s2.er (fun b k => s1.mv.stp.al b (s2.mv.stp.al b k)) z3 (fun b m k => ?_) (fun z => nomatch z)) hP
      refine ⟨fun nv => fx2.cold (fun w => nv (by rw [w]; rfl)) b (List.mem_cons_of_mem _ (z4 b m)), fx2.c3 b (List.mem_cons_of_mem _ (z4 b m))⟩
/-- k in d, k not in d -/
theorem dt_din (h : DT K B ty env fun d2 f2 p2 env1 => DT K B td env1 fun d1 f1 p1 env2 => (f2 = .view → p1 = true) ∧ ∃ l k, d1 = .dct l ∧ dK d2 = some k ∧ P (.bl (gK l k).isSome) .fresh (p2 && p1) env2) : DT K B (tDIn ty td) env P := fun σ H G Q e q => by
  refine h σ H G _ e fun y H1 d2 f2 p2 env1 G1 Gy s1 ry fy h1 => ?_
  refine h1 σ H1 G1 _ s1.er fun x H2 d1 f1 p1 env2 G2 Gx s2 rx fx ⟨_, l, k, e1, e2, hP⟩ => ?_
  subst e1
  have hy := ry.key e2
  subst hy
  cases rx with
  | @dct a kvs _ g ha ek rr =>
    refine ⟨a, valV kvs k, rfl, dget_of ha, ?_⟩
    have e3 : (valV kvs k).isSome = (gK l k).isSome := by
      rcases get_rep ek rr k with ⟨z1, z2⟩ | ⟨v, d', G3, z1, z2, _⟩ <;> rw [z1, z2] <;> rfl
    rw [e3]
    exact q _ H2 _ _ _ env2 G2 [] (s1.trans s2) (.bl _) .nil hP
theorem dt_dnotin (h : DT K B ty env fun d2 f2 p2 env1 => DT K B td env1 fun d1 f1 p1 env2 => (f2 = .view → p1 = true) ∧ ∃ l k, d1 = .dct l ∧ dK d2 = some k ∧ P (.bl (!(gK l k).isSome)) .fresh (p2 && p1) env2) : DT K B (tDNotIn ty td) env P := fun σ H G Q e q => by
  refine h σ H G _ e fun y H1 d2 f2 p2 env1 G1 Gy s1 ry fy h1 => ?_
  refine h1 σ H1 G1 _ s1.er fun x H2 d1 f1 p1 env2 G2 Gx s2 rx fx ⟨_, l, k, e1, e2, hP⟩ => ?_
  subst e1
  have hy := ry.key e2
  subst hy
  cases rx with
  | @dct a kvs _ g ha ek rr =>
    refine ⟨a, valV kvs k, rfl, dget_of ha, ?_⟩
    have e3 : (valV kvs k).isSome = (gK l k).isSome := by
      rcases get_rep ek rr k with ⟨z1, z2⟩ | ⟨v, d', G3, z1, z2, _⟩ <;> rw [z1, z2] <;> rfl
    rw [e3]
    exact q _ H2 _ _ _ env2 G2 [] (s1.trans s2) (.bl _) .nil hP
/-- d.get(k, x): the values of the dict and x such as nobody changes -/
theorem dt_dget2 (h : DT K B td env fun d1 f1 p1 env1 => (∃ l, d1 = .dct l) ∧ DT K B ty env1 fun d2 f2 p2 env2 => DT K B tx env2 fun d3 f3 p3 env3 => (f1 = .view → (p2 && p3) = true) ∧
    ∃ l k, d1 = .dct l ∧ dK d2 = some k ∧ d3.pur = true ∧ (∀ d, gK l k = some d → d.pur = true) ∧ P ((gK l k).getD d3) .fresh (p1 && p2 && p3) env3) : DT K B (tDGet2 td ty tx) env P := fun σ H G Q e q => by
  refine h σ H G _ e fun x H1 d1 f1 p1 env1 G1 Gx s1 rx fx ⟨⟨l0, hl0⟩, h1⟩ => ?_
  subst hl0
  have hx : ∃ a, x = .ref a ∧ IsD H1 a := by
    cases rx with
    | dct ha _ _ => exact ⟨_, rfl, .inl ⟨_, ha⟩⟩
  obtain ⟨a, rfl, hd⟩ := hx
  refine ⟨a, rfl, hd, ?_⟩
  refine h1 σ H1 G1 _ s1.er fun y H2 d2 f2 p2 env2 G2 Gy s2 ry fy h2 => ?_
  refine h2 σ H2 G2 _ s2.er fun z H3 d3 f3 p3 env3 G3 Gz s3 rz fz ⟨hv, l, k, e1, e2, e3, e4, hP⟩ => ?_
  cases e1
  have hy := ry.key e2
  subst hy
  obtain ⟨rx3, _⟩ := pend (s2.trans s3) rx fx hv
  cases rx3 with
  | @dct _ kvs _ g ha ek rr =>
    refine ⟨valV kvs k, dget_of ha, ?_⟩
    have s123 := (s1.trans s2).trans s3
    rcases get_rep ek rr k with ⟨z1, z2⟩ | ⟨v, d', G4, z1, z2, z3, _⟩
    · rw [z1]
      rw [z2] at hP
      have := rz.purG e3
      subst this
      exact q z H3 d3 _ _ env3 G3 [] s123 rz .nil hP
    · rw [z1]
      rw [z2] at hP
      have := z3.purG (e4 d' z2)
      subst this
      exact q v H3 d' _ _ env3 G3 [] s123 z3 .nil hP
/-- d[k] = v, d one's own, of what nobody changes -/
theorem dts_dput {i : Nat} {tv : TE} (h : DT K B tv env fun d fl p1 env1 => d.pur = true ∧ (∃ s, env1[i]? = some s ∧ s.hot = true) ∧ DT K B ty env1 fun dk _ _ env2 => ∃ s l k, env2[i]? = some s ∧ s.hot = true ∧ s.dv = some (.dct l) ∧ dK dk = some k ∧ l.length < sizeLine ∧ Dv.purs (l.map (·.2)) = true ∧ D.nx (env2.set i (s.put (.dct (pK l k d))))) :
    DTS K B (sDPut (tVar i) ty tv) env D := fun σ H G E e l => by
  refine h σ H G _ e fun v H1 d fl p1 env1 G1 Gv s1 r f ⟨hp, ⟨sl1, k1, k2⟩, h1⟩ => ?_
  have hG := r.purG hp
  subst hG
  obtain ⟨dx, hdx⟩ := hot_dv k2
  obtain ⟨x, hx, _⟩ := s1.er.rep i sl1 dx k1 hdx
  refine ⟨x, hx, h1 σ H1 G1 _ s1.er fun y H2 dk fk p2 env2 G2 Gk s2 rk fk' ⟨sl, des, k, e1, e2, e3, e4, e5, e6, hn⟩ => ?_⟩
  have hy := rk.key e4
  subst hy
  obtain ⟨x', hx', rx⟩ := s2.er.rep i sl _ e1 e3
  rw [hx] at hx'; cases hx'
  obtain ⟨r2, _⟩ := pend s2 r (f.ef r) (fun z => by unfold Fd.ef at z; rw [if_pos hp] at z; cases z)
  have hmu := s2.er.mu i sl
  generalize hg : G2 i = g at rx
  cases rx with
  | @dct a kvs _ g ha ek rr =>
    have hz := rr.purG e6
    subst hz
    obtain ⟨o, ho, hm⟩ := hmu a e1 e2 (by rw [hg]; exact List.mem_cons_self)
    have ha' : H2 a = some (.dK kvs) := by
      rcases ha with ha | ⟨o', ha⟩
      · exact ha
      · rw [ha] at ho; cases ho; exact hm.elim
    refine ⟨a, _, rfl, DPut.k ha' (by rw [len_keys ek]; exact e5), ?_⟩
    have st : Stp (fun b => b ∈ G2 i) H2 (upd H2 a (.dK (putK kvs k v))) := stp_one ha' True.intro (by rw [hg]; exact List.mem_cons_self)
    have st1 : Stp (fun b => b = a) H2 (upd H2 a (.dK (putK kvs k v))) := stp_one ha' True.intro rfl
    obtain ⟨pk, pr⟩ := put_rep (k := k) ek rr r2
    have rn : Rep K (upd H2 a (.dK (putK kvs k v))) (.ref a) (.dct (pK des k d)) [a] := .dct (.inl upd_same) pk (pr.step st1 fun b m => (nomatch m))
    have fr : ∀ b ∈ [a], b ∈ G2 i ∨ H2 b = none := fun b m => .inl (by rw [hg]; exact m)
    have er := s2.er.put e1 e2 hx st rn (List.nodup_cons.mpr ⟨fun m => (nomatch m), .nil⟩) fr fun b m => by
      rcases List.mem_cons.mp m with rfl | m
      · exact ⟨_, upd_same, True.intro⟩
      · cases m
    exact l.nx σ _ _ _ ((s1.mv.trans s2.mv).trans (mv_put e1 e2 st fr)) er hn
end
end Fd
namespace Fd
open PySem PySem.Spec PyProof.Rows L2
/-! ### a dict locked for a while -/
theorem rd_nd {H : Hp} {d a : Addr} {kvs : List (Key × V)} (hd : Rd H d (.dK kvs)) {o : HO} (h : H a = some o) (n1 : ∀ k, o ≠ .dK k) (n2 : ∀ ob k, o ≠ .frz ob (.dK k)) : a ≠ d := fun z => by
  subst z
  rcases hd with hd | ⟨ob, hd⟩
  · rw [h] at hd; cases hd; exact n1 _ rfl
  · rw [h] at hd; cases hd; exact n2 _ _ rfl
section
variable {K : PySem.W.Frag} {H H' : Hp} {d : Addr} {kvs : List (Key × V)}
theorem rd_swap (hd : Rd H d (.dK kvs)) (hd' : Rd H' d (.dK kvs)) (ne : ∀ a, a ≠ d → H' a = H a) {a : Addr} {l : List (Key × V)} (h : Rd H a (.dK l)) : Rd H' a (.dK l) := by
  by_cases z : a = d
  · subst z
    have e : l = kvs := by
      rcases h with h | ⟨o, h⟩ <;> rcases hd with hd | ⟨o', hd⟩ <;> (rw [h] at hd; cases hd; try rfl)
    rw [e]; exact hd'
  · rcases h with h | ⟨o, h⟩
    · exact .inl (by rw [ne a z]; exact h)
    · exact .inr ⟨o, by rw [ne a z]; exact h⟩
mutual
theorem Rep.swap (hd : Rd H d (.dK kvs)) (hd' : Rd H' d (.dK kvs)) (ne : ∀ a, a ≠ d → H' a = H a) {v : V} {x : Dv} {G : List Addr} : Rep K H v x G → Rep K H' v x G
  | .non => .non
  | .bl b => .bl b
  | .int i => .int i
  | .str x => .str x
  | .tup h r => .tup (by
      rcases h with h | ⟨h, e⟩
      · exact .inl (by rw [ne _ (rd_nd hd h (fun _ z => nomatch z) (fun _ _ z => nomatch z))]; exact h)
      refine .inr ⟨?_, e.imp id fun ⟨o, h1, h2⟩ => ⟨o, by rw [ne _ (rd_nd hd h1 (fun _ z => nomatch z) (fun _ _ z => nomatch z))]; exact h1, h2⟩⟩
      rcases h with (h | ⟨o, h⟩) | h
      · exact .inl (.inl (by rw [ne _ (rd_nd hd h (fun _ z => nomatch z) (fun _ _ z => nomatch z))]; exact h))
      · exact .inl (.inr ⟨o, by rw [ne _ (rd_nd hd h (fun _ z => nomatch z) (fun _ _ z => nomatch z))]; exact h⟩)
      · exact .inr h) (Reps.swap hd hd' ne r)
  | .lst h r => .lst (by rw [ne _ (rd_nd hd h (fun _ z => nomatch z) (fun _ _ z => nomatch z))]; exact h) (Reps.swap hd hd' ne r)
  | .frl h => .frl (by
      rcases h with ⟨o, h⟩ | h
      · exact .inl ⟨o, by rw [ne _ (rd_nd hd h (fun _ z => nomatch z) (fun _ _ z => nomatch z))]; exact h⟩
      · exact .inr h)
  | .dct h e r => .dct (rd_swap hd hd' ne h) e (Reps.swap hd hd' ne r)
  | .dctT h e r => .dctT (by
      rcases h with h | ⟨o, h⟩
      · exact .inl (by rw [ne _ (rd_nd hd h (fun _ z => nomatch z) (fun _ _ z => nomatch z))]; exact h)
      · exact .inr ⟨o, by rw [ne _ (rd_nd hd h (fun _ z => nomatch z) (fun _ _ z => nomatch z))]; exact h⟩) e (Reps.swap hd hd' ne r)
  | .obj h e r => .obj (by rw [ne _ (rd_nd hd h (fun _ z => nomatch z) (fun _ _ z => nomatch z))]; exact h) e (Reps.swap hd hd' ne r)
theorem Reps.swap (hd : Rd H d (.dK kvs)) (hd' : Rd H' d (.dK kvs)) (ne : ∀ a, a ≠ d → H' a = H a) {vs : List V} {xs : List Dv} {G : List Addr} : Reps K H vs xs G → Reps K H' vs xs G
  | .nil => .nil
  | .cons h r => .cons (Rep.swap hd hd' ne h) (Reps.swap hd hd' ne r)
end
theorem rd_has (hd : Rd H d (.dK kvs)) : H d ≠ none := fun z => by
  rcases hd with h | ⟨o, h⟩ <;> (rw [z] at h; cases h)
theorem EnvR.swap {B : Bs} {σ : L2.St} {env : List Sl} {G : Nat → List Addr} (hd : Rd H d (.dK kvs)) (hd' : Rd H' d (.dK kvs)) (ne : ∀ a, a ≠ d → H' a = H a) (nh : ¬ Hot env G d) (e : EnvR K B σ H env G) : EnvR K B σ H' env G :=
  ⟨e.len, fun i s x h1 h2 => (let ⟨v, h3, r⟩ := e.rep i s x h1 h2; ⟨v, h3, r.swap hd hd' ne⟩), e.non, e.nod, e.dis, e.pin, e.loc, fun a h => e.he a (by
    have z : a ≠ d := fun z => by subst z; exact rd_has hd' h
    rw [← ne a z]; exact h), e.org, e.pc, fun i s a h1 h2 m => (by
    obtain ⟨o, q, mm⟩ := e.mu i s a h1 h2 m
    refine ⟨o, ?_, mm⟩
    rw [ne a fun z => nh ⟨i, s, h1, h2, by rw [← z]; exact m⟩]; exact q), e.kp⟩
theorem lock_out {B : Bs} {σ' : L2.St} {env env' : List Sl} {G G' : Nat → List Addr} {od : Obj} (ha : H d = some (.dK kvs)) (nh : ¬ Hot env G d) (m : Mv env G (upd H d (.frz od (.dK kvs))) env' G' H') (e' : EnvR K B σ' H' env' G') :
    H' d = some (.frz od (.dK kvs)) ∧ Mv env G H env' G' (upd H' d (.dK kvs)) ∧ EnvR K B σ' (upd H' d (.dK kvs)) env' G' ∧ ¬ Hot env' G' d := by
  have k : H' d = some (.frz od (.dK kvs)) := m.stp.keep d _ upd_same fun z => z.elim
  have nh' : ¬ Hot env' G' d := fun z => by
    rcases m.c1 d z with z | z
    · exact nh z
    · rw [upd_same] at z; cases z
  refine ⟨k, ⟨⟨fun a o h n => ?_, fun a h => ?_⟩, fun a z => ?_⟩, e'.swap (.inr ⟨od, k⟩) (.inl upd_same) (fun a z => upd_ne z) nh', nh'⟩
  · by_cases z : a = d
    · subst z; rw [ha] at h; cases h; exact upd_same
    · rw [upd_ne z]; exact m.stp.keep a o (by rw [upd_ne z]; exact h) n
  · have z : a ≠ d := fun z => by subst z; rw [upd_same] at h; cases h
    rw [upd_ne z] at h
    have := m.stp.al a h
    rwa [upd_ne z] at this
  · rcases m.c1 a z with q | q
    · exact .inl q
    · have y : a ≠ d := fun y => by subst y; rw [upd_same] at q; cases q
      rw [upd_ne y] at q
      exact .inr q
end
/-- locked, or it was so already -/
def tLockO (t : TE) : TE := fun σ H Q => tLockE t σ H Q ∨ t σ H Q
theorem pe_lockO {X : Cx} {e : Expr} {t : TE} (h : PE X e t) : PE X e (tLockO t) := PE_or (pe_lock h) h
def tLockSO (t : TS) : TS := fun D σ H => tLock t D σ H ∨ t D σ H
theorem ps_lockO {X : Cx} {e : Stmt} {t : TS} (h : PS X e t) : PS X e (tLockSO t) := PS_or (ps_lock h) h
section
variable {K : PySem.W.Frag} {B : Bs} {env : List Sl} {P : Dv → Fl → Bool → List Sl → Prop} {D : Ds} {t : TE} {ts : TS}
/-- the slot's dict stands locked -/
def LkAt (i : Nat) : L2.St → Hp → Prop := fun σ H => ∃ a o kvs, σ[i]? = some (some (.ref a)) ∧ H a = some (.frz o (.dK kvs))
theorem dt_lockO {i : Nat} {l : List (Key × Dv)} (he : env[i]? = some (.co (.dct l))) (h : DTp (LkAt i) K B t env P) : DT K B (tLockO t) env P := fun σ H G Q e q => by
  obtain ⟨v, hv, r⟩ := e.rep i _ _ he rfl
  have nh : ∀ a ∈ G i, ¬ Hot env G a := hot_of e he rfl
  generalize G i = g at r nh
  cases r with
  | @dct a kvs _ g ha ek rr =>
    rcases ha with ha | ⟨o, ha⟩
    · refine .inl ⟨a, _, ha, True.intro, fun od => ?_⟩
      have hn := nh a List.mem_cons_self
      have e1 : EnvR K B σ (upd H a (.frz od (.dK kvs))) env G := e.swap (.inl ha) (.inr ⟨od, upd_same⟩) (fun b z => upd_ne z) hn
      refine h σ _ G _ e1 ⟨a, od, kvs, hv, upd_same⟩ fun v' H' d fl pu env' G' Gv s r f hP => ?_
      obtain ⟨k1, k2, k3, k4⟩ := lock_out ha hn s.mv s.er
      have nl : ∀ b, (upd H a (.frz od (.dK kvs))) b = none → H b = none ∧ b ≠ a := fun b z => by
        have y : b ≠ a := fun y => by subst y; rw [upd_same] at z; cases z
        rw [upd_ne y] at z; exact ⟨z, y⟩
      refine ⟨k1, q v' _ d fl pu env' G' Gv ⟨k2, fun b z => (s.c2 b z).imp_right fun z => (nl b z).1, s.cs, s.hs, s.ln, k3, fun hp => ?_⟩ (r.swap (.inr ⟨od, k1⟩) (.inl upd_same) fun b z => upd_ne z) ⟨f.cold, fun hf => ⟨(f.fr hf).1, fun b m => ?_⟩, fun b m => (f.c3 b m).imp_right fun z => (nl b z).1⟩ hP⟩
      · obtain ⟨q1, q2, q3⟩ := s.pr hp
        refine ⟨fun b o hb => ?_, q2, q3⟩
        by_cases z : b = a
        · subst z; rw [ha] at hb; cases hb; exact upd_same
        · rw [upd_ne z]; exact q1 b o (by rw [upd_ne z]; exact hb)
      · obtain ⟨⟨z1, z2⟩, o, z3, z4⟩ := (f.fr hf).2 b m
        exact ⟨⟨(nl b z1).1, z2⟩, o, by rw [upd_ne (nl b z1).2]; exact z3, z4⟩
    · exact .inr (h σ H G Q e ⟨a, o, kvs, hv, ha⟩ q)
theorem dts_lockO {i : Nat} {l : List (Key × Dv)} (he : env[i]? = some (.co (.dct l))) (h : DTSp (LkAt i) K B ts env D) : DTS K B (tLockSO ts) env D := fun σ H G E e lk => by
  obtain ⟨v, hv, r⟩ := e.rep i _ _ he rfl
  have nh : ∀ a ∈ G i, ¬ Hot env G a := hot_of e he rfl
  generalize G i = g at r nh
  cases r with
  | @dct a kvs _ g ha ek rr =>
    rcases ha with ha | ⟨o, ha⟩
    · refine .inl ⟨a, _, ha, True.intro, fun od => ?_⟩
      have hn := nh a List.mem_cons_self
      have e1 : EnvR K B σ (upd H a (.frz od (.dK kvs))) env G := e.swap (.inl ha) (.inr ⟨od, upd_same⟩) (fun b z => upd_ne z) hn
      refine h σ _ G _ e1 ⟨a, od, kvs, hv, upd_same⟩ ⟨fun σ' H' env' G' m e' z => ?_, fun σ' H' env' G' m e' z => ?_, fun σ' H' env' G' m e' z => ?_, fun σ' H' env' G' v d fl Gv m e' r f z => ?_⟩
      · obtain ⟨k1, k2, k3, k4⟩ := lock_out ha hn m e'
        exact ⟨k1, lk.nx σ' _ env' G' k2 k3 z⟩
      · obtain ⟨k1, k2, k3, k4⟩ := lock_out ha hn m e'
        exact ⟨k1, lk.bk σ' _ env' G' k2 k3 z⟩
      · obtain ⟨k1, k2, k3, k4⟩ := lock_out ha hn m e'
        exact ⟨k1, lk.ct σ' _ env' G' k2 k3 z⟩
      · obtain ⟨k1, k2, k3, k4⟩ := lock_out ha hn m e'
        refine ⟨k1, lk.rt σ' _ env' G' v d fl Gv k2 k3 (r.swap (.inr ⟨od, k1⟩) (.inl upd_same) fun b z => upd_ne z) ⟨f.cold, fun hf => ⟨(f.fr hf).1, fun b mb => ?_⟩, f.c3⟩ z⟩
        obtain ⟨z1, o, z3, z4⟩ := (f.fr hf).2 b mb
        refine ⟨z1, o, ?_, z4⟩
        rw [upd_ne fun y => ?_]
        · exact z3
        · subst y; rw [k1] at z3; cases z3; exact z4.elim
    · exact .inr (h σ H G E e ⟨a, o, kvs, hv, ha⟩ lk)
/-! the pairs of a dict -/
def pairsD (l : List (Key × Dv)) : List Dv := l.map fun p => Dv.tup [kD p.1, p.2]
theorem rep_key {H : Hp} (k : Key) : Rep K H (kV k) (kD k) [] := by
  cases k with
  | inl i => exact .int i
  | inr x => exact .str x
theorem itD_items {a : Addr} {o : Obj} {kvs : List (Key × V)} {l : List (Key × Dv)} {g : List Addr} (ek : l.map (·.1) = kvs.map (·.1)) :
    ItD K (Iti a o kvs) (fun H => H a = some (.frz o (.dK kvs)) ∧ Reps K H (kvs.map (·.2)) (l.map (·.2)) g) (a :: g) (pairsD l) := by
  have hl := len_keys ek
  refine ⟨fun M H H' st n z => ⟨st.keep a _ z.1 fun y => y.elim, z.2.step st fun b m => n b (List.mem_cons_of_mem _ m)⟩, fun H z b m => ?_, fun i x H hx z => ?_, fun H z => ⟨z.1, by unfold pairsD; rw [List.length_map]; omega⟩⟩
  · rcases List.mem_cons.mp m with rfl | m
    · exact ⟨_, z.1⟩
    · exact z.2.alloc b m
  · unfold pairsD at hx
    rw [List.getElem?_map] at hx
    obtain ⟨⟨k, d⟩, hkd, rfl⟩ := Option.map_eq_some_iff.mp hx
    have hil : i < l.length := (List.getElem?_eq_some_iff.mp hkd).1
    refine ⟨⟨z.1, by omega⟩, fun y H' ⟨T, k', v, h1, h2, h3, h4⟩ => ?_⟩
    subst h2 h4
    have hk : k' = k := by
      have e1 : (kvs.map (·.1))[i]? = some k' := by rw [List.getElem?_map, h1]; rfl
      rw [← ek, List.getElem?_map, hkd] at e1
      cases e1; rfl
    subst hk
    have sm : Same H (upd H T (.tup [kV k', v])) := same_new h3
    obtain ⟨d', G1, e2, rv, sub⟩ := z.2.get i v (by rw [List.getElem?_map, h1]; rfl)
    rw [List.getElem?_map, hkd] at e2
    cases e2
    have r2 : Reps K H [kV k', v] [kD k', d] ([] ++ (G1 ++ [])) := .cons (rep_key k') (.cons rv .nil)
    rw [List.nil_append, List.append_nil] at r2
    exact ⟨sm, G1, .tup (.inl upd_same) (r2.step (M := fun _ => False) (.same sm) fun _ _ y => y), fun b m => List.mem_cons_of_mem _ (sub b m)⟩
variable {PI : List Dv → Fl → Bool → List Sl → Prop}
/-- for k, v in d.items(), d locked -/
theorem di_itemsL {i : Nat} {l : List (Key × Dv)} (he : env[i]? = some (.co (.dct l))) (h : PI (pairsD l) .cold true env) : DIp (LkAt i) K B (iItems (tVar i)) env PI := fun σ H G R e ⟨a, o, kvs, hv, ha⟩ q => by
  obtain ⟨v, hv', r⟩ := e.rep i _ _ he rfl
  rw [hv] at hv'; cases hv'
  refine ⟨_, hv, a, o, kvs, rfl, ha, ?_⟩
  have hot := hot_of e he rfl
  have al : ∀ b ∈ G i, All G b := fun b m => ⟨i, m⟩
  generalize G i = g at r hot al
  cases r with
  | @dct _ kvs' _ g ha' ek rr =>
    have e1 : kvs' = kvs := by
      rcases ha' with ha' | ⟨o', ha'⟩ <;> (rw [ha] at ha'; cases ha'; try rfl)
    subst e1
    exact q (Iti a o kvs') H true env G _ .cold (a :: g) (pairsD l) (.refl e) (itD_items ek) ⟨ha, rr⟩ ⟨fun _ => hot, fun z => (nomatch z), fun b m => .inl (al b m)⟩ h
/-- a new dict, locked for good -/
def tFrz (t : TE) : TE := fun σ H Q => t σ H fun x H1 => ∃ d u, x = .ref d ∧ H1 d = some u ∧ Mut (some u) ∧ ∀ od, Q x (upd H1 d (.frz od u))
theorem pe_frz {X : Cx} {e : Expr} {t : TE} (h : PE X e t) : PE X e (tFrz t) := by
  refine ⟨fun pins s σ H Q I hw => ?_⟩
  refine thn (h.run pins s σ H _ I hw) fun v s1 ⟨x, H1, I1, r, d, u, e1, e2, e3, q⟩ => ?_
  obtain ⟨od, I2⟩ := I1.lock e2 e3
  exact ⟨x, _, I2, r, q od⟩
theorem di_itemsT {te : TE} (h : DT K B te env fun d fl pu env1 => ∃ l, d = .dct l ∧ fl = .fresh ∧ PI (pairsD l) .cold pu env1) : DI K B (iItems (tFrz te)) env PI := fun σ H G R e q => by
  refine h σ H G _ e fun v H1 d fl pu env1 G1 Gv s r f ⟨l, hd, hf, hp⟩ => ?_
  subst hd hf
  obtain ⟨nd, fr⟩ := f.fr rfl
  have c3 := f.c3
  cases r with
  | @dct a kvs _ g ha ek rr =>
    obtain ⟨⟨f1, f2⟩, o, f3, f4⟩ := fr a List.mem_cons_self
    have ha' : H1 a = some (.dK kvs) := by
      rcases ha with ha | ⟨o', ha⟩
      · exact ha
      · rw [ha] at f3; cases f3; exact f4.elim
    refine ⟨a, _, rfl, ha', True.intro, fun od => ?_⟩
    have hn : ¬ Hot env1 G1 a := fun z => f2 z.all
    have sw : ∀ b, b ≠ a → (upd H1 a (.frz od (.dK kvs))) b = H1 b := fun b z => upd_ne z
    have e1 := s.er.swap (H' := upd H1 a (.frz od (.dK kvs))) (.inl ha') (.inr ⟨od, upd_same⟩) sw hn
    have nn : ∀ b, H b ≠ none → b ≠ a := fun b z y => by subst y; exact z f1
    refine ⟨a, od, kvs, rfl, upd_same, q (Iti a od kvs) _ pu env1 G1 _ .cold (a :: g) (pairsD l) ⟨⟨⟨fun b o' hb n => ?_, fun b hb => ?_⟩, s.mv.c1⟩, s.c2, s.cs, s.hs, s.ln, e1, fun hpu => ?_⟩ (itD_items ek) ⟨upd_same, rr.swap (.inl ha') (.inr ⟨od, upd_same⟩) sw⟩ ⟨fun _ b m => f.cold (fun z => nomatch z) b m, fun z => (nomatch z), c3⟩ hp⟩
    · rw [sw b (nn b (by rw [hb]; exact fun z => nomatch z))]; exact s.mv.stp.keep b o' hb n
    · have y : b ≠ a := fun y => by subst y; rw [upd_same] at hb; cases hb
      rw [sw b y] at hb; exact s.mv.stp.al b hb
    · obtain ⟨q1, q2, q3⟩ := s.pr hpu
      refine ⟨fun b o' hb => ?_, q2, q3⟩
      rw [sw b (nn b (by rw [hb]; exact fun z => nomatch z))]; exact q1 b o' hb
end
end Fd
namespace Fd
open PySem PySem.Spec PyProof.Rows L2
/-! ### < of ints, texts, tuples of such -/
def ltLs (f : PyData → PyData → Option Bool) : List PyData → List PyData → Option Bool
  | [], [] => some false
  | [], _ :: _ => some true
  | _ :: _, [] => some false
  | x :: xs, y :: ys => match ltLs f xs ys with
    | none => none
    | some t => if PyData.eqv x y = true then some t else f x y
def ltP : Nat → PyData → PyData → Option Bool
  | _, .int a, .int b => some (decide (a < b))
  | _, .str a, .str b => some (decide (a.cps.toList < b.cps.toList))
  | n + 1, .tuple xs, .tuple ys => ltLs (ltP n) xs ys
  | _, _, _ => none
theorem ltLs_all {f : PyData → PyData → Option Bool} : ∀ {xs ys : List PyData} {b : Bool}, ltLs f xs ys = some b → ∀ (j : Nat) (x y : PyData), xs[j]? = some x → ys[j]? = some y → PyData.eqv x y = false → ∃ t, f x y = some t
  | [], _, _, _, j, x, y, h, _, _ => by simp at h
  | _ :: _, [], _, _, j, x, y, _, h, _ => by simp at h
  | a :: xs, c :: ys, b, e, j, x, y, h1, h2, h3 => by
    unfold ltLs at e
    cases q : ltLs f xs ys with
    | none => rw [q] at e; cases e
    | some t =>
      rw [q] at e
      cases j with
      | zero =>
        simp at h1 h2
        subst h1 h2
        have e : (if PyData.eqv a c = true then some t else f a c) = some b := e
        rw [h3, if_neg Bool.false_ne_true] at e
        exact ⟨b, e⟩
      | succ j => exact ltLs_all q j x y (by simpa using h1) (by simpa using h2) h3
theorem ltLs_lex {f : PyData → PyData → Option Bool} {e r : Nat → Bool} : ∀ {xs ys : List PyData} {b : Bool} (i : Nat), ltLs f xs ys = some b → (∀ (j : Nat) (x y : PyData), xs[j]? = some x → ys[j]? = some y → e (i + j) = PyData.eqv x y) →
    (∀ (j : Nat) (x y : PyData), xs[j]? = some x → ys[j]? = some y → PyData.eqv x y = false → f x y = some (r (i + j))) → Ob.lexAt e r (decide (xs.length < ys.length)) i (min xs.length ys.length) = b
  | [], [], _, i, h, _, _ => by cases h; rfl
  | [], _ :: _, _, i, h, _, _ => by
    cases h
    show Ob.lexAt e r _ i (min 0 _) = true
    rw [Nat.zero_min, Ob.lexAt_zero]; simp
  | _ :: _, [], _, i, h, _, _ => by
    cases h
    show Ob.lexAt e r _ i (min _ 0) = false
    rw [Nat.min_zero, Ob.lexAt_zero]; simp
  | x :: xs, y :: ys, b, i, h, he, hr => by
    unfold ltLs at h
    cases q : ltLs f xs ys with
    | none => rw [q] at h; cases h
    | some t =>
      rw [q] at h
      have h : (if PyData.eqv x y = true then some t else f x y) = some b := h
      have ih := ltLs_lex (e := e) (r := r) (i + 1) q (fun j a c h1 h2 => by
        rw [Nat.add_assoc, Nat.add_comm 1 j]; exact he (j + 1) a c (by simpa using h1) (by simpa using h2)) (fun j a c h1 h2 h3 => by
        rw [Nat.add_assoc, Nat.add_comm 1 j]; exact hr (j + 1) a c (by simpa using h1) (by simpa using h2) h3)
      have e0 := he 0 x y rfl rfl
      rw [List.length_cons, List.length_cons, Nat.succ_min_succ, Ob.lexAt_succ]
      rw [show decide (xs.length + 1 < ys.length + 1) = decide (xs.length < ys.length) by simp]
      cases c : PyData.eqv x y with
      | true =>
        rw [Nat.add_zero, c] at e0
        rw [c, if_pos rfl] at h
        cases h
        rw [e0, if_pos rfl]; exact ih
      | false =>
        rw [Nat.add_zero, c] at e0
        rw [c, if_neg Bool.false_ne_true] at h
        have := hr 0 x y rfl rfl c
        rw [h, Nat.add_zero] at this
        cases this
        rw [e0, if_neg Bool.false_ne_true]
theorem readsAll_at {h : Heap} : ∀ {vs : List Value} {ds : List PyData} {as : List Addr}, ReadsAll h vs ds as → ∀ (j : Nat) (v : Value), vs[j]? = some v → ∃ d bs, ds[j]? = some d ∧ Reads h v d bs
  | _, _, _, .nil, j, v, e => by simp at e
  | _, _, _, .cons r t, 0, v, e => by simp at e; subst e; exact ⟨_, _, rfl, r⟩
  | _, _, _, .cons r t, j + 1, v, e => by
    obtain ⟨d, bs, h1, h2⟩ := readsAll_at t j v (by simpa using e)
    exact ⟨d, bs, by simpa using h1, h2⟩
theorem readsAll_len {h : Heap} : ∀ {vs : List Value} {ds : List PyData} {as : List Addr}, ReadsAll h vs ds as → vs.length = ds.length
  | _, _, _, .nil => rfl
  | _, _, _, .cons r t => congrArg (· + 1) (readsAll_len t)
theorem lay_at : ∀ {ds : List PyData}, PyData.canLayAll0 ds = true → ∀ d ∈ ds, PyData.canLay0 d = true ∧ d.depth ≤ PyData.depthAll ds
  | [], _, d, m => nomatch m
  | x :: xs, h, d, m => by
    simp only [PyData.canLayAll0, Bool.and_eq_true] at h
    simp only [PyData.depthAll]
    rcases List.mem_cons.mp m with rfl | m
    · exact ⟨h.1, Nat.le_max_left _ _⟩
    · obtain ⟨h1, h2⟩ := lay_at h.2 d m
      exact ⟨h1, Nat.le_trans h2 (Nat.le_max_right _ _)⟩
theorem rc_lt : ∀ (n : Nat) (d e : PyData) (b : Bool), ltP n d e = some b → ∀ {A : Around} {s : Shared} {u v : Value} {as bs : List Addr}, Reads s.heap u d as → Reads s.heap v e bs → d.canLay0 = true → e.canLay0 = true → A.units + d.depth < cLine → Ob.RcOp .Lt A s u v b := by
  intro n
  induction n with
  | zero =>
    intro d e b h A s u v as bs ru rv _ _ _
    unfold ltP at h
    split at h
    · cases h; cases ru; cases rv
      exact Ob.RcOp.lt_int _ _ _ _
    · cases h; cases ru; cases rv
      exact fun prog w E Q q => PyProof.Rows.lt_str q
    · rename_i h0 _ _ _; cases h0
    · cases h
  | succ n ih =>
    intro d e b h A s u v as bs ru rv cd ce hu
    unfold ltP at h
    split at h
    · cases h; cases ru; cases rv
      exact Ob.RcOp.lt_int _ _ _ _
    · cases h; cases ru; cases rv
      exact fun prog w E Q q => PyProof.Rows.lt_str q
    · rename_i n' xs ys hn
      have hn' : n' = n := by omega
      subst hn'
      cases ru with
      | @tuple a o vs n1 _ _ ho hc hd ra =>
        cases rv with
        | @tuple a' o' vs' n2 _ _ ho' hc' hd' ra' =>
          have cx : PyData.canLayAll0 xs = true := by simpa [PyData.canLay0] using cd
          have cy : PyData.canLayAll0 ys = true := by simpa [PyData.canLay0] using ce
          have hu1 : A.in1.units + PyData.depthAll xs < cLine := by
            have : PyData.depth (.tuple xs) = PyData.depthAll xs + 1 := by simp [PyData.depth]
            rw [this] at hu
            show A.units + 1 + _ < _
            omega
          have l1 : vs.size = xs.length := by rw [← readsAll_len ra, Array.length_toList]
          have l2 : vs'.size = ys.length := by rw [← readsAll_len ra', Array.length_toList]
          have at1 : ∀ j (h1 : j < vs.size), ∃ x bs, xs[j]? = some x ∧ Reads s.heap vs[j] x bs := fun j h1 => readsAll_at ra j _ (by rw [Array.getElem?_toList]; exact Array.getElem?_eq_getElem h1)
          have at2 : ∀ j (h1 : j < vs'.size), ∃ x bs, ys[j]? = some x ∧ Reads s.heap vs'[j] x bs := fun j h1 => readsAll_at ra' j _ (by rw [Array.getElem?_toList]; exact Array.getElem?_eq_getElem h1)
          let ef : Nat → Bool := fun j => PyData.eqv (xs.getD j .none) (ys.getD j .none)
          let rf : Nat → Bool := fun j => (ltP n' (xs.getD j .none) (ys.getD j .none)).getD false
          have gx : ∀ {zs : List PyData} {j : Nat} {x : PyData}, zs[j]? = some x → zs.getD j .none = x := fun h => by rw [List.getD_eq_getElem?_getD, h]; rfl
          have R := Ob.RcOp.tuples_lt (A := A) (s := s) (l := a) (b := a') (items := vs) (items2 := vs') (e := ef) (r := rf) ⟨o, ho, hc, n1, hd⟩ ⟨o', ho', hc', n2, hd'⟩ (by omega) (fun j h1 h2 => by
            obtain ⟨x, bs, e1, r1⟩ := at1 j h1
            obtain ⟨y, bs', e2, r2⟩ := at2 j h2
            obtain ⟨c1, c2⟩ := lay_at cx x (List.mem_of_getElem? e1)
            obtain ⟨c3, c4⟩ := lay_at cy y (List.mem_of_getElem? e2)
            show SeqAt.EqAt A.in1 s vs[j] vs'[j] (PyData.eqv (xs.getD j .none) (ys.getD j .none))
            rw [gx e1, gx e2]
            refine SeqAt.eqAt_reads x y A.in1 s _ _ bs bs' r1 r2 c1 c3 ?_
            have : min x.depth y.depth ≤ x.depth := Nat.min_le_left _ _
            omega) (fun j h1 h2 he => by
            obtain ⟨x, bs, e1, r1⟩ := at1 j h1
            obtain ⟨y, bs', e2, r2⟩ := at2 j h2
            obtain ⟨c1, c2⟩ := lay_at cx x (List.mem_of_getElem? e1)
            obtain ⟨c3, c4⟩ := lay_at cy y (List.mem_of_getElem? e2)
            have he : PyData.eqv (xs.getD j .none) (ys.getD j .none) = false := he
            rw [gx e1, gx e2] at he
            obtain ⟨t, ht⟩ := ltLs_all h j x y e1 e2 he
            show Ob.RcOp .Lt A.in1 s vs[j] vs'[j] ((ltP n' (xs.getD j .none) (ys.getD j .none)).getD false)
            rw [gx e1, gx e2, ht]
            exact ih x y t ht r1 r2 c1 c3 (by omega))
          have lx := ltLs_lex (e := ef) (r := rf) 0 h (fun j x y e1 e2 => by
            show PyData.eqv (xs.getD (0 + j) .none) (ys.getD (0 + j) .none) = _
            rw [Nat.zero_add, gx e1, gx e2]) (fun j x y e1 e2 he => by
            obtain ⟨t, ht⟩ := ltLs_all h j x y e1 e2 he
            show _ = some ((ltP n' (xs.getD (0 + j) .none) (ys.getD (0 + j) .none)).getD false)
            rw [Nat.zero_add, gx e1, gx e2, ht]; rfl)
          rw [l1, l2, lx] at R
          exact R
    · cases h
def rLtD (K : PySem.W.Frag) : R2 := fun x y H Q => ∃ d e b, Dp K H x d ∧ Dp K H y e ∧ SeqAt.shaped d = true ∧ SeqAt.shaped e = true ∧ ltP 8 d e = some b ∧ Q (.bl b) H
theorem op_ltD {X : Cx} (hu : X.A.units + 64 < cLine) : OpR X (compareOp .Lt) (rLtD X.K) := by
  intro pins s σ H x y v u Q I rx ry h
  obtain ⟨d, e, b, hd, he, sd, se, hl, q⟩ := h
  obtain ⟨as, r1⟩ := Dp.reads I d x v hd rx
  obtain ⟨bs, r2⟩ := Dp.reads I e y u he ry
  have z : wpAny (model X.prog X.w) X.A (compareOp .Lt v u) (EP X pins σ Q) X.xe s := rc_lt 8 d e b hl r1 r2 (SeqAt.canLay_of_shaped sd) (SeqAt.canLay_of_shaped se) (by have := SeqAt.depth_of_shaped sd; omega) X.prog X.w X.xe (EP X pins σ Q) ⟨.bl _, H, I, rfl, q⟩
  exact z
def ltD (d1 d2 : Dv) : Option Dv := match pyD d1, pyD d2 with
  | some p, some q => if (SeqAt.shaped p && SeqAt.shaped q) = true then (ltP 8 p q).map .bl else none
  | _, _ => none
theorem opD_ltD {K : PySem.W.Frag} : OpD K (rLtD K) true ltD := fun H x y d1 d2 d G1 G2 Q r1 r2 e q => by
  unfold ltD at e
  split at e
  · rename_i p p' h1 h2
    split at e
    · rename_i hs
      obtain ⟨s1, s2⟩ := Bool.and_eq_true_iff.mp hs
      obtain ⟨b, hb, rfl⟩ := Option.map_eq_some_iff.mp e
      exact ⟨p, p', b, r1.dp h1, r2.dp h2, s1, s2, hb, q _ H [] (.refl H) (.bl _) (fun b k => (nomatch k)) fun _ _ => ⟨.nil, fun a m => (nomatch m)⟩⟩
    · cases e
  · cases e
theorem sc_ltD : Sc ltD := fun d1 d2 d e => by
  unfold ltD at e
  split at e
  · split at e
    · obtain ⟨_, _, rfl⟩ := Option.map_eq_some_iff.mp e; rfl
    · cases e
  · cases e
end Fd
namespace Fd
open PySem PySem.Spec PyProof.Rows L2
/-! ### list(..), tuple(..), dict(..), update, in a list of scalars, zip -/
def mergeKD (l m : List (Key × Dv)) : List (Key × Dv) := m.foldl (fun acc p => pK acc p.1 p.2) l
section
variable {K : PySem.W.Frag} {H : Hp}
theorem merge_rep : ∀ {more : List (Key × V)} {m : List (Key × Dv)} {kvs : List (Key × V)} {l : List (Key × Dv)}, l.map (·.1) = kvs.map (·.1) → Reps K H (kvs.map (·.2)) (l.map (·.2)) [] → m.map (·.1) = more.map (·.1) → Reps K H (more.map (·.2)) (m.map (·.2)) [] →
    (mergeKD l m).map (·.1) = (mergeK kvs more).map (·.1) ∧ Reps K H ((mergeK kvs more).map (·.2)) ((mergeKD l m).map (·.2)) []
  | [], [], kvs, l, e, r, _, _ => ⟨e, r⟩
  | [], _ :: _, _, _, _, _, e, _ => by cases e
  | _ :: _, [], _, _, _, _, e, _ => by cases e
  | p :: more, q :: m, kvs, l, e, r, em, rm => by
    have e1 : q.1 = p.1 := (List.cons.inj em).1
    have e2 : m.map (·.1) = more.map (·.1) := (List.cons.inj em).2
    have r' : Reps K H (p.2 :: more.map (·.2)) (q.2 :: m.map (·.2)) [] := rm
    generalize hg : ([] : List Addr) = g at r'
    cases r' with
    | @cons _ _ G1 _ _ G2 h t =>
      obtain ⟨rfl, rfl⟩ := List.append_eq_nil_iff.mp hg.symm
      obtain ⟨pk, pr⟩ := put_rep (k := p.1) e r h
      have := merge_rep pk pr e2 t
      show (mergeKD (pK l q.1 q.2) m).map (·.1) = (mergeK (putK kvs p.1 p.2) more).map (·.1) ∧ Reps K H ((mergeK (putK kvs p.1 p.2) more).map (·.2)) ((mergeKD (pK l q.1 q.2) m).map (·.2)) []
      rw [e1]; exact this
def listD : List Dv → Option Dv
  | [.lst xs] => some (.lst xs)
  | [.tup xs] => some (.lst xs)
  | [.frl ns] => some (.lst (ns.map .int))
  | _ => none
theorem reps_ints : ∀ ns : List Int, Reps K H (ns.map V.int) (ns.map Dv.int) []
  | [] => .nil
  | n :: ns => .cons (.int n) (reps_ints ns)
theorem new_lst {p : Addr} {xs : List V} {ds : List Dv} {g : List Addr} (hp : H p = none) (r : Reps K H xs ds g) : Rep K (upd H p (.lst xs)) (.ref p) (.lst ds) (p :: g) ∧ Same H (upd H p (.lst xs)) ∧ (Dv.purs ds = true → (p :: g).Nodup ∧ ∀ a ∈ p :: g, H a = none ∧ ∃ o, (upd H p (.lst xs)) a = some o ∧ Mu o) := by
  have sm : Same H (upd H p (.lst xs)) := same_new hp
  refine ⟨.lst upd_same (r.step (M := fun _ => False) (.same sm) fun _ _ z => z), sm, fun hs => ?_⟩
  rw [r.purG hs]
  exact ⟨List.nodup_cons.mpr ⟨fun m => (nomatch m), .nil⟩, fun b m => by
    rcases List.mem_cons.mp m with rfl | m
    · exact ⟨hp, _, upd_same, True.intro⟩
    · cases m⟩
theorem callD_list : CallD K (fun xs H Q => ∃ p ys, xs = [.ref p] ∧ (SqL K H p ys ∨ SqT K H p ys) ∧ ∀ l, H l = none → Q (.ref l) (upd H l (.lst ys))) true listD := fun H vs ds d G Q r e q => by
  unfold listD at e
  split at e
  · obtain ⟨v, rfl, r1⟩ := r.inv1
    cases e
    cases r1 with
    | @lst a xs _ g ha ra =>
      refine ⟨a, xs, rfl, .inl (SqL.of ha), fun p hp => ?_⟩
      obtain ⟨h1, h2, h3⟩ := new_lst hp ra
      exact q _ _ _ h2 h1 (fun b m => (List.mem_cons.mp m).elim (fun z => .inr (by rw [z]; exact hp)) fun z => .inl (List.mem_cons_of_mem _ z)) fun _ hs => h3 hs
  · obtain ⟨v, rfl, r1⟩ := r.inv1
    cases e
    cases r1 with
    | @tup a xs _ _ ha ra =>
      have ha := ha.sq
      refine ⟨a, xs, rfl, .inr ha, fun p hp => ?_⟩
      obtain ⟨h1, h2, h3⟩ := new_lst hp ra
      exact q _ _ _ h2 h1 (fun b m => (List.mem_cons.mp m).elim (fun z => .inr (by rw [z]; exact hp)) fun z => .inl z) fun _ hs => h3 hs
  · obtain ⟨v, rfl, r1⟩ := r.inv1
    cases e
    cases r1 with
    | @frl a ns h =>
      refine ⟨a, _, rfl, .inl h.sq, fun p hp => ?_⟩
      obtain ⟨h1, h2, h3⟩ := new_lst hp (reps_ints (K := K) (H := H) _)
      exact q _ _ _ h2 h1 (fun b m => (List.mem_cons.mp m).elim (fun z => .inr (by rw [z]; exact hp)) fun z => (by cases z)) fun _ hs => h3 hs
  · cases e
def tupleD : List Dv → Option Dv
  | [.lst xs] => some (.tup xs)
  | [.tup xs] => some (.tup xs)
  | _ => none
theorem callD_tuple : CallD K (fun xs H Q => ∃ p ys, xs = [.ref p] ∧ ((SqL K H p ys ∧ ∀ l, H l = none → Q (.ref l) (upd H l (.tup ys))) ∨ (SqT K H p ys ∧ Q (.ref p) H))) true tupleD := fun H vs ds d G Q r e q => by
  unfold tupleD at e
  split at e
  · obtain ⟨v, rfl, r1⟩ := r.inv1
    cases e
    cases r1 with
    | @lst a xs ds g ha ra =>
      refine ⟨a, xs, rfl, .inl ⟨SqL.of ha, fun p hp => ?_⟩⟩
      have sm : Same H (upd H p (.tup xs)) := same_new hp
      refine q _ _ g sm (.tup (.inl upd_same) (ra.step (M := fun _ => False) (.same sm) fun _ _ z => z)) (fun b m => .inl (List.mem_cons_of_mem _ m)) fun _ hs => ?_
      have hs : Dv.purs _ = true := hs
      rw [ra.purG hs]; exact ⟨.nil, fun b m => (nomatch m)⟩
  · obtain ⟨v, rfl, r1⟩ := r.inv1
    cases e
    cases r1 with
    | @tup a xs ds _ ha ra =>
      refine ⟨a, xs, rfl, .inr ⟨ha.sq, q _ H _ (.refl H) (.tup ha ra) (fun b m => .inl m) fun _ hs => ?_⟩⟩
      have hs : Dv.purs _ = true := hs
      rw [ra.purG hs]; exact ⟨.nil, fun b m => (nomatch m)⟩
  · cases e
/-- dict(d) of a dict; dict(xs) of a list of pairs whose values can't change -/
def rDictA (K : PySem.W.Frag) : List V → Hp → VK → Prop := fun xs H Q => (∃ (a : Addr) (kvs : List (Key × V)), xs = [.ref a] ∧ Rd H a (.dK kvs) ∧ ∀ p, H p = none → Q (.ref p) (upd H p (.dK kvs))) ∨
  ∃ (a : Addr) (ps : List Addr) (kvs : List (Key × V)), xs = [.ref a] ∧ SqL K H a (ps.map V.ref) ∧ Paired (fun p kv => SqT K H p [kV kv.1, kv.2]) ps kvs ∧ ∀ p, H p = none → Q (.ref p) (upd H p (.dK (mergeK [] kvs)))
theorem call_dictA {X : Cx} (hc : X.calm = true) : CallR X (.type "dict") (rDictA X.K) := CallR_or call_dictD (call_dictP hc)
def pairsOf : List Dv → Option (List (Key × Dv))
  | [] => some []
  | .tup [k, d] :: r => match dK k, pairsOf r with
    | some k', some l => some ((k', d) :: l)
    | _, _ => none
  | _ :: _ => none
def dictD : List Dv → Option Dv
  | [.dct l] => some (.dct l)
  | [.lst xs] => match pairsOf xs with
    | some l => if Dv.purs (l.map (·.2)) = true then some (.dct (mergeKD [] l)) else none
    | none => none
  | _ => none
theorem pairs_rep : ∀ {vs : List V} {xs : List Dv} {l : List (Key × Dv)} {G : List Addr}, Reps K H vs xs G → pairsOf xs = some l → Dv.purs (l.map (·.2)) = true → ∃ (ps : List Addr) (kvs : List (Key × V)), vs = ps.map V.ref ∧ Paired (fun p kv => SqT K H p [kV kv.1, kv.2]) ps kvs ∧ l.map (·.1) = kvs.map (·.1) ∧ Reps K H (kvs.map (·.2)) (l.map (·.2)) []
  | _, [], l, _, .nil, e, _ => by
    cases e
    exact ⟨[], [], rfl, .nil, rfl, .nil⟩
  | _, x :: xs, l, _, .cons h t, e, hp => by
    unfold pairsOf at e
    split at e
    · rename_i hh; cases hh
    · rename_i k d r hh
      cases hh
      split at e
      · rename_i k' l' h1 h2
        cases e
        have hp' : _ ∧ _ := Bool.and_eq_true_iff.mp hp
        obtain ⟨ps, kvs, e1, e2, e3, e4⟩ := pairs_rep t h2 hp'.2
        cases h with
        | @tup a vs2 _ _ ha ra =>
          have ha := ha.sq
          obtain ⟨v, u, G1, G2, rfl, r1, r2, _⟩ := ra.inv2
          have hk := r1.key h1
          subst hk
          have := r2.purG hp'.1
          subst this
          exact ⟨a :: ps, (k', u) :: kvs, by rw [e1]; rfl, .cons ha e2, by rw [List.map_cons, List.map_cons, e3], .cons r2 e4⟩
      · cases e
    · cases e
theorem callD_dict : CallD K (rDictA K) true dictD := fun H vs ds d G Q r e q => by
  unfold dictD at e
  split at e
  · obtain ⟨v, rfl, r1⟩ := r.inv1
    cases e
    cases r1 with
    | @dct a kvs l g ha ek ra =>
      refine .inl ⟨a, kvs, rfl, ha, fun p hp => ?_⟩
      have sm : Same H (upd H p (.dK kvs)) := same_new hp
      refine q _ _ (p :: g) sm (.dct (.inl upd_same) ek (ra.step (M := fun _ => False) (.same sm) fun _ _ z => z)) (fun b m => (List.mem_cons.mp m).elim (fun z => .inr (by rw [z]; exact hp)) fun z => .inl (List.mem_cons_of_mem _ z)) fun _ hs => ?_
      have hs : Dv.purs _ = true := hs
      rw [ra.purG hs]
      exact ⟨List.nodup_cons.mpr ⟨fun m => (nomatch m), .nil⟩, fun b m => by
        rcases List.mem_cons.mp m with rfl | m
        · exact ⟨hp, _, upd_same, True.intro⟩
        · cases m⟩
  · obtain ⟨v, rfl, r1⟩ := r.inv1
    split at e
    · rename_i l h1
      split at e
      · rename_i hpu
        cases e
        cases r1 with
        | @lst a xs _ g ha ra =>
          obtain ⟨ps, kvs, e1, e2, e3, e4⟩ := pairs_rep ra h1 hpu
          subst e1
          refine .inr ⟨a, ps, kvs, rfl, SqL.of ha, e2, fun p hp => ?_⟩
          have sm : Same H (upd H p (.dK (mergeK [] kvs))) := same_new hp
          obtain ⟨mk, mr⟩ := merge_rep (kvs := []) (l := []) rfl .nil e3 e4
          refine q _ _ [p] sm (.dct (.inl upd_same) mk (mr.step (M := fun _ => False) (.same sm) fun _ _ z => z)) (fun b m => (List.mem_cons.mp m).elim (fun z => .inr (by rw [z]; exact hp)) fun z => (nomatch z)) fun _ _ => ?_
          exact ⟨List.nodup_cons.mpr ⟨fun m => (nomatch m), .nil⟩, fun b m => by
            rcases List.mem_cons.mp m with rfl | m
            · exact ⟨hp, _, upd_same, True.intro⟩
            · cases m⟩
      · cases e
    · cases e
  · cases e
end
/-! update -/
def rDUpd : V → List V → Hp → VK → Prop := fun x vs H Q => ∃ (a b : Addr) (kvs more : List (Key × V)), x = .ref a ∧ vs = [.ref b] ∧ a ≠ b ∧ H a = some (.dK kvs) ∧ Rd H b (.dK more) ∧ kvs.length + more.length ≤ sizeLine ∧ Q .non (upd H a (.dK (mergeK kvs more)))
theorem mt_dupdate {X : Cx} : MtM X "dict.update" rDUpd := by
  intro pins s σ H x vs v us Q I rx rv h
  obtain ⟨a, b, kvs, more, rfl, rfl, ne, ha, hb, hz, q⟩ := h
  cases rx
  obtain ⟨u, rfl, ru⟩ := rv.one
  cases ru
  obtain ⟨z, hd, vs1, rel, dd⟩ := dk_of I.hok ha
  obtain ⟨z2, hd2, vs2, rel2, dd2⟩ := dk_rd I.hok hb
  refine call_meetsIn PySem.F.slot_dict_update dd.typeIs PySem.F.entry_dict_update (PySem.F.args_dict_update_2 _ _) (meets_dict_update (mixKind X.prog X.w) a b ne hd2) ⟨vs1, vs2, dd, dd2, by rw [← rel.length, ← rel2.length]; exact hz, fun h' dd' _ hs => ?_⟩
  have he : ∃ q, h'.get? a = some q := let ⟨q, _, _, hq, _⟩ := dd'; ⟨q, hq⟩
  have hl : (mergeK kvs more).length ≤ sizeLine := Nat.le_trans (length_mergeK more kvs) hz
  exact ⟨.non, _, d_write I (by rw [ha]; exact True.intro) hs he (dk_new hl hd (KV.merge rel2 rel) dd'), rfl, q⟩
end Fd
namespace Fd
open PySem PySem.Spec PyProof.Rows L2 RZ
section
variable {K : PySem.W.Frag}
def rLtA (K : PySem.W.Frag) : R2 := fun x y H Q => (rI0 fun i j => .bl (decide (i < j))) x y H Q ∨ rLtD K x y H Q
theorem op_ltA {X : Cx} (hu : X.A.units + 64 < cLine) : OpR X (compareOp .Lt) (rLtA X.K) := op_lt.or (op_ltD hu)
def ltA (d e : Dv) : Option Dv := (intOp (fun i j => .bl (decide (i < j))) d e).or (ltD d e)
theorem opD_ltA : OpD K (rLtA K) true ltA := opD_lt.or opD_ltD
theorem sc_ltA : Sc ltA := fun d1 d2 d e => by
  unfold ltA at e
  cases h : intOp (fun i j => .bl (decide (i < j))) d1 d2 with
  | some z =>
    rw [h] at e
    cases e
    exact sc_int (fun _ _ => rfl) d1 d2 _ h
  | none =>
    rw [h] at e
    exact sc_ltD d1 d2 d e
theorem ltA_int {a b : Int} : ltA (.int a) (.int b) = some (.bl (decide (a < b))) := rfl
theorem ltA_of {d e : Dv} {p q : PyData} {b : Bool} (hi : intOp (fun i j => .bl (decide (i < j))) d e = none) (h1 : pyD d = some p) (h2 : pyD e = some q) (s1 : SeqAt.shaped p = true) (s2 : SeqAt.shaped q = true) (h : ltP 8 p q = some b) : ltA d e = some (.bl b) := by
  unfold ltA ltD
  rw [hi, h1, h2]
  show (if (SeqAt.shaped p && SeqAt.shaped q) = true then (ltP 8 p q).map Dv.bl else none) = _
  rw [s1, s2, h]; rfl
theorem ltA_str {a b : Str} (h1 : vS a) (h2 : vS b) : ltA (.str a) (.str b) = some (.bl (decide (a.cps.toList < b.cps.toList))) := by
  have s : ∀ x : Str, vS x → SeqAt.shaped (.str x) = true := fun x h => by
    unfold SeqAt.shaped
    simp [PyData.canLay0, PyData.depth, vS_ok h]
  exact ltA_of rfl rfl rfl (s a h1) (s b h2) (by unfold ltP; rfl)
/-! x in a list or a tuple of scalars -/
def vf : Dv → Option V
  | .non => some .non
  | .bl b => some (.bl b)
  | .int i => some (.int i)
  | .str x => some (.str x)
  | _ => none
def vfs : List Dv → Option (List V)
  | [] => some []
  | d :: ds => match vf d, vfs ds with
    | some v, some vs => some (v :: vs)
    | _, _ => none
theorem Rep.vf {H : Hp} {v : V} {d : Dv} {G : List Addr} {u : V} (r : Rep K H v d G) (h : vf d = some u) : v = u ∧ flatV u = true := by
  cases r <;> first | (cases h; exact ⟨rfl, rfl⟩) | cases h
theorem Reps.vfs {H : Hp} : ∀ {vs : List V} {ds : List Dv} {G : List Addr} {us : List V}, Reps K H vs ds G → vfs ds = some us → vs = us ∧ us.all flatV = true
  | _, _, _, _, .nil, h => by cases h; exact ⟨rfl, rfl⟩
  | _, _, _, us, @Reps.cons _ _ v d G vs ds G' r t, h => by
    unfold Fd.vfs at h
    cases h1 : Fd.vf d with
    | none => rw [h1] at h; cases h
    | some u =>
      cases h2 : Fd.vfs ds with
      | none => rw [h1, h2] at h; cases h
      | some us' =>
        rw [h1, h2] at h
        cases h
        obtain ⟨e1, f1⟩ := Rep.vf r h1
        obtain ⟨e2, f2⟩ := Reps.vfs t h2
        exact ⟨by rw [e1, e2], by rw [List.all_cons, f1, f2]; rfl⟩
def itemsOf : Dv → Option (List Dv)
  | .lst xs => some xs
  | .tup xs => some xs
  | _ => none
def inQ (neg : Bool) (d1 d2 : Dv) : Option Dv := match vf d1, (itemsOf d2).bind vfs with
  | some v, some vs => some (.bl (if neg then !inV v vs else inV v vs))
  | _, _ => none
theorem sq_items {H : Hp} {y : V} {d : Dv} {G : List Addr} {xs : List Dv} (r : Rep K H y d G) (h : itemsOf d = some xs) : ∃ p ys g, y = .ref p ∧ (SqL K H p ys ∨ SqT K H p ys) ∧ Reps K H ys xs g := by
  cases r <;> first | cases h | skip
  · rename_i hs rr; exact ⟨_, _, _, rfl, .inr hs.sq, rr⟩
  · rename_i hs rr; exact ⟨_, _, _, rfl, .inl (SqL.of hs), rr⟩
theorem opD_inQ {neg : Bool} : OpD K (rIn K neg) true (inQ neg) := fun H x y d1 d2 d G1 G2 Q r1 r2 e q => by
  unfold inQ at e
  split at e
  · rename_i v vs h1 h2
    cases e
    obtain ⟨xs, hx, h3⟩ := Option.bind_eq_some_iff.mp h2
    obtain ⟨e1, f1⟩ := Rep.vf r1 h1
    obtain ⟨p, ys, g, rfl, hs, rr⟩ := sq_items r2 hx
    obtain ⟨e2, f2⟩ := Reps.vfs rr h3
    subst e1 e2
    exact ⟨p, ys, rfl, hs, f1, f2, q _ H [] (.refl H) (.bl _) (fun b k => (nomatch k)) fun _ _ => ⟨.nil, fun a m => (nomatch m)⟩⟩
  · cases e
theorem sc_inQ {neg : Bool} : Sc (inQ neg) := fun d1 d2 d e => by
  unfold inQ at e
  split at e
  · cases e; rfl
  · cases e
variable {B : Bs} {env : List Sl} {P : Dv → Fl → Bool → List Sl → Prop} {D : Ds} {te : TE} {tr : TA} {PI : List Dv → Fl → Bool → List Sl → Prop}
/-- x.update(d), x one's own dict of what can't change -/
theorem dts_update {i : Nat} (h : DT K B te env fun d fl p1 env1 => ef d fl ≠ .view ∧ ∃ s l m, env1[i]? = some s ∧ s.hot = true ∧ s.dv = some (.dct l) ∧ d = .dct m ∧ Dv.purs (l.map (·.2)) = true ∧ Dv.purs (m.map (·.2)) = true ∧ l.length + m.length ≤ sizeLine ∧ D.nx (env1.set i (s.put (.dct (mergeKD l m))))) (hi : ∃ s l, env[i]? = some s ∧ s.hot = true ∧ s.dv = some (.dct l)) :
    DTS K B (tDrop (tBM K "dict" rDUpd (tVar i) (tCons te tNil))) env D := fun σ H G E e l => by
  obtain ⟨s0, l0, k1, k2, k3⟩ := hi
  obtain ⟨x, hx, rx0⟩ := e.rep i s0 _ k1 k3
  refine ⟨x, hx, ?_, ?_⟩
  · have hmu := e.mu i s0
    generalize hg : G i = g0 at rx0
    cases rx0 with
    | @dct a kvs _ g ha _ _ =>
      obtain ⟨o, ho, hm⟩ := hmu a k1 k2 (by rw [hg]; exact List.mem_cons_self)
      rcases ha with ha | ⟨o', ha⟩
      · exact .inr (.inr (.inl ⟨rfl, .inl ⟨_, ha⟩⟩))
      · rw [ha] at ho; cases ho; exact hm.elim
  · refine h σ H G _ e fun v H1 d fl p1 env1 G1 Gv s1 r f ⟨nv, sl, l1, m, e1, e2, e3, e4, e5, e6, e7, hn⟩ => ?_
    subst e4
    obtain ⟨x', hx', rx⟩ := s1.er.rep i sl _ e1 e3
    rw [hx] at hx'; cases hx'
    have nd := s1.er.nod i sl e1 e2
    have hmu := s1.er.mu i sl
    have cold := (f.ef r).cold nv
    generalize hg : G1 i = g at rx
    cases rx with
    | @dct a kvs _ g ha ek ra =>
      have hz := ra.purG e5
      subst hz
      obtain ⟨o, ho, hm⟩ := hmu a e1 e2 (by rw [hg]; exact List.mem_cons_self)
      have ha' : H1 a = some (.dK kvs) := by
        rcases ha with ha | ⟨o', ha⟩
        · exact ha
        · rw [ha] at ho; cases ho; exact hm.elim
      cases r with
      | @dct b more _ g' hb em rb =>
        have hz := rb.purG e6
        subst hz
        have ne : a ≠ b := fun z => cold b List.mem_cons_self ⟨i, sl, e1, e2, by rw [hg, ← z]; exact List.mem_cons_self⟩
        refine ⟨a, b, kvs, more, rfl, rfl, ne, ha', hb, by rw [len_keys ek, len_keys em]; exact e7, ?_⟩
        have st : Stp (fun c => c ∈ G1 i) H1 (upd H1 a (.dK (mergeK kvs more))) := stp_one ha' True.intro (by rw [hg]; exact List.mem_cons_self)
        have st1 : Stp (fun c => c = a) H1 (upd H1 a (.dK (mergeK kvs more))) := stp_one ha' True.intro rfl
        obtain ⟨mk, mr⟩ := merge_rep ek ra em rb
        have rn : Rep K (upd H1 a (.dK (mergeK kvs more))) (.ref a) (.dct (mergeKD l1 m)) [a] := .dct (.inl upd_same) mk (mr.step st1 fun c z => (nomatch z))
        have fr : ∀ c ∈ [a], c ∈ G1 i ∨ H1 c = none := fun c z => .inl (by rw [hg]; exact z)
        have er := s1.er.put e1 e2 hx st rn (List.nodup_cons.mpr ⟨fun z => (nomatch z), .nil⟩) fr fun c z => by
          rcases List.mem_cons.mp z with rfl | z
          · exact ⟨_, upd_same, True.intro⟩
          · cases z
        exact l.nx σ _ _ _ (s1.mv.trans (mv_put e1 e2 st fr)) er hn
/-! zip of two lists or two tuples -/
def zipD (xs ys : List Dv) : List Dv := (xs.zip ys).map fun p => Dv.tup [p.1, p.2]
theorem zip_item {xs ys : List Dv} {i : Nat} {x : Dv} (h : (zipD xs ys)[i]? = some x) : ∃ a b, xs[i]? = some a ∧ ys[i]? = some b ∧ x = .tup [a, b] := by
  unfold zipD at h
  rw [List.getElem?_map] at h
  obtain ⟨⟨a, b⟩, h1, rfl⟩ := Option.map_eq_some_iff.mp h
  obtain ⟨h2, h3⟩ := List.getElem?_zip_eq_some.mp h1
  exact ⟨a, b, h2, h3, rfl⟩
theorem itD_zipT {a b : Addr} {xs ys : List V} {ds es : List Dv} {g g' : List Addr} :
    ItD K (ItzT K a b) (fun H => SqT K H a xs ∧ SqT K H b ys ∧ Reps K H xs ds g ∧ Reps K H ys es g') (g ++ g') (zipD ds es) := by
  refine ⟨fun M H H' st n z => ⟨sqT_step z.1 st, sqT_step z.2.1 st, z.2.2.1.step st fun c m => n c (List.mem_append_left _ m), z.2.2.2.step st fun c m => n c (List.mem_append_right _ m)⟩, fun H z c m => ?_, fun i x H hx z => ?_, fun H z => ⟨xs, ys, z.1, z.2.1, ?_⟩⟩
  · exact (List.mem_append.mp m).elim (z.2.2.1.alloc c) (z.2.2.2.alloc c)
  · obtain ⟨d, e, h1, h2, rfl⟩ := zip_item hx
    obtain ⟨v, G1, hv, rv, sub1⟩ := z.2.2.1.getD i d h1
    obtain ⟨u, G2, hu, ru, sub2⟩ := z.2.2.2.getD i e h2
    refine ⟨⟨xs, ys, v, u, z.1, z.2.1, hv, hu⟩, fun y H' ⟨T, x', y', k1, k2, k3, k4, k5⟩ => ?_⟩
    subst k1 k3
    have q1 := k4 xs z.1
    have q2 := k5 ys z.2.1
    rw [hv] at q1; cases q1
    rw [hu] at q2; cases q2
    have sm : Same H (upd H T (.tup [v, u])) := same_new k2
    have r2 : Reps K H [v, u] [d, e] (G1 ++ (G2 ++ [])) := .cons rv (.cons ru .nil)
    rw [List.append_nil] at r2
    exact ⟨sm, _, .tup (.inl upd_same) (r2.step (M := fun _ => False) (.same sm) fun _ _ y => y), fun c m => (List.mem_append.mp m).elim (fun m => List.mem_append_left _ (sub1 c m)) fun m => List.mem_append_right _ (sub2 c m)⟩
  · rw [z.2.2.1.len, z.2.2.2.len]
    unfold zipD
    rw [List.length_map, List.length_zip]
    omega
theorem itD_zipL {a b : Addr} {xs ys : List V} {ds es : List Dv} {g g' : List Addr} :
    ItD K (Itz K a b) (fun H => H a = some (.lst xs) ∧ H b = some (.lst ys) ∧ Reps K H xs ds g ∧ Reps K H ys es g') ((a :: g) ++ (b :: g')) (zipD ds es) := by
  have l1 : ∀ c, c ∈ g → c ∈ (a :: g) ++ (b :: g') := fun c m => List.mem_append_left _ (List.mem_cons_of_mem _ m)
  have l2 : ∀ c, c ∈ g' → c ∈ (a :: g) ++ (b :: g') := fun c m => List.mem_append_right _ (List.mem_cons_of_mem _ m)
  refine ⟨fun M H H' st n z => ⟨st.keep _ _ z.1 fun _ => n _ (List.mem_append_left _ List.mem_cons_self), st.keep _ _ z.2.1 fun _ => n _ (List.mem_append_right _ List.mem_cons_self), z.2.2.1.step st fun c m => n c (l1 c m), z.2.2.2.step st fun c m => n c (l2 c m)⟩, fun H z c m => ?_, fun i x H hx z => ?_, fun H z => ⟨xs, ys, SqL.of z.1, SqL.of z.2.1, ?_⟩⟩
  · rcases List.mem_append.mp m with m | m <;> rcases List.mem_cons.mp m with rfl | m
    · exact ⟨_, z.1⟩
    · exact z.2.2.1.alloc c m
    · exact ⟨_, z.2.1⟩
    · exact z.2.2.2.alloc c m
  · obtain ⟨d, e, h1, h2, rfl⟩ := zip_item hx
    obtain ⟨v, G1, hv, rv, sub1⟩ := z.2.2.1.getD i d h1
    obtain ⟨u, G2, hu, ru, sub2⟩ := z.2.2.2.getD i e h2
    refine ⟨⟨xs, ys, v, u, SqL.of z.1, SqL.of z.2.1, hv, hu⟩, fun y H' ⟨T, x', y', k1, k2, k3, k4, k5⟩ => ?_⟩
    subst k1 k3
    have q1 := k4 xs (SqL.of z.1)
    have q2 := k5 ys (SqL.of z.2.1)
    rw [hv] at q1; cases q1
    rw [hu] at q2; cases q2
    have sm : Same H (upd H T (.tup [v, u])) := same_new k2
    have r2 : Reps K H [v, u] [d, e] (G1 ++ (G2 ++ [])) := .cons rv (.cons ru .nil)
    rw [List.append_nil] at r2
    exact ⟨sm, _, .tup (.inl upd_same) (r2.step (M := fun _ => False) (.same sm) fun _ _ y => y), fun c m => (List.mem_append.mp m).elim (fun m => l1 c (sub1 c m)) fun m => l2 c (sub2 c m)⟩
  · rw [z.2.2.1.len, z.2.2.2.len]
    unfold zipD
    rw [List.length_map, List.length_zip]
    omega
theorem di_zip (h : DTA K B tr env fun rs pu env1 => ∃ ds fl xs ys, valsOf rs = some (ds, fl) ∧ ((ds = [.lst xs, .lst ys]) ∨ (ds = [.tup xs, .tup ys])) ∧ PI (zipD xs ys) fl pu env1) : DI K B (iZipA K tr) env PI := fun σ H G R e q => by
  refine h σ H G _ e fun vs H1 rs pu env1 G1 Gvs s ar ⟨ds, fl, xs, ys, hv, hd, hp⟩ => ?_
  obtain ⟨rr, f⟩ := ar.vals hv
  rcases hd with hd | hd
  · subst hd
    obtain ⟨v, u, Ga, Gb, rfl, r1, r2, eG⟩ := rr.inv2
    rw [eG] at f
    cases r1 with
    | @lst a vs1 _ g ha ra =>
      cases r2 with
      | @lst b vs2 _ g' hb rb => exact ⟨a, b, vs1, vs2, rfl, .inl ⟨SqL.of ha, SqL.of hb, q _ H1 pu env1 G1 _ fl _ _ s (itD_zipL (xs := vs1) (ys := vs2)) ⟨ha, hb, ra, rb⟩ f hp⟩⟩
  · subst hd
    obtain ⟨v, u, Ga, Gb, rfl, r1, r2, eG⟩ := rr.inv2
    rw [eG] at f
    cases r1 with
    | @tup a vs1 _ _ ha ra =>
      have ha := ha.sq
      cases r2 with
      | @tup b vs2 _ _ hb rb => exact ⟨a, b, vs1, vs2, rfl, .inr ⟨ha, hb.sq, q _ H1 pu env1 G1 _ fl _ _ s (itD_zipT (xs := vs1) (ys := vs2)) ⟨ha, hb.sq, ra, rb⟩ f hp⟩⟩
end
end Fd
namespace Fd
open PySem PySem.Spec PyProof.Rows L2 RZ
section
variable {K : PySem.W.Frag} {B : Bs} {env : List Sl} {P : Dv → Fl → Bool → List Sl → Prop} {Φ : L2.St → Hp → Prop}
theorem DIp.mk {wi : TI} {PI PI' : List Dv → Fl → Bool → List Sl → Prop} (h : DIp Φ K B wi env PI) (i : ∀ items fl pu env1, PI items fl pu env1 → PI' items fl pu env1) : DIp Φ K B wi env PI' := fun σ H G R e φ q =>
  h σ H G R e φ fun J H1 pu env1 G1 St fl Gv0 items s it st f hp => q J H1 pu env1 G1 St fl Gv0 items s it st f (i items fl pu env1 hp)
/-- two names in the comprehension -/
theorem dt_lcT2p {wi : TI} {tt : TT} {te : TE} {a b : Nat} (hab : (a == b) = false) (fm : Dv → Dv → Option Dv) (h : DIp Φ K B wi env fun items fl pu env1 => env1[a]? = some .no ∧ env1[b]? = some .no ∧ items.length ≤ sizeLine ∧ (fl = .view → ∀ x ∈ items, x.pur = true) ∧
    (∀ x ∈ items, ∃ u v, x = .tup [u, v]) ∧ (∀ u v, Dv.tup [u, v] ∈ items → DTT K B tt ((env1.set a (.co u)).set b (.co v)) fun c p env4 => p = true ∧ if c = true then DT K B te env4 fun y fy p2 env5 => p2 = true ∧ y.pur = true ∧ fm u v = some y ∧ (env5.set b .no).set a .no = env1 else fm u v = none ∧ (env4.set b .no).set a .no = env1) ∧
    P (.lst (items.filterMap fun x => match x with | .tup [u, v] => fm u v | _ => none)) .fresh pu env1) : DTp Φ K B (tLc wi (gTup K 2 (gCons (gName a) (gCons (gName b) gNil))) tt te [a, b]) env P := by
  have ne : a ≠ b := fun z => by rw [z] at hab; simp at hab
  refine dt_lcFp (fun x => match x with | .tup [u, v] => fm u v | _ => none) (DIp.mk h fun items fl pu env1 ⟨na, nb, hl, hv, sh, turn, fin⟩ => ⟨fun j hj => ?_, hl, fun x hx => ?_, fin⟩)
  · rcases List.mem_cons.mp hj with rfl | hj
    · exact na
    · rcases List.mem_cons.mp hj with rfl | hj
      · exact nb
      · cases hj
  · obtain ⟨u, v, rfl⟩ := sh x hx
    have la : a < env1.length := (List.getElem?_eq_some_iff.mp na).1
    have lb : b < env1.length := (List.getElem?_eq_some_iff.mp nb).1
    have nb' : (env1.set a (.co u))[b]? = some .no := by rw [List.getElem?_set_ne ne]; exact nb
    refine ⟨[a] ++ ([b] ++ []), (env1.set a (.co u)).set b (.co v), fun j hj => by simpa using hj, dg_tup rfl (dgs_cons (dg_name na rfl) (dgs_cons (dg_name nb' rfl) dgs_nil)), fun j hj d => ?_, fun z => hv z _ hx, turn u v hx⟩
    rcases List.mem_cons.mp hj with rfl | hj
    · rw [List.getElem?_set_ne (Ne.symm ne), List.getElem?_set_self la]; exact fun z => nomatch z
    · rcases List.mem_cons.mp hj with rfl | hj
      · rw [List.getElem?_set_self (by rw [List.length_set]; exact lb)]; exact fun z => nomatch z
      · cases hj
theorem dt_lcT2 {wi : TI} {tt : TT} {te : TE} {a b : Nat} (hab : (a == b) = false) (fm : Dv → Dv → Option Dv) (h : DI K B wi env fun items fl pu env1 => env1[a]? = some .no ∧ env1[b]? = some .no ∧ items.length ≤ sizeLine ∧ (fl = .view → ∀ x ∈ items, x.pur = true) ∧
    (∀ x ∈ items, ∃ u v, x = .tup [u, v]) ∧ (∀ u v, Dv.tup [u, v] ∈ items → DTT K B tt ((env1.set a (.co u)).set b (.co v)) fun c p env4 => p = true ∧ if c = true then DT K B te env4 fun y fy p2 env5 => p2 = true ∧ y.pur = true ∧ fm u v = some y ∧ (env5.set b .no).set a .no = env1 else fm u v = none ∧ (env4.set b .no).set a .no = env1) ∧
    P (.lst (items.filterMap fun x => match x with | .tup [u, v] => fm u v | _ => none)) .fresh pu env1) : DT K B (tLc wi (gTup K 2 (gCons (gName a) (gCons (gName b) gNil))) tt te [a, b]) env P := fun σ H G Q e q => dt_lcT2p (Φ := Tr) hab fm (DIp.of h) σ H G Q e True.intro q
theorem pairs_shape {l : List (Key × Dv)} {x : Dv} (h : x ∈ pairsD l) : ∃ u v, x = .tup [u, v] := by
  obtain ⟨p, _, rfl⟩ := List.mem_map.mp h
  exact ⟨_, _, rfl⟩
theorem pairs_mem {l : List (Key × Dv)} {u v : Dv} (h : Dv.tup [u, v] ∈ pairsD l) : ∃ k, u = kD k ∧ (k, v) ∈ l := by
  obtain ⟨p, hp, e⟩ := List.mem_map.mp h
  cases e
  exact ⟨p.1, rfl, hp⟩
theorem pairs_len {l : List (Key × Dv)} : (pairsD l).length = l.length := List.length_map _
theorem dK_kD (k : Key) : dK (kD k) = some k := by cases k <;> rfl
theorem pairs_fm {l : List (Key × Dv)} {f : Dv → Dv → Option Dv} : (pairsD l).filterMap (fun x => match x with | .tup [u, v] => f u v | _ => none) = l.filterMap fun p => f (kD p.1) p.2 := by
  unfold pairsD
  rw [List.filterMap_map]; rfl
end
end Fd
namespace Fd
open PySem PySem.Spec PyProof.Rows L2 RZ
theorem pg_tupK {K : PySem.W.Frag} {X : Cx} {es : List Expr} {k : Nat} {pos : Pos} {t : TGs} (n : Nat) (hK : X.K = K) (hc : X.calm = true) (h : PGs X es t)
    (hn : (assignEach es X.env).length = n) (hst : (assignEach es X.env).findIdx? (·.1) = none) : PG X (.Tuple es k pos) (gTup K n t) := by
  subst hK; exact pg_tup hc h hn hst
theorem dictD_lst {xs : List Dv} {l : List (Key × Dv)} (h : Fd.pairsOf xs = some l) (hp : Dv.purs (l.map (·.2)) = true) : dictD [.lst xs] = some (.dct (mergeKD [] l)) := by
  unfold dictD
  simp only [h]
  rw [if_pos hp]
theorem flr_sh {d : Dv} {fl : Fl} (h : d.sh = true) : flr true d fl = .fresh := by
  unfold flr
  rw [h]; simp
/-! ### stamps and marks -/
def stD (n : Int) (x : Str) : Dv := .tup [.int n, .str x]
def StD (d : Dv) : Prop := ∃ (n : Int) (x : Str), d = stD n x ∧ vS x
def stLt : Dv → Dv → Bool
  | .tup [.int n, .str x], .tup [.int m, .str y] => if n = m then (if x = y then false else decide (x.cps.toList < y.cps.toList)) else decide (n < m)
  | _, _ => false
theorem st_shaped {n : Int} {x : Str} (h : vS x) : SeqAt.shaped (.tuple [.int n, .str x]) = true := by
  unfold SeqAt.shaped
  simp [PyData.canLay0, PyData.canLayAll0, PyData.depth, PyData.depthAll, vS_ok h]
theorem ltP_st {n m : Int} {x y : Str} : ltP 8 (.tuple [.int n, .str x]) (.tuple [.int m, .str y]) = some (stLt (stD n x) (stD m y)) := by
  show ltLs (ltP 7) _ _ = _
  unfold ltLs
  have e1 : ltLs (ltP 7) [.str x] [.str y] = some (if x = y then false else decide (x.cps.toList < y.cps.toList)) := by
    unfold ltLs
    show (if PyData.eqv (.str x) (.str y) = true then some false else ltP 7 (.str x) (.str y)) = _
    rw [PyData.eqv]
    by_cases c : x = y
    · rw [if_pos (by rw [c]; simp), if_pos c]
    · rw [if_neg (by simpa using c), if_neg c]; unfold ltP; rfl
  rw [e1]
  show (if PyData.eqv (.int n) (.int m) = true then some (if x = y then false else decide (x.cps.toList < y.cps.toList)) else ltP 7 (.int n) (.int m)) = _
  rw [PyData.eqv]
  show _ = some (if n = m then (if x = y then false else decide (x.cps.toList < y.cps.toList)) else decide (n < m))
  by_cases c : n = m
  · rw [if_pos (by rw [c]; simp), if_pos c]
  · rw [if_neg (by simpa using c), if_neg c]; unfold ltP; rfl
theorem ltA_st {d e : Dv} (h1 : StD d) (h2 : StD e) : ltA d e = some (.bl (stLt d e)) := by
  obtain ⟨n, x, rfl, vx⟩ := h1
  obtain ⟨m, y, rfl, vy⟩ := h2
  exact ltA_of rfl rfl rfl (st_shaped vx) (st_shaped vy) ltP_st
theorem StD.pur {d : Dv} (h : StD d) : d.pur = true := by
  obtain ⟨n, x, rfl, _⟩ := h; rfl
/-- marks: words' stamps -/
structure Mk (l : List (Key × Dv)) : Prop where
  key : ∀ p ∈ l, ∃ x, p.1 = .inr x
  st : ∀ p ∈ l, StD p.2
  nd : (l.map (·.1)).Nodup
  ln : l.length ≤ 100000
theorem Mk.pur {l : List (Key × Dv)} (h : Mk l) : Dv.purs (l.map (·.2)) = true := by
  rw [purs_all, List.all_map, List.all_eq_true]
  exact fun p hp => (h.st p hp).pur
theorem Mk.nil : Mk [] := ⟨fun p h => (nomatch h), fun p h => (nomatch h), .nil, Nat.zero_le _⟩
theorem gK_mem {l : List (Key × Dv)} {k : Key} {d : Dv} (h : gK l k = some d) : (k, d) ∈ l := by
  unfold gK at h
  obtain ⟨p, hp, rfl⟩ := Option.map_eq_some_iff.mp h
  have h1 := List.mem_of_find?_eq_some hp
  have h2 := List.find?_some hp
  have h3 : p.1 = k := of_decide_eq_true h2
  rw [← h3]; exact h1
theorem Mk.get {l : List (Key × Dv)} (h : Mk l) {k : Key} {d : Dv} (e : gK l k = some d) : StD d := h.st _ (gK_mem e)
/-- had with a stamp not less -/
def hnl (l : List (Key × Dv)) (k : Key) (s : Dv) : Bool := match gK l k with
  | some d => !stLt d s
  | none => false
/-- what is lacked -/
def lackD (l m : List (Key × Dv)) : List (Key × Dv) := m.filter fun p => !hnl l p.1 p.2
theorem Mk.sub {l m : List (Key × Dv)} (h : Mk l) (s : m.Sublist l) : Mk m :=
  ⟨fun p hp => h.key p (s.subset hp), fun p hp => h.st p (s.subset hp), h.nd.sublist (s.map _), Nat.le_trans s.length_le h.ln⟩
theorem Mk.lack {l m : List (Key × Dv)} (h : Mk m) : Mk (lackD l m) := h.sub List.filter_sublist
theorem pK_keys {l : List (Key × Dv)} {k : Key} {d : Dv} : (pK l k d).map (·.1) = if (l.any fun p => decide (p.1 = k)) = true then l.map (·.1) else l.map (·.1) ++ [k] := by
  unfold pK
  split
  · rw [List.map_map]
    refine List.map_congr_left fun p _ => ?_
    show (if p.1 = k then (p.1, d) else p).1 = p.1
    split <;> rfl
  · rw [List.map_append]; rfl
theorem any_false {l : List (Key × Dv)} {k : Key} (h : ¬ (l.any fun p => decide (p.1 = k)) = true) : k ∉ l.map (·.1) := fun z => by
  obtain ⟨p, hp, e⟩ := List.mem_map.mp z
  exact h (List.any_eq_true.mpr ⟨p, hp, decide_eq_true e⟩)
/-- put, where the dict hasn't it: behind -/
theorem pK_new {l : List (Key × Dv)} {k : Key} {d : Dv} (h : k ∉ l.map (·.1)) : pK l k d = l ++ [(k, d)] := by
  unfold pK
  rw [if_neg]
  intro z
  obtain ⟨p, hp, e⟩ := List.any_eq_true.mp z
  exact h (List.mem_map.mpr ⟨p, hp, of_decide_eq_true e⟩)
theorem merge_new : ∀ {m l : List (Key × Dv)}, ((l ++ m).map (·.1)).Nodup → mergeKD l m = l ++ m
  | [], l, _ => (List.append_nil l).symm
  | p :: m, l, h => by
    show mergeKD (pK l p.1 p.2) m = _
    have h' : (l.map (·.1) ++ p.1 :: m.map (·.1)).Nodup := by simpa [List.map_append] using h
    have hn : p.1 ∉ l.map (·.1) := fun z => (List.nodup_append.mp h').2.2 p.1 z p.1 List.mem_cons_self rfl
    rw [pK_new hn, merge_new (by rw [List.append_assoc]; exact h), List.append_assoc]; rfl
theorem Mk.put {l : List (Key × Dv)} {x : Str} {d : Dv} (h : Mk l) (hd : StD d) (hl : l.length < 100000) : Mk (pK l (.inr x) d) := by
  unfold pK
  by_cases c : (l.any fun p => decide (p.1 = .inr x)) = true
  · rw [if_pos c]
    refine ⟨fun p hp => ?_, fun p hp => ?_, ?_, by rw [List.length_map]; exact h.ln⟩
    · obtain ⟨q, hq, rfl⟩ := List.mem_map.mp hp
      split
      · exact h.key q hq
      · exact h.key q hq
    · obtain ⟨q, hq, rfl⟩ := List.mem_map.mp hp
      split
      · exact hd
      · exact h.st q hq
    · have := pK_keys (l := l) (k := .inr x) (d := d)
      unfold pK at this
      rw [if_pos c, if_pos c] at this
      rw [this]; exact h.nd
  · rw [if_neg c]
    refine ⟨fun p hp => ?_, fun p hp => ?_, ?_, by rw [List.length_append]; exact hl⟩
    · rcases List.mem_append.mp hp with hp | hp
      · exact h.key p hp
      · rcases List.mem_cons.mp hp with rfl | hp
        · exact ⟨x, rfl⟩
        · cases hp
    · rcases List.mem_append.mp hp with hp | hp
      · exact h.st p hp
      · rcases List.mem_cons.mp hp with rfl | hp
        · exact hd
        · cases hp
    · rw [List.map_append]
      refine List.nodup_append.mpr ⟨h.nd, List.nodup_cons.mpr ⟨fun z => (nomatch z), .nil⟩, fun a ha b hb z => ?_⟩
      subst z
      have : a = .inr x := by simpa using hb
      subst this
      exact any_false c ha
theorem len_pK {l : List (Key × Dv)} {k : Key} {d : Dv} : (pK l k d).length ≤ l.length + 1 := by
  unfold pK
  split
  · rw [List.length_map]; omega
  · rw [List.length_append]; exact Nat.le_refl _
theorem Mk.merge : ∀ {m l : List (Key × Dv)}, Mk l → Mk m → l.length + m.length ≤ 100000 → Mk (mergeKD l m)
  | [], l, h, _, _ => h
  | p :: m, l, h, hm, hl => by
    show Mk (mergeKD (pK l p.1 p.2) m)
    obtain ⟨x, hx⟩ := hm.key p List.mem_cons_self
    rw [hx]
    have hl' : l.length + (m.length + 1) ≤ 100000 := hl
    have := len_pK (l := l) (k := .inr x) (d := p.2)
    exact Mk.merge (h.put (hm.st p List.mem_cons_self) (by omega)) (hm.sub (List.sublist_cons_self _ _)) (by omega)
end Fd
namespace Fd
open PySem PySem.Spec PyProof.Rows L2 RZ
/-! ### == of two dicts of data -/
def plD (d : Dv) : PyData := (pyD d).getD .none
def okV (d : Dv) : Prop := ∃ p, pyD d = some p ∧ SeqAt.shaped p = true
def hitD (m : List (Key × Dv)) (p : Key × Dv) : Bool := match gK m p.1 with
  | some e => PyData.eqv (plD p.2) (plD e)
  | none => false
def eqKD (l m : List (Key × Dv)) : Bool := (l.length == m.length) && l.all (hitD m)
section
variable {X : Cx} {pins : List (Addr × Obj)} {σ : L2.St} {H : Hp} {s : Shared}
theorem hits_data (I : Inv X pins σ H s) {A : Around} (hu : A.units + 64 < cLine) {ls : List (Key × V)} {m : List (Key × Dv)} {vb : List (Key × Value)} {Gm : List Addr} (rb : KV ls vb) (em : m.map (·.1) = ls.map (·.1)) (rm : Reps X.K H (ls.map (·.2)) (m.map (·.2)) Gm) (om : ∀ p ∈ m, okV p.2) :
    ∀ {ks : List (Key × V)} {va : List (Key × Value)} {l : List (Key × Dv)} {G : List Addr}, KV ks va → l.map (·.1) = ks.map (·.1) → Reps X.K H (ks.map (·.2)) (l.map (·.2)) G → (∀ p ∈ l, okV p.2) → PySem.W.KeqHits A s vb va (l.all (hitD m)) := by
  intro ks va l G ra
  unfold KV at ra
  induction ra generalizing l G with
  | nil =>
    intro e _ _
    cases l with
    | nil => exact .nil
    | cons _ _ => cases e
  | @cons p q ps qs h t ih =>
    intro e r ok
    cases l with
    | nil => cases e
    | cons x l =>
      have e1 : x.1 = p.1 := (List.cons.inj e).1
      have e2 : l.map (·.1) = ps.map (·.1) := (List.cons.inj e).2
      have r' : Reps X.K H (p.2 :: ps.map (·.2)) (x.2 :: l.map (·.2)) G := r
      cases r' with
      | cons hr tr =>
        obtain ⟨h1, h2⟩ := h
        have h1 : p.1 = q.1 := h1
        obtain ⟨key, v⟩ := q
        have rest := ih e2 tr fun z hz => ok z (List.mem_cons_of_mem _ hz)
        have kk : key = x.1 := h1.symm.trans e1.symm
        subst kk
        rw [List.all_cons]
        have rel := rb.val x.1
        rcases get_rep em rm x.1 with ⟨z1, z2⟩ | ⟨v', d', G1, z1, z2, z3, _⟩
        · have : hitD m x = false := by unfold hitD; rw [z2]
          rw [this, Bool.false_and]
          exact .miss (RelO.none_of (by rw [← z1]; exact rel))
        · have rr : RelO (some v') (valueAt vb x.1) := by rw [← z1]; exact rel
          obtain ⟨y, hy, ry⟩ := rr.some_of
          obtain ⟨p1, hp1, sp1⟩ := ok x List.mem_cons_self
          obtain ⟨p2, hp2, sp2⟩ := om _ (gK_mem z2)
          have hh : hitD m x = PyData.eqv p1 p2 := by
            unfold hitD plD; rw [z2, hp1]
            have hp2 : pyD d' = some p2 := hp2
            simp only [hp2]; rfl
          rw [hh]
          obtain ⟨as, k1⟩ := Dp.reads I p1 _ v (hr.dp hp1) h2
          obtain ⟨bs, k2⟩ := Dp.reads I p2 _ y (z3.dp hp2) ry
          refine .hit hy (SeqAt.eqAt_reads p1 p2 A s v y as bs k1 k2 (SeqAt.canLay_of_shaped sp1) (SeqAt.canLay_of_shaped sp2) ?_) rest
          have := SeqAt.depth_of_shaped sp1
          have : min p1.depth p2.depth ≤ p1.depth := Nat.min_le_left _ _
          omega
end
def rEqK (K : PySem.W.Frag) (neg : Bool) : R2 := fun x y H Q => ∃ (a b : Addr) (ks ls : List (Key × V)) (l m : List (Key × Dv)) (G G' : List Addr), x = .ref a ∧ y = .ref b ∧ Rd H a (.dK ks) ∧ Rd H b (.dK ls) ∧ l.map (·.1) = ks.map (·.1) ∧ m.map (·.1) = ls.map (·.1) ∧
  Reps K H (ks.map (·.2)) (l.map (·.2)) G ∧ Reps K H (ls.map (·.2)) (m.map (·.2)) G' ∧ (∀ p ∈ l, okV p.2) ∧ (∀ p ∈ m, okV p.2) ∧ Q (.bl (if neg then !eqKD l m else eqKD l m)) H
theorem op_eqK {X : Cx} (hu : X.A.units + 65 < cLine) : OpR X (compareOp .Eq) (rEqK X.K false) := by
  intro pins s σ H x y v u Q I rx ry h
  obtain ⟨a, b, ks, ls, l, m, G, G', rfl, rfl, ha, hb, el, em, rl, rm, ol, om, q⟩ := h
  cases rx
  cases ry
  obtain ⟨_, ya, va, ra, da⟩ := dk_rd I.hok ha
  obtain ⟨_, yb, vb, rb, db⟩ := dk_rd I.hok hb
  have e : (va.length == vb.length && l.all (hitD m)) = eqKD l m := by
    unfold eqKD
    rw [← ra.length, ← rb.length, len_keys el, len_keys em]
  have z : wpAny (model X.prog X.w) X.A (compareOp .Eq (.ref a) (.ref b)) (EP X pins σ Q) X.xe s :=
    PySem.W.keq_eq (knd := mixKind X.prog X.w) (r := l.all (hitD m)) ya yb da db (by omega) (fun _ => hits_data I (A := X.A.in1) (by show X.A.units + 1 + 64 < _; omega) rb em rm om ra el rl ol) (by rw [e]; exact ⟨.bl _, H, I, rfl, q⟩)
  exact z
theorem op_neK {X : Cx} (hu : X.A.units + 65 < cLine) : OpR X (compareOp .NotEq) (rEqK X.K true) := by
  intro pins s σ H x y v u Q I rx ry h
  obtain ⟨a, b, ks, ls, l, m, G, G', rfl, rfl, ha, hb, el, em, rl, rm, ol, om, q⟩ := h
  cases rx
  cases ry
  obtain ⟨_, ya, va, ra, da⟩ := dk_rd I.hok ha
  obtain ⟨_, yb, vb, rb, db⟩ := dk_rd I.hok hb
  have e : (va.length == vb.length && l.all (hitD m)) = eqKD l m := by
    unfold eqKD
    rw [← ra.length, ← rb.length, len_keys el, len_keys em]
  have z : wpAny (model X.prog X.w) X.A (compareOp .NotEq (.ref a) (.ref b)) (EP X pins σ Q) X.xe s :=
    PySem.W.keq_ne (knd := mixKind X.prog X.w) (r := l.all (hitD m)) ya yb da db (by omega) (fun _ => hits_data I (A := X.A.in1) (by show X.A.units + 1 + 64 < _; omega) rb em rm om ra el rl ol) (by rw [e]; exact ⟨.bl _, H, I, rfl, q⟩)
  exact z
def okB (d : Dv) : Bool := match pyD d with
  | some p => SeqAt.shaped p
  | none => false
theorem okB_ok {d : Dv} (h : okB d = true) : okV d := by
  unfold okB at h
  cases e : pyD d with
  | none => rw [e] at h; cases h
  | some p => rw [e] at h; exact ⟨p, e, h⟩
def eqKK (neg : Bool) : Dv → Dv → Option Dv
  | .dct l, .dct m => if (l.all (fun p => okB p.2) && m.all fun p => okB p.2) = true then some (.bl (if neg then !eqKD l m else eqKD l m)) else none
  | _, _ => none
theorem opD_eqK {K : PySem.W.Frag} {neg : Bool} : OpD K (rEqK K neg) true (eqKK neg) := fun H x y d1 d2 d G1 G2 Q r1 r2 e q => by
  cases r1 with
  | @dct a ks l g ha el rl =>
    cases r2 with
    | @dct b ls m g' hb em rm =>
      have e : (if (l.all (fun p => okB p.2) && m.all fun p => okB p.2) = true then some (Dv.bl (if neg then !eqKD l m else eqKD l m)) else none) = some d := e
      obtain ⟨hc, rfl⟩ := ite_some e
      obtain ⟨h1, h2⟩ := Bool.and_eq_true_iff.mp hc
      exact ⟨a, b, ks, ls, l, m, g, g', rfl, rfl, ha, hb, el, em, rl, rm, fun p hp => okB_ok (List.all_eq_true.mp h1 p hp), fun p hp => okB_ok (List.all_eq_true.mp h2 p hp), q _ H [] (.refl H) (.bl _) (fun b k => (nomatch k)) fun _ _ => ⟨.nil, fun a m => (nomatch m)⟩⟩
    | _ => cases e
  | _ => cases e
def rEqA (K : PySem.W.Frag) : R2 := fun x y H Q => rEqD K x y H Q ∨ rEqK K false x y H Q
def rNeA (K : PySem.W.Frag) : R2 := fun x y H Q => rNeD K x y H Q ∨ rEqK K true x y H Q
theorem op_eqA {X : Cx} (hu : X.A.units + 65 < cLine) : OpR X (compareOp .Eq) (rEqA X.K) := (op_eqD (by omega)).or (op_eqK hu)
theorem op_neA {X : Cx} (hu : X.A.units + 65 < cLine) : OpR X (compareOp .NotEq) (rNeA X.K) := (op_neD (by omega)).or (op_neK hu)
def eqA (neg : Bool) (d e : Dv) : Option Dv := (eqP neg d e).or (eqKK neg d e)
theorem opD_eqA {K : PySem.W.Frag} : OpD K (rEqA K) true (eqA false) := opD_eq.or opD_eqK
theorem opD_neA {K : PySem.W.Frag} : OpD K (rNeA K) true (eqA true) := opD_ne.or opD_eqK
theorem sc_eqA {neg : Bool} : Sc (eqA neg) := fun d1 d2 d e => by
  unfold eqA at e
  cases h : eqP neg d1 d2 with
  | some z =>
    rw [h] at e
    cases e
    exact sc_eq d1 d2 _ h
  | none =>
    rw [h] at e
    have e : eqKK neg d1 d2 = some d := e
    unfold eqKK at e
    split at e
    · obtain ⟨_, rfl⟩ := ite_some e; rfl
    · cases e
theorem eqA_of {neg : Bool} {d e : Dv} {b : Dv} (h : eqP neg d e = some b) : eqA neg d e = some b := by unfold eqA; rw [h]; rfl
theorem st_okB {d : Dv} (h : StD d) : okB d = true := by
  obtain ⟨n, x, rfl, vx⟩ := h
  exact st_shaped vx
theorem Mk.okB {l : List (Key × Dv)} (h : Mk l) : (l.all fun p => Fd.okB p.2) = true := List.all_eq_true.mpr fun p hp => st_okB (h.st p hp)
theorem eqA_mk {l m : List (Key × Dv)} (h1 : Mk l) (h2 : Mk m) : eqA false (.dct l) (.dct m) = some (.bl (eqKD l m)) := by
  have e : eqP false (.dct l) (.dct m) = none := rfl
  unfold eqA
  rw [e]
  show (if (l.all (fun p => Fd.okB p.2) && m.all fun p => Fd.okB p.2) = true then some (Dv.bl (eqKD l m)) else none) = _
  rw [h1.okB, h2.okB]; rfl
theorem neA_mk {l m : List (Key × Dv)} (h1 : Mk l) (h2 : Mk m) : eqA true (.dct l) (.dct m) = some (.bl (!eqKD l m)) := by
  have e : eqP true (.dct l) (.dct m) = none := rfl
  unfold eqA
  rw [e]
  show (if (l.all (fun p => Fd.okB p.2) && m.all fun p => Fd.okB p.2) = true then some (Dv.bl (!eqKD l m)) else none) = _
  rw [h1.okB, h2.okB]; rfl
theorem vfs_strs : ∀ ks : List Str, vfs (ks.map Dv.str) = some (ks.map V.str)
  | [] => rfl
  | k :: ks => by
    rw [List.map_cons]
    unfold vfs
    rw [vfs_strs ks]; rfl
theorem in_strs {neg : Bool} {x : Str} {ks : List Str} : inQ neg (.str x) (.lst (ks.map .str)) = some (.bl (if neg then !decide (x ∈ ks) else decide (x ∈ ks))) := by
  unfold inQ itemsOf
  simp only [Option.bind_some, vfs_strs]
  show some (Dv.bl (if neg = true then !inV (.str x) (ks.map V.str) else inV (.str x) (ks.map V.str))) = _
  have e : inV (.str x) (ks.map V.str) = decide (x ∈ ks) := by
    unfold inV
    rw [List.any_map, Bool.eq_iff_iff, List.any_eq_true, decide_eq_true_eq]
    constructor
    · rintro ⟨y, hy, h⟩
      have h : (y == x) = true := h
      rw [← eq_of_beq h]; exact hy
    · intro h
      exact ⟨x, h, (beq_self_eq_true x : (x == x) = true)⟩
  rw [e]
def kyS (ks : List Str) : Prop := (∀ x ∈ ks, wordS x = true) ∧ ks.Nodup ∧ ks.length ≤ 12
end Fd
namespace Fd
open PySem PySem.Spec PyProof.Rows L2 RZ
open PySem.SeqAt
/-! ### == of tuples, the items' == told within one model -/
section
variable {pg : Program} {wd : World}
theorem tupEq_in (a b : Addr) (us vs : Array Value) (n m : Nat) (da db : Option Addr) (sa sb : Array (Option Value)) (ev : Nat → Bool) :
    MeetsIn pg wd (Builtin.«tuple.__eq__» ⟨[.ref a, .ref b], []⟩)
      (fun A R s => s.heap.get? a = some { cls := .type "tuple", dict := da, data := .seq us n, slots := sa } ∧ s.heap.get? b = some { cls := .type "tuple", dict := db, data := .seq vs m, slots := sb } ∧
        (∀ j (p : j < us.size) (q : j < vs.size), EqP pg wd A.in1 s us[j] vs[j] (ev j)) ∧
        R (.ok (.ret (.bool ((List.range (min us.size vs.size)).all ev && us.size == vs.size)))) s) := by
  intro A R s hyp
  obtain ⟨hp, g, d, tk, os⟩ := s
  obtain ⟨ea, eb, items, fin⟩ := hyp
  have sub := AutoSeq1.sub_tuple_tuple
  have len : (us.toList.zip vs.toList).length = min us.size vs.size := by simp
  wp_walk using wpAny_loadPart' ea, wpAny_loadPart' eb, wpAny_forIn_list _ (fun left b s2 => b.1 = none ∧ s2 = ⟨hp, g, d, tk, os⟩ ∧ ∃ i, left = (us.toList.zip vs.toList).drop i ∧
    R (.ok (.ret (.bool (((List.range (min us.size vs.size)).drop i).all ev && us.size == vs.size)))) ⟨hp, g, d, tk, os⟩) _
  case turn =>
    rintro ⟨y, x⟩ rest st s2 ⟨hb', rfl, i, at_, res⟩
    have lt : i < (us.toList.zip vs.toList).length := Nat.lt_of_not_le fun z => by
      rw [List.drop_of_length_le z] at at_; cases at_
    have lm : i < min us.size vs.size := by rw [← len]; exact lt
    have lu : i < us.size := Nat.lt_of_lt_of_le lm (Nat.min_le_left ..)
    have lv : i < vs.size := Nat.lt_of_lt_of_le lm (Nat.min_le_right ..)
    rw [List.drop_eq_getElem_cons lt] at at_
    obtain ⟨e1, e2⟩ := List.cons.inj at_
    have ey : y = us[i] := by simpa using congrArg Prod.fst e1
    have ex : x = vs[i] := by simpa using congrArg Prod.snd e1
    subst ey ex
    rw [show (List.range (min us.size vs.size)).drop i = i :: (List.range (min us.size vs.size)).drop (i + 1) by simp [List.drop_eq_getElem_cons, lm], List.all_cons] at res
    refine wpAny_bind (items i lu lv _ _ ?_)
    cases c : ev i <;> rw [c] at res <;> wp_walk
    · simpa using res
    · exact ⟨rfl, rfl, i + 1, e2, by simpa using res⟩
  case fin =>
    rintro ⟨st1, st2⟩ s2 ⟨none_, rfl, i, at_, res⟩
    have none_ : st1 = none := none_
    subst none_
    have ge : min us.size vs.size ≤ i := Nat.le_of_not_lt fun z => by
      rw [List.drop_eq_getElem_cons (by rw [len]; exact z)] at at_; cases at_
    rw [List.drop_of_length_le (by rw [List.length_range]; exact ge)] at res
    wp_walk
    simpa [Builtin.Tuple.tupleCompareSizes] using res
  case h => exact ⟨rfl, rfl, 0, rfl, by simpa using fin⟩
theorem rcP_tups {A : Around} {s : Shared} {a b : Addr} {us vs : Array Value} {ev : Nat → Bool} (ha : s.heap.IsTuple a us) (hb : s.heap.IsTuple b vs) (room : A.units < cLine)
    (items : ∀ j (p : j < us.size) (q : j < vs.size), EqP pg wd A.in1 s us[j] vs[j] (ev j)) (E Q : Value → Shared → Prop) (fin : Q (.bool ((List.range (min us.size vs.size)).all ev && us.size == vs.size)) s) : wpAny (model pg wd) A (richCompare .Eq (.ref a) (.ref b)) Q E s := by
  obtain ⟨⟨c1, d1, t1, l1⟩, o1, k1, n1, e1⟩ := ha
  obtain ⟨⟨c2, d2, t2, l2⟩, o2, k2, n2, e2⟩ := hb
  simp only at k1 e1 k2 e2
  subst k1 e1 k2 e2
  have y1 : s.TypeIs (.ref a) "tuple" := ⟨_, o1, rfl⟩
  have y2 : s.TypeIs (.ref b) "tuple" := ⟨_, o2, rfl⟩
  exact wpAny_richCompare_same_room (op := .Eq) y1 y2 F.slot_tuple_eq (call_meetsIn F.slot_tuple_eq y1 F.entry_tuple_eq (F.args_tuple_eq_2 _ _) (tupEq_in a b us vs n1 n2 d1 d2 l1 l2 ev)
    ⟨o1, o2, items, (fun z => nomatch z), fin⟩) room
end
end Fd
/-! A heap of cells over the hand layer: what may change lies in numbered cells, all else are trees. -/
namespace Fh
open PySem PySem.Spec PyProof.Rows L2
open Fd (Dv Rep Reps SqF same_new TqT PlT)

inductive Av where
  | d (x : Dv) | ref (n : Nat) | tup (xs : List Av) | lst (xs : List Av)
inductive Bd where
  | lst (xs : List Av) | dK (kvs : List (Key × Av)) | dT (kvs : List (List Key × Av)) | ins (C : Str) (fs : List (Str × Av))
inductive Nd where
  | dead | lv (b : Bd) | lk (b : Bd)
abbrev AH := List Nd
abbrev Env := List (Option Av)
def rd (h : AH) (n : Nat) : Option Bd := match h[n]? with
  | some (.lv b) => some b
  | some (.lk b) => some b
  | _ => none
def wr (h : AH) (n : Nat) (b : Bd) : Option AH := match h[n]? with
  | some (.lv _) => some (h.set n (.lv b))
  | _ => none
/-- a live cell's address; P: what a comprehension makes at the time -/
def Lc (μ : List Addr) (h : AH) (a : Addr) : Prop := ∃ (n : Nat) (nd : Nd), h[n]? = some nd ∧ nd ≠ .dead ∧ μ[n]? = some a
def Lv (P : Addr → Prop) (μ : List Addr) (h : AH) (a : Addr) : Prop := P a ∨ Lc μ h a

mutual
inductive RV (K : PySem.W.Frag) (H : Hp) (μ : List Addr) (L : Addr → Prop) : V → Av → Prop
  | d {v : V} {x : Dv} {G : List Addr} : Rep K H v x G → (∀ a ∈ G, ¬ L a) → RV K H μ L v (.d x)
  | ref {n : Nat} {a : Addr} : μ[n]? = some a → RV K H μ L (.ref a) (.ref n)
  | tup {a : Addr} {vs : List V} {xs : List Av} : TqT K H a vs ∧ (∀ ds : List Dv, xs = ds.map .d → PlT H a vs) → RVs K H μ L vs xs → RV K H μ L (.ref a) (.tup xs)
  | lst {a : Addr} {vs : List V} {xs : List Av} : H a = some (.lst vs) → ¬ L a → RVs K H μ L vs xs → RV K H μ L (.ref a) (.lst xs)
inductive RVs (K : PySem.W.Frag) (H : Hp) (μ : List Addr) (L : Addr → Prop) : List V → List Av → Prop
  | nil : RVs K H μ L [] []
  | cons {v : V} {x : Av} {vs : List V} {xs : List Av} : RV K H μ L v x → RVs K H μ L vs xs → RVs K H μ L (v :: vs) (x :: xs)
end
/-- what may lie at a live cell -/
def Mo : HO → Prop
  | .lst _ => True
  | .dK _ => True
  | .dT _ => True
  | .ins _ _ _ => True
  | .frz _ (.dK _) => True
  | .frz _ (.dT _) => True
  | _ => False
/-- from H to H': only what lies at L has changed -/
structure Sq (L : Addr → Prop) (H H' : Hp) : Prop where
  keep : ∀ a o, H a = some o → ¬ L a → H' a = some o
  al : ∀ a, H' a = none → H a = none
def NT (L : Addr → Prop) (H : Hp) : Prop := ∀ a, L a → ∃ u, H a = some u ∧ Mo u
theorem Sq.refl {L : Addr → Prop} {H : Hp} : Sq L H H := ⟨fun _ _ h _ => h, fun _ h => h⟩
theorem Sq.same {L : Addr → Prop} {H H' : Hp} (h : Same H H') : Sq L H H' := ⟨fun a o e _ => h a o e, fun _ e => h.free e⟩
theorem Sq.to_same {L : Addr → Prop} {H H' : Hp} (h : Sq L H H') (n : ∀ a, ¬ L a) : Same H H' := fun a o e => h.keep a o e (n a)
section
variable {K : PySem.W.Frag} {H H' : Hp} {μ μ' : List Addr} {L L' : Addr → Prop}
theorem NT.no (nt : NT L H) {a : Addr} {o : HO} (h : H a = some o) (n : ¬ Mo o) : ¬ L a := fun z => by
  obtain ⟨u, e, m⟩ := nt a z
  rw [h] at e; cases e; exact n m
theorem sqT_stepL {a : Addr} {xs : List V} (nt : NT L H) (s : Sq L H H') (h : SqT K H a xs) : SqT K H' a xs := by
  rcases h with (h | ⟨o, h⟩) | h
  · exact .inl (.inl (s.keep _ _ h (nt.no h fun z => z)))
  · exact .inl (.inr ⟨o, s.keep _ _ h (nt.no h fun z => z)⟩)
  · exact .inr h
theorem tqT_stepL {a : Addr} {xs : List V} (nt : NT L H) (s : Sq L H H') (h : TqT K H a xs) : TqT K H' a xs := by
  rcases h with h | ⟨h, e⟩
  · exact .inl (s.keep _ _ h (nt.no h fun z => z))
  · exact .inr ⟨sqT_stepL nt s h, e.imp id fun ⟨o, h1, h2⟩ => ⟨o, s.keep _ _ h1 (nt.no h1 fun z => z), h2⟩⟩
theorem plT_stepL {a : Addr} {xs : List V} (nt : NT L H) (s : Sq L H H') (h : PlT H a xs) : PlT H' a xs := let ⟨o, h1, h2⟩ := h; ⟨o, s.keep _ _ h1 (nt.no h1 fun z => z), h2⟩
theorem sqF_stepL {a : Addr} {xs : List V} (nt : NT L H) (s : Sq L H H') (h : SqF K H a xs) : SqF K H' a xs := by
  rcases h with ⟨o, h⟩ | h
  · exact .inl ⟨o, s.keep _ _ h (nt.no h fun z => z)⟩
  · exact .inr h
theorem rd_stepL {a : Addr} {u : HO} (h : Rd H a u) (s : Sq L H H') (n : ¬ L a) : Rd H' a u := by
  rcases h with h | ⟨o, h⟩
  · exact .inl (s.keep _ _ h n)
  · exact .inr ⟨o, s.keep _ _ h n⟩
mutual
theorem rep_stepL {v : V} {d : Dv} {G : List Addr} (nt : NT L H) (s : Sq L H H') : Rep K H v d G → (∀ a ∈ G, ¬ L a) → Rep K H' v d G
  | .non, _ => .non
  | .bl b, _ => .bl b
  | .int i, _ => .int i
  | .str x, _ => .str x
  | .tup h r, n => .tup (tqT_stepL nt s h) (reps_stepL nt s r n)
  | .lst h r, n => .lst (s.keep _ _ h (n _ List.mem_cons_self)) (reps_stepL nt s r fun a m => n a (List.mem_cons_of_mem _ m))
  | .frl h, _ => .frl (sqF_stepL nt s h)
  | .dct h e r, n => .dct (rd_stepL h s (n _ List.mem_cons_self)) e (reps_stepL nt s r fun a m => n a (List.mem_cons_of_mem _ m))
  | .dctT h e r, n => .dctT (rd_stepL h s (n _ List.mem_cons_self)) e (reps_stepL nt s r fun a m => n a (List.mem_cons_of_mem _ m))
  | .obj h e r, n => .obj (s.keep _ _ h (n _ List.mem_cons_self)) e (reps_stepL nt s r fun a m => n a (List.mem_cons_of_mem _ m))
theorem reps_stepL {vs : List V} {ds : List Dv} {G : List Addr} (nt : NT L H) (s : Sq L H H') : Reps K H vs ds G → (∀ a ∈ G, ¬ L a) → Reps K H' vs ds G
  | .nil, _ => .nil
  | .cons h r, n => .cons (rep_stepL nt s h fun a m => n a (List.mem_append_left _ m)) (reps_stepL nt s r fun a m => n a (List.mem_append_right _ m))
end
theorem pre_get {μ μ' : List Addr} (p : μ <+: μ') {n : Nat} {a : Addr} (h : μ[n]? = some a) : μ'[n]? = some a := by
  obtain ⟨t, rfl⟩ := p
  rw [List.getElem?_append_left (List.getElem?_eq_some_iff.mp h).1]; exact h
mutual
theorem RV.step {v : V} {x : Av} (nt : NT L H) (s : Sq L H H') (p : μ <+: μ') (l : ∀ a, L' a → L a ∨ H a = none) : RV K H μ L v x → RV K H' μ' L' v x
  | .d r n => .d (rep_stepL nt s r n) fun a m z => (l a z).elim (n a m) fun q => by
      obtain ⟨o, k⟩ := r.alloc a m
      rw [q] at k; cases k
  | .ref h => .ref (pre_get p h)
  | .tup h r => .tup ⟨tqT_stepL nt s h.1, fun ds e => plT_stepL nt s (h.2 ds e)⟩ (RVs.step nt s p l r)
  | .lst h n r => .lst (s.keep _ _ h n) (fun z => (l _ z).elim n fun q => by rw [q] at h; cases h) (RVs.step nt s p l r)
theorem RVs.step {vs : List V} {xs : List Av} (nt : NT L H) (s : Sq L H H') (p : μ <+: μ') (l : ∀ a, L' a → L a ∨ H a = none) : RVs K H μ L vs xs → RVs K H' μ' L' vs xs
  | .nil => .nil
  | .cons h r => .cons (RV.step nt s p l h) (RVs.step nt s p l r)
end
theorem RVs.len {vs : List V} {xs : List Av} : RVs K H μ L vs xs → vs.length = xs.length
  | .nil => rfl
  | .cons _ r => congrArg (· + 1) (RVs.len r)
theorem RVs.get {vs : List V} {xs : List Av} : RVs K H μ L vs xs → ∀ (i : Nat) (v : V), vs[i]? = some v → ∃ x, xs[i]? = some x ∧ RV K H μ L v x
  | .nil, i, v, e => by simp at e
  | .cons h r, 0, v, e => by simp at e; subst e; exact ⟨_, rfl, h⟩
  | .cons h r, i + 1, v, e => by
    obtain ⟨x, h1, h2⟩ := RVs.get r i v (by simpa using e)
    exact ⟨x, by simpa using h1, h2⟩
theorem RVs.getA {vs : List V} {xs : List Av} (r : RVs K H μ L vs xs) (i : Nat) (x : Av) (e : xs[i]? = some x) : ∃ v, vs[i]? = some v ∧ RV K H μ L v x := by
  have hi : i < vs.length := by rw [r.len]; exact (List.getElem?_eq_some_iff.mp e).1
  obtain ⟨x', e1, h⟩ := r.get i vs[i] (List.getElem?_eq_getElem hi)
  rw [e] at e1; cases e1
  exact ⟨_, List.getElem?_eq_getElem hi, h⟩
theorem RVs.app {vs ws : List V} {xs ys : List Av} : RVs K H μ L vs xs → RVs K H μ L ws ys → RVs K H μ L (vs ++ ws) (xs ++ ys)
  | .nil, s => s
  | .cons h r, s => .cons h (RVs.app r s)
theorem RVs.one {v : V} {x : Av} (h : RV K H μ L v x) : RVs K H μ L [v] [x] := .cons h .nil
theorem RVs.take {vs : List V} {xs : List Av} : ∀ (n : Nat), RVs K H μ L vs xs → RVs K H μ L (vs.take n) (xs.take n)
  | 0, _ => .nil
  | n + 1, .nil => .nil
  | n + 1, .cons h r => .cons h (RVs.take n r)
theorem RVs.drop {vs : List V} {xs : List Av} : ∀ (n : Nat), RVs K H μ L vs xs → RVs K H μ L (vs.drop n) (xs.drop n)
  | 0, r => r
  | n + 1, .nil => .nil
  | n + 1, .cons h r => RVs.drop n r
theorem RVs.set {vs : List V} {xs : List Av} {v : V} {x : Av} (q : RV K H μ L v x) : ∀ (n : Nat), RVs K H μ L vs xs → RVs K H μ L (vs.set n v) (xs.set n x)
  | _, .nil => .nil
  | 0, .cons h r => .cons q r
  | n + 1, .cons h r => .cons h (RVs.set q n r)
theorem RVs.erase {vs : List V} {xs : List Av} : ∀ (n : Nat), RVs K H μ L vs xs → RVs K H μ L (vs.eraseIdx n) (xs.eraseIdx n)
  | _, .nil => .nil
  | 0, .cons h r => r
  | n + 1, .cons h r => .cons h (RVs.erase n r)
/-- trees in a row -/
theorem RVs.ds {vs : List V} : ∀ {ds : List Dv}, RVs K H μ L vs (ds.map .d) → ∃ G, Reps K H vs ds G ∧ ∀ a ∈ G, ¬ L a
  | [], r => by cases r; exact ⟨[], .nil, fun a m => (nomatch m)⟩
  | d :: ds, r => by
    cases r with
    | cons h r =>
      cases h with
      | @d v x g h n =>
        obtain ⟨G, q, m⟩ := RVs.ds r
        exact ⟨g ++ G, .cons h q, fun a k => (List.mem_append.mp k).elim (n a) (m a)⟩
theorem RVs.of {vs : List V} {ds : List Dv} {G : List Addr} : Reps K H vs ds G → (∀ a ∈ G, ¬ L a) → RVs K H μ L vs (ds.map .d)
  | .nil, _ => .nil
  | .cons h r, n => .cons (.d h fun a m => n a (List.mem_append_left _ m)) (RVs.of r fun a m => n a (List.mem_append_right _ m))
end

/-! ### the cells' relation -/
inductive BdR (K : PySem.W.Frag) (H : Hp) (μ : List Addr) (L : Addr → Prop) : HO → Bd → Prop
  | lst {vs : List V} {xs : List Av} : RVs K H μ L vs xs → BdR K H μ L (.lst vs) (.lst xs)
  | dK {ks : List (Key × V)} {kvs : List (Key × Av)} : kvs.map (·.1) = ks.map (·.1) → RVs K H μ L (ks.map (·.2)) (kvs.map (·.2)) → BdR K H μ L (.dK ks) (.dK kvs)
  | dT {ks : List (List Key × V)} {kvs : List (List Key × Av)} : kvs.map (·.1) = ks.map (·.1) → RVs K H μ L (ks.map (·.2)) (kvs.map (·.2)) → BdR K H μ L (.dT ks) (.dT kvs)
  | ins {C dx : Addr} {c : Str} {fs : List (Str × V)} {es : List (Str × Av)} : C = He.ga K c → es.map (·.1) = fs.map (·.1) → RVs K H μ L (fs.map (·.2)) (es.map (·.2)) → BdR K H μ L (.ins C dx fs) (.ins c es)
def Bd.isD : Bd → Bool
  | .dK _ => true
  | .dT _ => true
  | _ => false
structure Rl (K : PySem.W.Frag) (P : Addr → Prop) (μ : List Addr) (h : AH) (H : Hp) : Prop where
  len : μ.length = h.length
  nd : μ.Nodup
  al : ∀ a ∈ μ, H a ≠ none
  lv : ∀ (n : Nat) (b : Bd), h[n]? = some (.lv b) → ∃ a u, μ[n]? = some a ∧ H a = some u ∧ BdR K H μ (Lv P μ h) u b
  lk : ∀ (n : Nat) (b : Bd), h[n]? = some (.lk b) → ∃ a u, μ[n]? = some a ∧ (H a = some u ∨ (b.isD = true ∧ ∃ o, H a = some (.frz o u))) ∧ BdR K H μ (Lv P μ h) u b
  pp : ∀ a, P a → a ∉ μ ∧ ∃ xs, H a = some (.lst xs)
section
variable {K : PySem.W.Frag} {P : Addr → Prop} {H H' H1 H2 : Hp} {μ μ' μ1 μ2 : List Addr} {h h' h1 h2 : AH} {L L' : Addr → Prop}
theorem BdR.step {u : HO} {b : Bd} (nt : NT L H) (s : Sq L H H') (p : μ <+: μ') (l : ∀ a, L' a → L a ∨ H a = none) (r : BdR K H μ L u b) : BdR K H' μ' L' u b := by
  cases r with
  | lst r => exact .lst (r.step nt s p l)
  | dK e r => exact .dK e (r.step nt s p l)
  | dT e r => exact .dT e (r.step nt s p l)
  | ins c e r => exact .ins c e (r.step nt s p l)
theorem BdR.mo {u : HO} {b : Bd} (r : BdR K H μ L u b) : Mo u := by cases r <;> exact True.intro
theorem BdR.moF {u : HO} {b : Bd} {o : Obj} (r : BdR K H μ L u b) (hb : b.isD = true) : Mo (.frz o u) := by
  cases r with
  | lst r => cases hb
  | dK e r => exact True.intro
  | dT e r => exact True.intro
  | ins c e r => cases hb
theorem Rl.nt (r : Rl K P μ h H) : NT (Lv P μ h) H := fun a z => by
  rcases z with z | ⟨n, nd, h1, h2, h3⟩
  · obtain ⟨_, xs, e⟩ := r.pp a z
    exact ⟨_, e, True.intro⟩
  cases nd with
  | dead => exact absurd rfl h2
  | lv b =>
    obtain ⟨a', u, e1, e2, e3⟩ := r.lv n b h1
    rw [h3] at e1; cases e1
    exact ⟨u, e2, e3.mo⟩
  | lk b =>
    obtain ⟨a', u, e1, e2, e3⟩ := r.lk n b h1
    rw [h3] at e1; cases e1
    rcases e2 with e2 | ⟨hb, o, e2⟩
    · exact ⟨_, e2, e3.mo⟩
    · exact ⟨_, e2, e3.moF hb⟩
theorem Rl.has (r : Rl K P μ h H) {a : Addr} (l : Lv P μ h a) : H a ≠ none := fun z => by
  obtain ⟨u, e, _⟩ := r.nt a l
  rw [z] at e; cases e
theorem lc_mem {a : Addr} (l : Lc μ h a) : a ∈ μ := let ⟨_, _, _, _, e⟩ := l; List.mem_of_getElem? e
/-- one move; what is locked stays as it is -/
structure Sp (μ : List Addr) (h : AH) (H : Hp) (μ' : List Addr) (h' : AH) (H' : Hp) : Prop where
  pre : μ <+: μ'
  sq : Sq (Lc μ h) H H'
  live : ∀ a, Lc μ' h' a → Lc μ h a ∨ H a = none
  lk : ∀ (n : Nat) (b : Bd) (a : Addr), h[n]? = some (.lk b) → μ[n]? = some a → h'[n]? = some (.lk b) ∧ H' a = H a
theorem Sp.refl : Sp μ h H μ h H := ⟨List.prefix_refl _, .refl, fun _ z => .inl z, fun n b a e _ => ⟨e, rfl⟩⟩
theorem Sp.trans (a : Sp μ h H μ1 h1 H1) (b : Sp μ1 h1 H1 μ2 h2 H2) : Sp μ h H μ2 h2 H2 :=
  ⟨a.pre.trans b.pre, ⟨fun x o e n => b.sq.keep x o (a.sq.keep x o e n) fun z => (a.live x z).elim n fun q => (by rw [q] at e; cases e), fun x e => a.sq.al x (b.sq.al x e)⟩,
    fun x z => (b.live x z).elim (a.live x) fun q => .inr (a.sq.al x q), fun n u x e1 e2 => (let ⟨p1, p2⟩ := a.lk n u x e1 e2; let ⟨q1, q2⟩ := b.lk n u x p1 (pre_get a.pre e2); ⟨q1, q2.trans p2⟩)⟩
theorem Sq.mono (s : Sq L H H') (i : ∀ a, L a → L' a) : Sq L' H H' := ⟨fun a o e n => s.keep a o e fun z => n (i a z), s.al⟩
theorem Sp.sqv (s : Sp μ h H μ' h' H') : Sq (Lv P μ h) H H' := s.sq.mono fun _ z => .inr z
theorem Sp.livev (s : Sp μ h H μ' h' H') : ∀ a, Lv P μ' h' a → Lv P μ h a ∨ H a = none := fun a z => z.elim (fun z => .inl (.inl z)) fun z => (s.live a z).imp_left .inr
theorem RV.on {v : V} {x : Av} (r : RV K H μ (Lv P μ h) v x) (q : Rl K P μ h H) (s : Sp μ h H μ' h' H') : RV K H' μ' (Lv P μ' h') v x := r.step q.nt s.sqv s.pre s.livev
theorem RVs.on {vs : List V} {xs : List Av} (r : RVs K H μ (Lv P μ h) vs xs) (q : Rl K P μ h H) (s : Sp μ h H μ' h' H') : RVs K H' μ' (Lv P μ' h') vs xs := r.step q.nt s.sqv s.pre s.livev
theorem RV.onP {P' : Addr → Prop} {v : V} {x : Av} (r : RV K H μ (Lv P μ h) v x) (q : Rl K P μ h H) (s : Sp μ h H μ' h' H') (i : ∀ a, P' a → P a ∨ H a = none) : RV K H' μ' (Lv P' μ' h') v x := r.step q.nt s.sqv s.pre fun a z => z.elim (fun z => (i a z).imp_left .inl) fun z => (s.live a z).imp_left .inr
theorem RVs.onP {P' : Addr → Prop} {v : List V} {x : List Av} (r : RVs K H μ (Lv P μ h) v x) (q : Rl K P μ h H) (s : Sp μ h H μ' h' H') (i : ∀ a, P' a → P a ∨ H a = none) : RVs K H' μ' (Lv P' μ' h') v x := r.step q.nt s.sqv s.pre fun a z => z.elim (fun z => (i a z).imp_left .inl) fun z => (s.live a z).imp_left .inr
theorem Sp.same (r : Rl K P μ h H) (s : Same H H') : Sp μ h H μ h H' := ⟨List.prefix_refl _, .same s, fun _ z => .inl z, fun n b a e m => ⟨e, by
  obtain ⟨u, q, _⟩ := r.nt a (.inr ⟨n, _, e, (fun z => nomatch z), m⟩)
  rw [q, s a u q]⟩⟩
theorem Rl.same (r : Rl K P μ h H) (s : Same H H') : Rl K P μ h H' :=
  ⟨r.len, r.nd, fun a m z => r.al a m (s.free z), fun n b e => (let ⟨a, u, e1, e2, e3⟩ := r.lv n b e; ⟨a, u, e1, s a u e2, e3.step r.nt (.same s) (List.prefix_refl _) fun _ z => .inl z⟩),
    fun n b e => (let ⟨a, u, e1, e2, e3⟩ := r.lk n b e; ⟨a, u, e1, e2.imp (s a u) (fun ⟨hb, o, q⟩ => ⟨hb, o, s a _ q⟩), e3.step r.nt (.same s) (List.prefix_refl _) fun _ z => .inl z⟩),
    fun a z => (let ⟨n, xs, e⟩ := r.pp a z; ⟨n, xs, s a _ e⟩)⟩
theorem Rl.lt (r : Rl K P μ h H) {n : Nat} {nd : Nd} (e : h[n]? = some nd) : ∃ a, μ[n]? = some a := by
  have : n < μ.length := by rw [r.len]; exact (List.getElem?_eq_some_iff.mp e).1
  exact ⟨_, List.getElem?_eq_getElem this⟩
theorem nodup_at {μ : List Addr} (nd : μ.Nodup) {i j : Nat} {a : Addr} (h1 : μ[i]? = some a) (h2 : μ[j]? = some a) : i = j := by
  obtain ⟨l1, e1⟩ := List.getElem?_eq_some_iff.mp h1
  obtain ⟨l2, e2⟩ := List.getElem?_eq_some_iff.mp h2
  exact (List.getElem_inj nd).mp (e1.trans e2.symm)
/-- a new cell -/
theorem lc_new {p a : Addr} {nd : Nd} (hl : μ.length = h.length) (z : Lc (μ ++ [p]) (h ++ [nd]) a) : Lc μ h a ∨ a = p := by
  obtain ⟨n, nd', h1, h2, h3⟩ := z
  by_cases hn : n < h.length
  · rw [List.getElem?_append_left hn] at h1
    rw [List.getElem?_append_left (by omega)] at h3
    exact .inl ⟨n, nd', h1, h2, h3⟩
  · have : n < (h ++ [nd]).length := (List.getElem?_eq_some_iff.mp h1).1
    rw [List.length_append, List.length_singleton] at this
    have : n = μ.length := by omega
    subst this
    rw [List.getElem?_append_right (Nat.le_refl _), Nat.sub_self] at h3
    cases h3; exact .inr rfl
theorem lv_new {p a : Addr} {nd : Nd} (hl : μ.length = h.length) (z : Lv P (μ ++ [p]) (h ++ [nd]) a) : Lv P μ h a ∨ a = p := z.elim (fun z => .inl (.inl z)) fun z => (lc_new hl z).imp_left .inr
/-- what stands there becomes a cell; P': without it -/
theorem Rl.adoptP {P' : Addr → Prop} {p : Addr} {o : HO} {b : Bd} (r : Rl K P μ h H) (sm : Same H H') (hp : p ∉ μ) (ho : H' p = some o) (hP : ∀ a, P' a → P a ∧ a ≠ p) (hL : ∀ a, a = p → P a ∨ H a = none) (br : BdR K H' (μ ++ [p]) (Lv P' (μ ++ [p]) (h ++ [.lv b])) o b) : Rl K P' (μ ++ [p]) (h ++ [.lv b]) H' := by
  have up : ∀ {u : HO} {b' : Bd}, BdR K H μ (Lv P μ h) u b' → BdR K H' (μ ++ [p]) (Lv P' (μ ++ [p]) (h ++ [.lv b])) u b' := fun q => q.step r.nt (.same sm) (List.prefix_append _ _) fun a z => by
    rcases z with z | z
    · exact .inl (.inl (hP a z).1)
    · rcases lc_new r.len z with z | z
      · exact .inl (.inr z)
      · exact (hL a z).imp_left .inl
  have at_ : ∀ n nd, (h ++ [Nd.lv b])[n]? = some nd → (n < h.length ∧ h[n]? = some nd) ∨ (n = h.length ∧ nd = .lv b) := fun n nd e => by
    by_cases hn : n < h.length
    · rw [List.getElem?_append_left hn] at e; exact .inl ⟨hn, e⟩
    · have : n < (h ++ [Nd.lv b]).length := (List.getElem?_eq_some_iff.mp e).1
      rw [List.length_append, List.length_singleton] at this
      have : n = h.length := by omega
      subst this
      rw [List.getElem?_append_right (Nat.le_refl _), Nat.sub_self] at e
      cases e; exact .inr ⟨rfl, rfl⟩
  have old : ∀ {n : Nat} {a : Addr}, μ[n]? = some a → (μ ++ [p])[n]? = some a := fun e => pre_get (List.prefix_append _ _) e
  refine ⟨by rw [List.length_append, List.length_append, r.len]; rfl, ?_, fun a m => ?_, fun n b' e => ?_, fun n b' e => ?_, fun a z => ?_⟩
  · refine List.nodup_append.mpr ⟨r.nd, List.nodup_cons.mpr ⟨fun z => (nomatch z), .nil⟩, fun a ha b hb z => ?_⟩
    rw [List.mem_singleton] at hb
    subst hb z
    exact hp ha
  · rcases List.mem_append.mp m with m | m
    · exact fun z => r.al a m (sm.free z)
    · rw [List.mem_singleton] at m; subst m; rw [ho]; exact fun z => nomatch z
  · rcases at_ n _ e with ⟨hn, e⟩ | ⟨hn, e⟩
    · obtain ⟨a, u, e1, e2, e3⟩ := r.lv n b' e
      exact ⟨a, u, old e1, sm a u e2, up e3⟩
    · cases e
      refine ⟨p, o, ?_, ho, br⟩
      rw [hn, ← r.len, List.getElem?_append_right (Nat.le_refl _), Nat.sub_self]; rfl
  · rcases at_ n _ e with ⟨hn, e⟩ | ⟨hn, e⟩
    · obtain ⟨a, u, e1, e2, e3⟩ := r.lk n b' e
      exact ⟨a, u, old e1, e2.imp (sm a u) (fun ⟨hb, o, q⟩ => ⟨hb, o, sm a _ q⟩), up e3⟩
    · cases e
  · obtain ⟨h1, h2⟩ := hP a z
    obtain ⟨n1, xs, e⟩ := r.pp a h1
    exact ⟨fun m => (List.mem_append.mp m).elim n1 fun m => h2 (List.mem_singleton.mp m), xs, sm a _ e⟩
theorem Rl.adopt {p : Addr} {o : HO} {b : Bd} (r : Rl K P μ h H) (sm : Same H H') (hp : H p = none) (ho : H' p = some o) (br : BdR K H' (μ ++ [p]) (Lv P (μ ++ [p]) (h ++ [.lv b])) o b) : Rl K P (μ ++ [p]) (h ++ [.lv b]) H' ∧ Sp μ h H (μ ++ [p]) (h ++ [.lv b]) H' :=
  ⟨r.adoptP sm (fun m => r.al p m hp) ho (fun a z => ⟨z, fun y => (by subst y; exact r.has (.inl z) hp)⟩) (fun a z => .inr (by rw [z]; exact hp)) br,
    ⟨List.prefix_append _ _, .same sm, fun a z => (lc_new r.len z).imp_right fun e => (by rw [e]; exact hp), fun n b' a e m => ⟨by rw [List.getElem?_append_left (List.getElem?_eq_some_iff.mp e).1]; exact e, ((Sp.same r sm).lk n b' a e m).2⟩⟩⟩
theorem Rl.new {p : Addr} {o : HO} {b : Bd} (r : Rl K P μ h H) (hp : H p = none) (br : BdR K H μ (Lv P μ h) o b) : Rl K P (μ ++ [p]) (h ++ [.lv b]) (upd H p o) ∧ Sp μ h H (μ ++ [p]) (h ++ [.lv b]) (upd H p o) :=
  r.adopt (same_new hp) hp upd_same (br.step r.nt (.same (same_new hp)) (List.prefix_append _ _) fun a z => (lv_new r.len z).imp_right fun e => by rw [e]; exact hp)
/-- a cell changed, locked, unlocked -/
theorem Rl.put {n : Nat} {nd nd0 : Nd} {a : Addr} {o : HO} (r : Rl K P μ h H) (e0 : h[n]? = some nd0) (n0 : nd0 ≠ .dead) (ha : μ[n]? = some a)
    (nw : (∃ b, nd = .lv b ∧ BdR K H μ (Lv P μ h) o b) ∨ (∃ b u, nd = .lk b ∧ (o = u ∨ (b.isD = true ∧ ∃ ob, o = .frz ob u)) ∧ BdR K H μ (Lv P μ h) u b)) :
    Rl K P μ (h.set n nd) (upd H a o) ∧ Sq (Lc μ h) H (upd H a o) ∧ (∀ x, Lc μ (h.set n nd) x → Lc μ h x ∨ H x = none) ∧ (∀ (m : Nat) (b : Bd) (x : Addr), m ≠ n → h[m]? = some (.lk b) → μ[m]? = some x → (h.set n nd)[m]? = some (.lk b) ∧ (upd H a o) x = H x) := by
  have la : Lc μ h a := ⟨n, nd0, e0, n0, ha⟩
  have hn : n < h.length := (List.getElem?_eq_some_iff.mp e0).1
  have at_n : (h.set n nd)[n]? = some nd := List.getElem?_set_self hn
  have at_m : ∀ m, m ≠ n → (h.set n nd)[m]? = h[m]? := fun m z => List.getElem?_set_ne (Ne.symm z)
  have ll : ∀ x, Lc μ (h.set n nd) x → Lc μ h x ∨ H x = none := fun x ⟨m, nd', h1, h2, h3⟩ => by
    by_cases z : m = n
    · subst z; rw [ha] at h3; cases h3; exact .inl la
    · rw [at_m m z] at h1; exact .inl ⟨m, nd', h1, h2, h3⟩
  have sq : Sq (Lc μ h) H (upd H a o) := ⟨fun x u e z => by rw [upd_ne fun y => z (by rw [y]; exact la)]; exact e, fun x e => by
    by_cases y : x = a
    · subst y; rw [upd_same] at e; cases e
    · rw [upd_ne y] at e; exact e⟩
  have up : ∀ {u : HO} {b' : Bd}, BdR K H μ (Lv P μ h) u b' → BdR K (upd H a o) μ (Lv P μ (h.set n nd)) u b' := fun q => q.step r.nt (sq.mono fun _ z => .inr z) (List.prefix_refl _) fun x z => z.elim (fun z => .inl (.inl z)) fun z => (ll x z).imp_left .inr
  refine ⟨⟨by rw [List.length_set]; exact r.len, r.nd, fun x m z => r.al x m (sq.al x z), fun m b' e => ?_, fun m b' e => ?_, fun x z => ?_⟩, sq, ll, fun m b x z e m' => ⟨by rw [at_m m z]; exact e, upd_ne fun y => z (nodup_at r.nd m' (by rw [y]; exact ha))⟩⟩
  · by_cases z : m = n
    · subst z
      rw [at_n] at e; cases e
      rcases nw with ⟨b, e1, e2⟩ | ⟨b, u, e1, _⟩
      · cases e1; exact ⟨a, o, ha, upd_same, up e2⟩
      · cases e1
    · rw [at_m m z] at e
      obtain ⟨x, u, e1, e2, e3⟩ := r.lv m b' e
      refine ⟨x, u, e1, ?_, up e3⟩
      rw [upd_ne fun y => z (nodup_at r.nd e1 (by rw [y]; exact ha))]; exact e2
  · by_cases z : m = n
    · subst z
      rw [at_n] at e; cases e
      rcases nw with ⟨b, e1, e2⟩ | ⟨b, u, e1, e2, e3⟩
      · cases e1
      · cases e1
        refine ⟨a, u, ha, ?_, up e3⟩
        rw [upd_same]
        rcases e2 with e2 | ⟨hb, ob, e2⟩
        · exact .inl (by rw [e2])
        · exact .inr ⟨hb, ob, by rw [e2]⟩
    · rw [at_m m z] at e
      obtain ⟨x, u, e1, e2, e3⟩ := r.lk m b' e
      refine ⟨x, u, e1, ?_, up e3⟩
      rw [upd_ne fun y => z (nodup_at r.nd e1 (by rw [y]; exact ha))]; exact e2
  · obtain ⟨n1, xs, e⟩ := r.pp x z
    exact ⟨n1, xs, by rw [upd_ne fun y => n1 (by rw [y]; exact List.mem_of_getElem? ha)]; exact e⟩
theorem Rl.wr {n : Nat} {a : Addr} {b b' : Bd} {o : HO} (rl : Rl K P μ h H) (e : h[n]? = some (.lv b)) (ha : μ[n]? = some a) (br : BdR K H μ (Lv P μ h) o b') :
    Rl K P μ (h.set n (.lv b')) (upd H a o) ∧ Sp μ h H μ (h.set n (.lv b')) (upd H a o) := by
  obtain ⟨r1, r2, r3, r4⟩ := rl.put e (fun z => nomatch z) ha (.inl ⟨b', rfl, br⟩)
  refine ⟨r1, List.prefix_refl _, r2, r3, fun m u x e1 e2 => r4 m u x (fun z => ?_) e1 e2⟩
  subst z; rw [e] at e1; cases e1
theorem Rl.nil : Rl K (fun _ => False) [] [] H := ⟨rfl, .nil, fun a m => (nomatch m), fun n b e => by simp at e, fun n b e => by simp at e, fun a z => z.elim⟩
theorem lc_nil {a : Addr} : ¬ Lc [] [] a := fun ⟨n, nd, h1, _⟩ => by simp at h1
theorem lv_nil {a : Addr} : ¬ Lv (fun _ => False) [] [] a := fun z => z.elim id lc_nil
/-- what a cell holds -/
theorem Rl.rd (r : Rl K P μ h H) {n : Nat} {b : Bd} (e : rd h n = some b) : ∃ a u, μ[n]? = some a ∧ Rd H a u ∧ BdR K H μ (Lv P μ h) u b ∧ (H a = some u ∨ b.isD = true) := by
  unfold Fh.rd at e
  cases q : h[n]? with
  | none => rw [q] at e; cases e
  | some nd =>
    rw [q] at e
    cases nd with
    | dead => cases e
    | lv b' =>
      cases e
      obtain ⟨a, u, e1, e2, e3⟩ := r.lv n b q
      exact ⟨a, u, e1, .inl e2, e3, .inl e2⟩
    | lk b' =>
      cases e
      obtain ⟨a, u, e1, e2, e3⟩ := r.lk n b q
      rcases e2 with e2 | ⟨hb, o, e2⟩
      · exact ⟨a, u, e1, .inl e2, e3, .inl e2⟩
      · exact ⟨a, u, e1, .inr ⟨o, e2⟩, e3, .inr hb⟩
theorem Rl.lv' {n : Nat} {a : Addr} (ha : μ[n]? = some a) {b : Bd} (e : Fh.rd h n = some b) : Lc μ h a := by
  unfold Fh.rd at e
  cases q : h[n]? with
  | none => rw [q] at e; cases e
  | some nd =>
    rw [q] at e
    cases nd with
    | dead => cases e
    | lv b' => exact ⟨n, _, q, (fun z => nomatch z), ha⟩
    | lk b' => exact ⟨n, _, q, (fun z => nomatch z), ha⟩
end
end Fh
namespace Fh
open PySem PySem.Spec PyProof.Rows L2
open Fd (Dv Rep Reps SqF same_new OpD CallD UnD PE_or PT_or PS_or)
variable {P : Addr → Prop}

abbrev ME := Env → AH → Option (Av × AH)
abbrev MT := Env → AH → Option (Bool × AH)
abbrev MA := Env → AH → Option (List Av × AH)
inductive Out where
  | nx (e : Env) | rt (v : Av) | bk (e : Env) | ct (e : Env)
abbrev MS := Env → AH → Option (Out × AH)

/-! ### trees out of cells -/
def mapO {α β : Type} (f : α → Option β) : List α → Option (List β)
  | [] => some []
  | x :: xs => match f x with
    | some y => (mapO f xs).map (y :: ·)
    | none => none
def snap : Nat → AH → Av → Option Dv
  | 0, _, x => match x with
    | .d x => some x
    | _ => none
  | k + 1, h, x => match x with
    | .d x => some x
    | .tup xs => (mapO (snap k h) xs).map .tup
    | .lst xs => (mapO (snap k h) xs).map .lst
    | .ref n => match rd h n with
      | some (.lst xs) => (mapO (snap k h) xs).map .lst
      | some (.dK kvs) => (mapO (snap k h) (kvs.map (·.2))).map fun ds => .dct ((kvs.map (·.1)).zip ds)
      | some (.dT kvs) => (mapO (snap k h) (kvs.map (·.2))).map fun ds => .dctT ((kvs.map (·.1)).zip ds)
      | some (.ins C fs) => (mapO (snap k h) (fs.map (·.2))).map fun ds => .obj C ((fs.map (·.1)).zip ds)
      | none => none
def rdl (h : AH) (n : Nat) : Option Bd := match h[n]? with
  | some (.lv b) => some b
  | _ => none
theorem rdl_rd {h : AH} {n : Nat} {b : Bd} (e : rdl h n = some b) : rd h n = some b ∧ h[n]? = some (.lv b) := by
  unfold rdl at e
  split at e
  · rename_i b' q
    cases e
    exact ⟨by unfold rd; rw [q], q⟩
  · cases e
/-- what is one's own becomes a tree; what hangs on it is one's own, too -/
def frz : Nat → AH → Av → Option Dv
  | 0, _, x => match x with
    | .d x => if x.pur = true then some x else none
    | _ => none
  | k + 1, h, x => match x with
    | .d x => if x.pur = true then some x else none
    | .tup xs => (mapO (frz k h) xs).map .tup
    | .lst xs => none
    | .ref n => match rdl h n with
      | some (.lst xs) => (mapO (frz k h) xs).map .lst
      | some (.dK kvs) => (mapO (frz k h) (kvs.map (·.2))).map fun ds => .dct ((kvs.map (·.1)).zip ds)
      | some (.dT kvs) => (mapO (frz k h) (kvs.map (·.2))).map fun ds => .dctT ((kvs.map (·.1)).zip ds)
      | some (.ins C fs) => (mapO (frz k h) (fs.map (·.2))).map fun ds => .obj C ((fs.map (·.1)).zip ds)
      | none => none
@[simp] theorem snap_d {k : Nat} {h : AH} {x : Dv} : snap k h (.d x) = some x := by cases k <;> rfl
theorem frz_d {k : Nat} {h : AH} {x : Dv} : frz k h (.d x) = if x.pur = true then some x else none := by cases k <;> rfl
theorem mapO_len {α β : Type} {f : α → Option β} : ∀ {xs : List α} {ys : List β}, mapO f xs = some ys → xs.length = ys.length
  | [], _, h => by cases h; rfl
  | x :: xs, ys, h => by
    unfold mapO at h
    cases e : f x with
    | none => rw [e] at h; cases h
    | some y =>
      rw [e] at h
      obtain ⟨zs, h1, rfl⟩ := Option.map_eq_some_iff.mp h
      exact congrArg (· + 1) (mapO_len h1)
theorem zip_fst {α β : Type} : ∀ {xs : List α} {ys : List β}, xs.length = ys.length → (xs.zip ys).map (·.1) = xs
  | [], [], _ => rfl
  | x :: xs, y :: ys, h => congrArg (x :: ·) (zip_fst (by simpa using h))
theorem zip_snd {α β : Type} : ∀ {xs : List α} {ys : List β}, xs.length = ys.length → (xs.zip ys).map (·.2) = ys
  | [], [], _ => rfl
  | x :: xs, y :: ys, h => congrArg (y :: ·) (zip_snd (by simpa using h))
section
variable {K : PySem.W.Frag} {H H' : Hp} {μ μ' : List Addr} {h h' : AH} {L : Addr → Prop}
theorem mapO_rep {f : Av → Option Dv} (P : Addr → Prop) (hf : ∀ v x d, RV K H μ L v x → f x = some d → ∃ G, Rep K H v d G ∧ ∀ a ∈ G, P a) : ∀ {xs : List Av} {vs : List V} {ds : List Dv}, RVs K H μ L vs xs → mapO f xs = some ds → ∃ G, Reps K H vs ds G ∧ ∀ a ∈ G, P a
  | [], _, _, .nil, e => by cases e; exact ⟨[], .nil, fun a m => (nomatch m)⟩
  | x :: xs, _, ds, .cons r rs, e => by
    unfold mapO at e
    cases q : f x with
    | none => rw [q] at e; cases e
    | some y =>
      rw [q] at e
      obtain ⟨zs, h1, rfl⟩ := Option.map_eq_some_iff.mp e
      obtain ⟨G1, r1, m1⟩ := hf _ _ _ r q
      obtain ⟨G2, r2, m2⟩ := mapO_rep P hf rs h1
      exact ⟨G1 ++ G2, .cons r1 r2, fun a m => (List.mem_append.mp m).elim (m1 a) (m2 a)⟩
theorem snap_rep (q : Rl K P μ h H) : ∀ (k : Nat) (v : V) (x : Av) (d : Dv), RV K H μ (Lv P μ h) v x → snap k h x = some d → ∃ G, Rep K H v d G ∧ ∀ a ∈ G, True
  | 0, v, x, d, r, e => by
    cases r with
    | d r _ => cases e; exact ⟨_, r, fun _ _ => True.intro⟩
    | ref _ => cases e
    | tup _ _ => cases e
    | lst _ _ _ => cases e
  | k + 1, v, x, d, r, e => by
    cases r with
    | d r _ => cases e; exact ⟨_, r, fun _ _ => True.intro⟩
    | tup hs r =>
      obtain ⟨ds, e1, rfl⟩ := Option.map_eq_some_iff.mp e
      obtain ⟨G, r1, _⟩ := mapO_rep (fun _ => True) (fun v x d => snap_rep q k v x d) r e1
      exact ⟨G, .tup hs.1 r1, fun _ _ => True.intro⟩
    | lst hs _ r =>
      obtain ⟨ds, e1, rfl⟩ := Option.map_eq_some_iff.mp e
      obtain ⟨G, r1, _⟩ := mapO_rep (fun _ => True) (fun v x d => snap_rep q k v x d) r e1
      exact ⟨_, .lst hs r1, fun _ _ => True.intro⟩
    | @ref n a hm =>
      unfold snap at e
      cases hb : rd h n with
      | none => simp only [hb] at e; cases e
      | some b =>
        simp only [hb] at e
        obtain ⟨a', u, e1, e2, e3, e4⟩ := q.rd hb
        rw [hm] at e1; cases e1
        cases e3 with
        | lst r =>
          obtain ⟨ds, e1, rfl⟩ := Option.map_eq_some_iff.mp e
          obtain ⟨G, r1, _⟩ := mapO_rep (fun _ => True) (fun v x d => snap_rep q k v x d) r e1
          exact ⟨_, .lst (e4.resolve_right fun z => nomatch z) r1, fun _ _ => True.intro⟩
        | dK ek r =>
          obtain ⟨ds, e1, rfl⟩ := Option.map_eq_some_iff.mp e
          obtain ⟨G, r1, _⟩ := mapO_rep (fun _ => True) (fun v x d => snap_rep q k v x d) r e1
          have hl := mapO_len e1
          rw [List.length_map] at hl
          refine ⟨_, .dct e2 ((zip_fst (by rw [List.length_map]; exact hl)).trans ek) (by rw [zip_snd (by rw [List.length_map]; exact hl)]; exact r1), fun _ _ => True.intro⟩
        | dT ek r =>
          obtain ⟨ds, e1, rfl⟩ := Option.map_eq_some_iff.mp e
          obtain ⟨G, r1, _⟩ := mapO_rep (fun _ => True) (fun v x d => snap_rep q k v x d) r e1
          have hl := mapO_len e1
          rw [List.length_map] at hl
          refine ⟨_, .dctT e2 ((zip_fst (by rw [List.length_map]; exact hl)).trans ek) (by rw [zip_snd (by rw [List.length_map]; exact hl)]; exact r1), fun _ _ => True.intro⟩
        | ins hc ek r =>
          obtain ⟨ds, e1, rfl⟩ := Option.map_eq_some_iff.mp e
          obtain ⟨G, r1, _⟩ := mapO_rep (fun _ => True) (fun v x d => snap_rep q k v x d) r e1
          have hl := mapO_len e1
          rw [List.length_map] at hl
          subst hc
          refine ⟨_, .obj (e4.resolve_right fun z => nomatch z) ((zip_fst (by rw [List.length_map]; exact hl)).trans ek) (by rw [zip_snd (by rw [List.length_map]; exact hl)]; exact r1), fun _ _ => True.intro⟩
theorem frz_rep (q : Rl K P μ h H) : ∀ (k : Nat) (v : V) (x : Av) (d : Dv), RV K H μ (Lv P μ h) v x → frz k h x = some d → ∃ G, Rep K H v d G ∧ ∀ a ∈ G, Lc μ h a ∧ ∃ o, H a = some o ∧ Fd.Mu o
  | 0, v, x, d, r, e => by
    cases r with
    | @d v x G r _ =>
      unfold frz at e
      by_cases hp : x.pur = true
      · simp only [if_pos hp] at e; cases e; exact ⟨_, r, fun a m => by rw [r.purG hp] at m; cases m⟩
      · simp only [if_neg hp] at e; cases e
    | ref _ => cases e
    | tup _ _ => cases e
    | lst _ _ _ => cases e
  | k + 1, v, x, d, r, e => by
    cases r with
    | @d v x G r _ =>
      unfold frz at e
      by_cases hp : x.pur = true
      · simp only [if_pos hp] at e; cases e; exact ⟨_, r, fun a m => by rw [r.purG hp] at m; cases m⟩
      · simp only [if_neg hp] at e; cases e
    | tup hs r =>
      obtain ⟨ds, e1, rfl⟩ := Option.map_eq_some_iff.mp e
      obtain ⟨G, r1, m1⟩ := mapO_rep (fun a => Lc μ h a ∧ ∃ o, H a = some o ∧ Fd.Mu o) (fun v x d => frz_rep q k v x d) r e1
      exact ⟨G, .tup hs.1 r1, m1⟩
    | lst hs _ r => cases e
    | @ref n a hm =>
      unfold frz at e
      cases hb : rdl h n with
      | none => simp only [hb] at e; cases e
      | some b =>
        simp only [hb] at e
        obtain ⟨a', u, e1, e2, e3⟩ := q.lv n b (rdl_rd hb).2
        rw [hm] at e1; cases e1
        have la : Lc μ h a ∧ ∃ o, H a = some o ∧ Fd.Mu o := ⟨Rl.lv' hm (rdl_rd hb).1, u, e2, by cases e3 <;> exact True.intro⟩
        have cons : ∀ {G : List Addr}, (∀ x ∈ G, Lc μ h x ∧ ∃ o, H x = some o ∧ Fd.Mu o) → ∀ x ∈ a :: G, Lc μ h x ∧ ∃ o, H x = some o ∧ Fd.Mu o := fun m x z => (List.mem_cons.mp z).elim (fun y => by rw [y]; exact la) (m x)
        cases e3 with
        | lst r =>
          obtain ⟨ds, e1, rfl⟩ := Option.map_eq_some_iff.mp e
          obtain ⟨G, r1, m1⟩ := mapO_rep _ (fun v x d => frz_rep q k v x d) r e1
          exact ⟨_, .lst e2 r1, cons m1⟩
        | dK ek r =>
          obtain ⟨ds, e1, rfl⟩ := Option.map_eq_some_iff.mp e
          obtain ⟨G, r1, m1⟩ := mapO_rep _ (fun v x d => frz_rep q k v x d) r e1
          have hl := mapO_len e1
          rw [List.length_map] at hl
          refine ⟨_, .dct (.inl e2) ((zip_fst (by rw [List.length_map]; exact hl)).trans ek) (by rw [zip_snd (by rw [List.length_map]; exact hl)]; exact r1), cons m1⟩
        | dT ek r =>
          obtain ⟨ds, e1, rfl⟩ := Option.map_eq_some_iff.mp e
          obtain ⟨G, r1, m1⟩ := mapO_rep _ (fun v x d => frz_rep q k v x d) r e1
          have hl := mapO_len e1
          rw [List.length_map] at hl
          refine ⟨_, .dctT (.inl e2) ((zip_fst (by rw [List.length_map]; exact hl)).trans ek) (by rw [zip_snd (by rw [List.length_map]; exact hl)]; exact r1), cons m1⟩
        | ins hc ek r =>
          obtain ⟨ds, e1, rfl⟩ := Option.map_eq_some_iff.mp e
          obtain ⟨G, r1, m1⟩ := mapO_rep _ (fun v x d => frz_rep q k v x d) r e1
          have hl := mapO_len e1
          rw [List.length_map] at hl
          subst hc
          refine ⟨_, .obj e2 ((zip_fst (by rw [List.length_map]; exact hl)).trans ek) (by rw [zip_snd (by rw [List.length_map]; exact hl)]; exact r1), cons m1⟩
end

/-! ### readings -/
structure EvR (K : PySem.W.Frag) (P : Addr → Prop) (H : Hp) (μ : List Addr) (h : AH) (σ : L2.St) (env : Env) : Prop where
  len : σ.length = env.length
  get : ∀ (i : Nat) (x : Av), env[i]? = some (some x) → ∃ v, σ[i]? = some (some v) ∧ RV K H μ (Lv P μ h) v x
theorem EvR.on {K : PySem.W.Frag} {H H' : Hp} {μ μ' : List Addr} {h h' : AH} {σ : L2.St} {env : Env} (e : EvR K P H μ h σ env) (q : Rl K P μ h H) (s : Sp μ h H μ' h' H') : EvR K P H' μ' h' σ env :=
  ⟨e.len, fun i x z => (let ⟨v, h1, h2⟩ := e.get i x z; ⟨v, h1, h2.on q s⟩)⟩
def rE (K : PySem.W.Frag) (m : ME) : TE := fun σ H Q => ∃ P μ env h r h', Rl K P μ h H ∧ EvR K P H μ h σ env ∧ m env h = some (r, h') ∧ ∀ μ' H' v, Rl K P μ' h' H' → Sp μ h H μ' h' H' → RV K H' μ' (Lv P μ' h') v r → Q v H'
def rT (K : PySem.W.Frag) (m : MT) : TT := fun σ H Q => ∃ P μ env h r h', Rl K P μ h H ∧ EvR K P H μ h σ env ∧ m env h = some (r, h') ∧ ∀ μ' H', Rl K P μ' h' H' → Sp μ h H μ' h' H' → Q r H'
def rA (K : PySem.W.Frag) (m : MA) : TA := fun σ H Q => ∃ P μ env h r h', Rl K P μ h H ∧ EvR K P H μ h σ env ∧ m env h = some (r, h') ∧ ∀ μ' H' vs, Rl K P μ' h' H' → Sp μ h H μ' h' H' → RVs K H' μ' (Lv P μ' h') vs r → Q vs H'
def OutR (K : PySem.W.Frag) (P : Addr → Prop) (H : Hp) (μ : List Addr) (h : AH) (D : Ends) : Out → Prop
  | .nx env => ∀ σ, EvR K P H μ h σ env → D.nx σ H
  | .rt r => ∀ v, RV K H μ (Lv P μ h) v r → D.rt v H
  | .bk env => ∀ σ, EvR K P H μ h σ env → D.bk σ H
  | .ct env => ∀ σ, EvR K P H μ h σ env → D.ct σ H
def rS (K : PySem.W.Frag) (m : MS) : TS := fun D σ H => ∃ P μ env h o h', Rl K P μ h H ∧ EvR K P H μ h σ env ∧ m env h = some (o, h') ∧ ∀ μ' H', Rl K P μ' h' H' → Sp μ h H μ' h' H' → OutR K P H' μ' h' D o
def HE (X : Cx) (e : Expr) (m : ME) : Prop := PE X e (rE X.K m)
def HT (X : Cx) (e : Expr) (m : MT) : Prop := PT X e (rT X.K m)
def HW (X : Cx) (e : Expr) (m : MT) : Prop := PW X e (rT X.K m)
def HA (X : Cx) (es : List Expr) (m : MA) : Prop := PA X es (rA X.K m)
def HS (X : Cx) (s : Stmt) (m : MS) : Prop := PS X s (rS X.K m)
def HSs (X : Cx) (s : List Stmt) (m : MS) : Prop := PSs X s (rS X.K m)
section
variable {X : Cx}
theorem pe_weak {e : Expr} {t t' : TE} (h : PE X e t) (w : ∀ σ H Q, t' σ H Q → t σ H Q) : PE X e t' := ⟨fun pins s σ H Q I q => h.run pins s σ H Q I (w σ H Q q)⟩
theorem pt_weak {e : Expr} {t t' : TT} (h : PT X e t) (w : ∀ σ H Q, t' σ H Q → t σ H Q) : PT X e t' := ⟨fun pins s σ H Q I q => h.run pins s σ H Q I (w σ H Q q)⟩
theorem pw_weak {e : Expr} {t t' : TT} (h : PW X e t) (w : ∀ σ H Q, t' σ H Q → t σ H Q) : PW X e t' := ⟨fun wh pins s σ H Q I q => h.run wh pins s σ H Q I (w σ H Q q)⟩
theorem pa_weak {e : List Expr} {t t' : TA} (h : PA X e t) (w : ∀ σ H Q, t' σ H Q → t σ H Q) : PA X e t' := ⟨fun pos pins s σ H Q I q => h.run pos pins s σ H Q I (w σ H Q q)⟩
theorem ps_weak {e : Stmt} {t t' : TS} (h : PS X e t) (w : ∀ D σ H, t' D σ H → t D σ H) : PS X e t' := ⟨fun pins s σ H Q I q => h.run pins s σ H Q I (w Q σ H q)⟩
theorem pss_weak {e : List Stmt} {t t' : TS} (h : PSs X e t) (w : ∀ D σ H, t' D σ H → t D σ H) : PSs X e t' := ⟨fun pins s σ H Q I q => h.run pins s σ H Q I (w Q σ H q)⟩
end
theorem bs {α β : Type} {m : Option α} {f : α → Option β} {r : β} (h : m.bind f = some r) : ∃ x, m = some x ∧ f x = some r := by
  cases m with
  | none => cases h
  | some x => exact ⟨x, rfl, h⟩
theorem ifs {α : Type} {C : Prop} [Decidable C] {m : Option α} {r : α} (h : (if C then m else none) = some r) : C ∧ m = some r := by
  by_cases c : C
  · rw [if_pos c] at h; exact ⟨c, h⟩
  · rw [if_neg c] at h; cases h

/-! ### expressions -/
section
variable {X : Cx} {K : PySem.W.Frag} {a b c e : Expr} {es : List Expr} {pos : Pos} {ma mb mc me : ME} {ta tb : MT} {mr : MA}
def vVar (i : Nat) : ME := fun env h => match env[i]? with
  | some (some x) => some (x, h)
  | _ => none
theorem he_var {i : Nat} {x : Str} (p : PE X (.Name x pos) (tVar i)) : HE X (.Name x pos) (vVar i) := pe_weak p fun σ H Q ⟨P, μ, env, h, r, h', rl, er, e, q⟩ => by
  unfold vVar at e
  split at e
  · rename_i x hx
    cases e
    obtain ⟨v, h1, h2⟩ := er.get i _ hx
    exact ⟨v, h1, q μ H v rl .refl h2⟩
  · cases e
def vC (d : Dv) : ME := fun _ h => some (.d d, h)
theorem he_c {v : V} {d : Dv} (hr : ∀ K H, Rep K H v d []) (p : PE X e (tC v)) : HE X e (vC d) := pe_weak p fun σ H Q ⟨P, μ, env, h, r, h', rl, er, e, q⟩ => by
  cases e
  exact q μ H v rl .refl (.d (hr _ _) fun a m => (nomatch m))
theorem he_int {i j} : HE X (.Constant (.int i) j pos) (vC (.int i)) := he_c (fun _ _ => .int i) pe_int
theorem he_bl {i j} : HE X (.Constant (.bool i) j pos) (vC (.bl i)) := he_c (fun _ _ => .bl i) pe_bl
theorem he_str {i j} : HE X (.Constant (.str i) j pos) (vC (.str i)) := he_c (fun _ _ => .str i) pe_str
theorem he_non {j} : HE X (.Constant .none j pos) (vC .non) := he_c (fun _ _ => .non) pe_non
/-- from a value's reading -/
theorem rE_to {m : ME} {σ : L2.St} {H : Hp} {Q : VK} {μ : List Addr} {env : Env} {h h1 : AH} {r : Av} (rl : Rl K P μ h H) (er : EvR K P H μ h σ env) (e : m env h = some (r, h1))
    (q : ∀ μ1 H1 v, Rl K P μ1 h1 H1 → Sp μ h H μ1 h1 H1 → EvR K P H1 μ1 h1 σ env → RV K H1 μ1 (Lv P μ1 h1) v r → Q v H1) : rE K m σ H Q :=
  ⟨P, μ, env, h, r, h1, rl, er, e, fun μ1 H1 v r1 s1 v1 => q μ1 H1 v r1 s1 (er.on rl s1) v1⟩
theorem rT_to {m : MT} {σ : L2.St} {H : Hp} {Q : Bool → Hp → Prop} {μ : List Addr} {env : Env} {h h1 : AH} {r : Bool} (rl : Rl K P μ h H) (er : EvR K P H μ h σ env) (e : m env h = some (r, h1))
    (q : ∀ μ1 H1, Rl K P μ1 h1 H1 → Sp μ h H μ1 h1 H1 → EvR K P H1 μ1 h1 σ env → Q r H1) : rT K m σ H Q :=
  ⟨P, μ, env, h, r, h1, rl, er, e, fun μ1 H1 r1 s1 => q μ1 H1 r1 s1 (er.on rl s1)⟩
theorem rA_to {m : MA} {σ : L2.St} {H : Hp} {Q : List V → Hp → Prop} {μ : List Addr} {env : Env} {h h1 : AH} {r : List Av} (rl : Rl K P μ h H) (er : EvR K P H μ h σ env) (e : m env h = some (r, h1))
    (q : ∀ μ1 H1 vs, Rl K P μ1 h1 H1 → Sp μ h H μ1 h1 H1 → EvR K P H1 μ1 h1 σ env → RVs K H1 μ1 (Lv P μ1 h1) vs r → Q vs H1) : rA K m σ H Q :=
  ⟨P, μ, env, h, r, h1, rl, er, e, fun μ1 H1 v r1 s1 v1 => q μ1 H1 v r1 s1 (er.on rl s1) v1⟩
/-- what an operator on trees hands out -/
theorem out_d {H H' : Hp} {μ : List Addr} {h : AH} {z : V} {d : Dv} {G1 Gz : List Addr} {nw : Bool} (rl : Rl K P μ h H) (sm : Same H H') (r : Rep K H' z d Gz) (c : (d.pur || (nw && d.sh)) = true)
    (new : nw = true → d.sh = true → Gz.Nodup ∧ ∀ a ∈ Gz, H a = none ∧ ∃ o, H' a = some o ∧ Fd.Mu o) : RV K H' μ (Lv P μ h) z (.d d) := by
  refine .d r fun a m z => ?_
  rcases Bool.or_eq_true_iff.mp c with p | p
  · rw [r.purG p] at m; cases m
  · obtain ⟨n1, n2⟩ := Bool.and_eq_true_iff.mp p
    exact rl.has z ((new n1 n2).2 a m).1
def opM (nw : Bool) (f : Dv → Dv → Option Dv) (a b : Av) (h : AH) : Option (Av × AH) :=
  (snap 8 h a).bind fun x => (snap 8 h b).bind fun y => (f x y).bind fun d => if (d.pur || (nw && d.sh)) = true then some (.d d, h) else none
theorem opM_ok {r : R2} {nw : Bool} {f : Dv → Dv → Option Dv} (o : OpD K r nw f) {H : Hp} {μ : List Addr} {h h' : AH} {x y z : Av} {v u : V} {Q : VK} (rl : Rl K P μ h H) (r1 : RV K H μ (Lv P μ h) v x) (r2 : RV K H μ (Lv P μ h) u y) (e : opM nw f x y h = some (z, h'))
    (q : ∀ H' w, h' = h → Rl K P μ h H' → Sp μ h H μ h H' → RV K H' μ (Lv P μ h) w z → Q w H') : r v u H Q := by
  obtain ⟨d1, e1, e⟩ := bs e
  obtain ⟨d2, e2, e⟩ := bs e
  obtain ⟨d, e3, e⟩ := bs e
  obtain ⟨c, e⟩ := ifs e
  cases e
  obtain ⟨G1, p1, _⟩ := snap_rep rl 8 _ _ _ r1 e1
  obtain ⟨G2, p2, _⟩ := snap_rep rl 8 _ _ _ r2 e2
  exact o H v u d1 d2 d G1 G2 Q p1 p2 e3 fun w H' Gz sm rz _ new => q H' w rfl (rl.same sm) (.same rl sm) (out_d (G1 := G1) rl sm rz c new)
def vOp (nw : Bool) (f : Dv → Dv → Option Dv) (ma mb : ME) : ME := fun env h => (ma env h).bind fun (a, h1) => (mb env h1).bind fun (b, h2) => opM nw f a b h2
theorem tOp_ok {r : R2} {nw : Bool} {f : Dv → Dv → Option Dv} (o : OpD K r nw f) {σ : L2.St} {H : Hp} {Q : VK} (h : rE K (vOp nw f ma mb) σ H Q) : tOp r (rE K ma) (rE K mb) σ H Q := by
  obtain ⟨P, μ, env, h, z, h', rl, er, e, q⟩ := h
  obtain ⟨⟨x, h1⟩, e1, e⟩ := bs e
  obtain ⟨⟨y, h2⟩, e2, e⟩ := bs e
  refine rE_to rl er e1 fun μ1 H1 v rl1 s1 er1 v1 => rE_to rl1 er1 e2 fun μ2 H2 u rl2 s2 er2 v2 => ?_
  exact opM_ok o rl2 (v1.on rl1 s2) v2 e fun H3 w hh rl3 s3 rw_ => by subst hh; exact q μ2 H3 w rl3 ((s1.trans s2).trans s3) rw_
theorem he_op {op : Operator} {r : R2} {nw : Bool} {f : Dv → Dv → Option Dv} (ho : OpR X (binaryOp op) r) (o : OpD X.K r nw f) (ha : HE X a ma) (hb : HE X b mb) : HE X (.BinOp a op b pos) (vOp nw f ma mb) :=
  pe_weak (pe_op ho ha hb) fun σ H Q h => tOp_ok o h
theorem he_cmp {op : CmpOp} {r : R2} {nw : Bool} {f : Dv → Dv → Option Dv} (ho : OpR X (compareOp op) r) (o : OpD X.K r nw f) (ha : HE X a ma) (hb : HE X b mb) (hm : behindInMarks op b = false) : HE X (.Compare a [op] [b] pos) (vOp nw f ma mb) :=
  pe_weak (pe_cmpR ho ha hb hm) fun σ H Q h => tOp_ok o h
/-- a value as a truth -/
def tvB (m : ME) : MT := fun env h => (m env h).bind fun (a, h1) => match a with
  | .d (.bl b) => some (b, h1)
  | _ => none
theorem tB_ok {m : ME} {σ : L2.St} {H : Hp} {Q : Bool → Hp → Prop} (h : rT K (tvB m) σ H Q) : tB (rE K m) σ H Q := by
  obtain ⟨P, μ, env, h, z, h', rl, er, e, q⟩ := h
  obtain ⟨⟨x, h1⟩, e1, e⟩ := bs e
  refine rE_to rl er e1 fun μ1 H1 v rl1 s1 er1 v1 => ?_
  cases v1 with
  | @d v x G r n =>
    cases x <;> first | cases e | skip
    cases r
    exact ⟨_, rfl, q μ1 H1 rl1 s1⟩
  | ref _ => cases e
  | tup _ _ => cases e
  | lst _ _ _ => cases e
theorem ht_cmp {op : CmpOp} {r : R2} {nw : Bool} {f : Dv → Dv → Option Dv} (ho : OpR X (compareOp op) r) (o : OpD X.K r nw f) (ha : HE X a ma) (hb : HE X b mb) (hm : behindInMarks op b = false) : HT X (.Compare a [op] [b] pos) (tvB (vOp nw f ma mb)) := by
  refine pt_weak (pt_cmpR ho ha hb hm) fun σ H Q h => ?_
  have := tB_ok (m := vOp nw f ma mb) h
  obtain ⟨P, μ, env, h, z, h', rl, er, e, q⟩ := this
  exact tOp_ok o ⟨P, μ, env, h, z, h', rl, er, e, q⟩
theorem ht_val (p : HE X e me) (he : ∀ whole, isTrue e X.env whole = (do let v ← whole; standAt e.pos; holding [v] (truthy v)) := by intro _; rfl) : HT X e (tvB me) :=
  pt_weak (pt_val p he) fun σ H Q h => tB_ok h
def tvAnd (a b : MT) : MT := fun env h => (a env h).bind fun (x, h1) => if x = true then b env h1 else some (false, h1)
def tvOr (a b : MT) : MT := fun env h => (a env h).bind fun (x, h1) => if x = true then some (true, h1) else b env h1
def tvNot (a : MT) : MT := fun env h => (a env h).bind fun (x, h1) => some (!x, h1)
theorem tAnd_ok {σ : L2.St} {H : Hp} {Q : Bool → Hp → Prop} (h : rT K (tvAnd ta tb) σ H Q) : tAnd (rT K ta) (rT K tb) σ H Q := by
  obtain ⟨P, μ, env, h, z, h', rl, er, e, q⟩ := h
  obtain ⟨⟨x, h1⟩, e1, e⟩ := bs e
  refine rT_to rl er e1 fun μ1 H1 rl1 s1 er1 => ?_
  cases x with
  | true => exact rT_to rl1 er1 e fun μ2 H2 rl2 s2 er2 => q μ2 H2 rl2 (s1.trans s2)
  | false => cases e; exact q μ1 H1 rl1 s1
theorem tOr_ok {σ : L2.St} {H : Hp} {Q : Bool → Hp → Prop} (h : rT K (tvOr ta tb) σ H Q) : tOr (rT K ta) (rT K tb) σ H Q := by
  obtain ⟨P, μ, env, h, z, h', rl, er, e, q⟩ := h
  obtain ⟨⟨x, h1⟩, e1, e⟩ := bs e
  refine rT_to rl er e1 fun μ1 H1 rl1 s1 er1 => ?_
  cases x with
  | false => exact rT_to rl1 er1 e fun μ2 H2 rl2 s2 er2 => q μ2 H2 rl2 (s1.trans s2)
  | true => cases e; exact q μ1 H1 rl1 s1
theorem ht_and1 (h : HT X a ta) : HW X (.BoolOp .And [a] pos) ta := pw_and1 h
theorem ht_or1 (h : HT X a ta) : HW X (.BoolOp .Or [a] pos) ta := pw_or1 h
theorem hw_and {rest : List Expr} (ha : HT X a ta) (hb : HW X (.BoolOp .And (b :: rest) pos) tb) : HW X (.BoolOp .And (a :: b :: rest) pos) (tvAnd ta tb) := pw_weak (pw_and ha hb) fun σ H Q h => tAnd_ok h
theorem hw_or {rest : List Expr} (ha : HT X a ta) (hb : HW X (.BoolOp .Or (b :: rest) pos) tb) : HW X (.BoolOp .Or (a :: b :: rest) pos) (tvOr ta tb) := pw_weak (pw_or ha hb) fun σ H Q h => tOr_ok h
theorem HW.t (h : HW X e ta) : HT X e ta := PW.pt h
theorem ht_not (h : HT X a ta) : HT X (.UnaryOp .Not a pos) (tvNot ta) := pt_weak (pt_not h) fun σ H Q ⟨P, μ, env, h, z, h', rl, er, e, q⟩ => by
  obtain ⟨⟨x, h1⟩, e1, e⟩ := bs e
  cases e
  exact rT_to rl er e1 fun μ1 H1 rl1 s1 er1 => q μ1 H1 rl1 s1
/-- a truth as a value -/
def vAnd (a b : ME) : ME := fun env h => (a env h).bind fun (x, h1) => match x with
  | .d (.bl true) => b env h1
  | .d (.bl false) => some (.d (.bl false), h1)
  | _ => none
def vOr (a b : ME) : ME := fun env h => (a env h).bind fun (x, h1) => match x with
  | .d (.bl false) => b env h1
  | .d (.bl true) => some (.d (.bl true), h1)
  | _ => none
def vNot (a : ME) : ME := fun env h => (a env h).bind fun (x, h1) => match x with
  | .d (.bl b) => some (.d (.bl !b), h1)
  | _ => none
theorem he_and {rest : List Expr} (ha : HE X a ma) (hb : HE X (.BoolOp .And (b :: rest) pos) mb) : HE X (.BoolOp .And (a :: b :: rest) pos) (vAnd ma mb) := pe_weak (pe_and ha hb) fun σ H Q ⟨P, μ, env, h, z, h', rl, er, e, q⟩ => by
  obtain ⟨⟨x, h1⟩, e1, e⟩ := bs e
  refine rE_to rl er e1 fun μ1 H1 v rl1 s1 er1 v1 => ?_
  cases v1 with
  | @d v x G r n =>
    cases x <;> first | cases e | skip
    cases r
    rename_i k
    refine ⟨k, rfl, ?_⟩
    cases k with
    | true => exact rE_to rl1 er1 e fun μ2 H2 v2 rl2 s2 er2 r2 => q μ2 H2 v2 rl2 (s1.trans s2) r2
    | false => cases e; exact q μ1 H1 _ rl1 s1 (.d (.bl _) fun a m => (nomatch m))
  | ref _ => cases e
  | tup _ _ => cases e
  | lst _ _ _ => cases e
theorem he_or {rest : List Expr} (ha : HE X a ma) (hb : HE X (.BoolOp .Or (b :: rest) pos) mb) : HE X (.BoolOp .Or (a :: b :: rest) pos) (vOr ma mb) := pe_weak (pe_or ha hb) fun σ H Q ⟨P, μ, env, h, z, h', rl, er, e, q⟩ => by
  obtain ⟨⟨x, h1⟩, e1, e⟩ := bs e
  refine rE_to rl er e1 fun μ1 H1 v rl1 s1 er1 v1 => ?_
  cases v1 with
  | @d v x G r n =>
    cases x <;> first | cases e | skip
    cases r
    rename_i k
    refine ⟨k, rfl, ?_⟩
    cases k with
    | false => exact rE_to rl1 er1 e fun μ2 H2 v2 rl2 s2 er2 r2 => q μ2 H2 v2 rl2 (s1.trans s2) r2
    | true => cases e; exact q μ1 H1 _ rl1 s1 (.d (.bl _) fun a m => (nomatch m))
  | ref _ => cases e
  | tup _ _ => cases e
  | lst _ _ _ => cases e
theorem he_one {op} (h : HE X a ma) : HE X (.BoolOp op [a] pos) ma := pe_one h
theorem he_not (h : HE X a ma) : HE X (.UnaryOp .Not a pos) (vNot ma) := pe_weak (pe_not h) fun σ H Q ⟨P, μ, env, h, z, h', rl, er, e, q⟩ => by
  obtain ⟨⟨x, h1⟩, e1, e⟩ := bs e
  refine rE_to rl er e1 fun μ1 H1 v rl1 s1 er1 v1 => ?_
  cases v1 with
  | @d v x G r n =>
    cases x <;> first | cases e | skip
    cases r
    exact ⟨_, rfl, q μ1 H1 _ rl1 s1 (.d (.bl _) fun a m => (nomatch m))⟩
  | ref _ => cases e
  | tup _ _ => cases e
  | lst _ _ _ => cases e
def vIf (t : MT) (a b : ME) : ME := fun env h => (t env h).bind fun (x, h1) => if x = true then a env h1 else b env h1
theorem he_if (ht : HT X c ta) (ha : HE X a ma) (hb : HE X b mb) : HE X (.IfExp c a b pos) (vIf ta ma mb) := pe_weak (pe_ifExp ht ha hb) fun σ H Q ⟨P, μ, env, h, z, h', rl, er, e, q⟩ => by
  obtain ⟨⟨x, h1⟩, e1, e⟩ := bs e
  refine rT_to rl er e1 fun μ1 H1 rl1 s1 er1 => ?_
  cases x with
  | true => exact rE_to rl1 er1 e fun μ2 H2 v2 rl2 s2 er2 r2 => q μ2 H2 v2 rl2 (s1.trans s2) r2
  | false => exact rE_to rl1 er1 e fun μ2 H2 v2 rl2 s2 er2 r2 => q μ2 H2 v2 rl2 (s1.trans s2) r2
/-! arguments, tuples, lists -/
def aNil : MA := fun _ h => some ([], h)
def aCons (m : ME) (r : MA) : MA := fun env h => (m env h).bind fun (x, h1) => (r env h1).bind fun (xs, h2) => some (x :: xs, h2)
theorem ha_nil : HA X [] aNil := pa_weak pa_nil fun σ H Q ⟨P, μ, env, h, z, h', rl, er, e, q⟩ => by cases e; exact q μ H [] rl .refl .nil
theorem ha_cons (he : HE X e me) (hr : HA X es mr) (hs : starEach (e :: es) X.env = (false, eval e X.env) :: starEach es X.env := by rfl) : HA X (e :: es) (aCons me mr) := pa_weak (pa_cons he hr hs) fun σ H Q ⟨P, μ, env, h, z, h', rl, er, e, q⟩ => by
  obtain ⟨⟨x, h1⟩, e1, e⟩ := bs e
  obtain ⟨⟨xs, h2⟩, e2, e⟩ := bs e
  cases e
  exact rE_to rl er e1 fun μ1 H1 v rl1 s1 er1 v1 => rA_to rl1 er1 e2 fun μ2 H2 vs rl2 s2 er2 v2 => q μ2 H2 _ rl2 (s1.trans s2) (.cons (v1.on rl1 s2) v2)
/-- all are trees -/
def allD : List Av → Option (List Dv)
  | [] => some []
  | .d x :: xs => (allD xs).map (x :: ·)
  | _ :: _ => none
theorem allD_eq : ∀ {xs : List Av} {ds : List Dv}, allD xs = some ds → xs = ds.map .d
  | [], _, e => by cases e; rfl
  | .d x :: xs, _, e => by
    obtain ⟨ds, e1, rfl⟩ := Option.map_eq_some_iff.mp e
    rw [allD_eq e1]; rfl
  | .ref _ :: _, _, e => by cases e
  | .tup _ :: _, _, e => by cases e
  | .lst _ :: _, _, e => by cases e
def mkT (xs : List Av) : Av := match allD xs with
  | some ds => .d (.tup ds)
  | none => .tup xs
def mkL (xs : List Av) : Av := match allD xs with
  | some ds => .d (.lst ds)
  | none => .lst xs
theorem allD_map0 : ∀ {ds : List Dv}, allD (ds.map .d) = some ds
  | [] => rfl
  | d :: ds => by
    rw [List.map_cons]
    unfold allD
    rw [allD_map0]; rfl
theorem mkT_rv {H : Hp} {μ : List Addr} {L : Addr → Prop} {a : Addr} {vs : List V} {xs : List Av} (ht : Fd.TqT K H a vs) (r : RVs K H μ L vs xs) : RV K H μ L (.ref a) (mkT xs) := by
  unfold mkT
  split
  · rename_i ds e
    rw [allD_eq e] at r
    obtain ⟨G, r1, m⟩ := r.ds
    exact .d (.tup ht r1) m
  · rename_i e
    refine .tup ⟨ht, fun ds e2 => ?_⟩ r
    rw [e2, allD_map0] at e
    cases e
theorem mkL_rv {H : Hp} {μ : List Addr} {L : Addr → Prop} {a : Addr} {vs : List V} {xs : List Av} (ht : H a = some (.lst vs)) (n : ¬ L a) (r : RVs K H μ L vs xs) : RV K H μ L (.ref a) (mkL xs) := by
  unfold mkL
  split
  · rename_i ds e
    rw [allD_eq e] at r
    obtain ⟨G, r1, m⟩ := r.ds
    exact .d (.lst ht r1) fun x z => (List.mem_cons.mp z).elim (fun y => by rw [y]; exact n) (m x)
  · exact .lst ht n r
def vTup (r : MA) : ME := fun env h => (r env h).bind fun (xs, h1) => if xs.length ≤ sizeLine then some (mkT xs, h1) else none
theorem he_tup {x1} (hr : HA X es mr) : HE X (.Tuple es x1 pos) (vTup mr) := pe_weak (pe_tup hr) fun σ H Q ⟨P, μ, env, h, z, h', rl, er, e, q⟩ => by
  obtain ⟨⟨xs, h1⟩, e1, e⟩ := bs e
  obtain ⟨c, e⟩ := ifs e
  cases e
  refine rA_to rl er e1 fun μ1 H1 vs rl1 s1 er1 v1 => ⟨by rw [v1.len]; exact c, fun p hp => ?_⟩
  have sm : Same H1 (upd H1 p (.tup vs)) := same_new hp
  exact q μ1 _ _ (rl1.same sm) (s1.trans (.same rl1 sm)) (mkT_rv (.inl upd_same) (v1.on rl1 (.same rl1 sm)))
/-- a list that nobody changes; a list in a cell -/
def vLstF (r : MA) : ME := fun env h => (r env h).bind fun (xs, h1) => if xs.length ≤ sizeLine then some (mkL xs, h1) else none
def vLstC (r : MA) : ME := fun env h => (r env h).bind fun (xs, h1) => if xs.length ≤ sizeLine then some (.ref h1.length, h1 ++ [.lv (.lst xs)]) else none
theorem he_lstF (hr : HA X es mr) : HE X (.List es pos) (vLstF mr) := pe_weak (pe_lst hr) fun σ H Q ⟨P, μ, env, h, z, h', rl, er, e, q⟩ => by
  obtain ⟨⟨xs, h1⟩, e1, e⟩ := bs e
  obtain ⟨c, e⟩ := ifs e
  cases e
  refine rA_to rl er e1 fun μ1 H1 vs rl1 s1 er1 v1 => ⟨by rw [v1.len]; exact c, fun p hp => ?_⟩
  have sm : Same H1 (upd H1 p (.lst vs)) := same_new hp
  exact q μ1 _ _ (rl1.same sm) (s1.trans (.same rl1 sm)) (mkL_rv upd_same (fun z => rl1.has z hp) (v1.on rl1 (.same rl1 sm)))
theorem ref_new {h : AH} {H : Hp} {μ : List Addr} {p : Addr} {L : Addr → Prop} {H' : Hp} (rl : Rl K P μ h H) : RV K H' (μ ++ [p]) L (.ref p) (.ref h.length) := .ref (by rw [← rl.len, List.getElem?_append_right (Nat.le_refl _), Nat.sub_self]; rfl)
theorem he_lstC (hr : HA X es mr) : HE X (.List es pos) (vLstC mr) := pe_weak (pe_lst hr) fun σ H Q ⟨P, μ, env, h, z, h', rl, er, e, q⟩ => by
  obtain ⟨⟨xs, h1⟩, e1, e⟩ := bs e
  obtain ⟨c, e⟩ := ifs e
  cases e
  refine rA_to rl er e1 fun μ1 H1 vs rl1 s1 er1 v1 => ⟨by rw [v1.len]; exact c, fun p hp => ?_⟩
  obtain ⟨rl2, s2⟩ := rl1.new hp (.lst v1)
  exact q _ _ _ rl2 (s1.trans s2) (ref_new rl1)
end
end Fh
namespace Fh
open PySem PySem.Spec PyProof.Rows L2
open Fd (Dv Rep Reps SqF same_new OpD CallD UnD PE_or PT_or PS_or Cal)
variable {P : Addr → Prop}

/-! ### statements -/
def sNext : MS := fun env h => some (.nx env, h)
def sBrk : MS := fun env h => some (.bk env, h)
def sCont : MS := fun env h => some (.ct env, h)
def sSeq (m n : MS) : MS := fun env h => (m env h).bind fun (o, h1) => match o with
  | .nx env1 => n env1 h1
  | o => some (o, h1)
def sIf (t : MT) (m n : MS) : MS := fun env h => (t env h).bind fun (b, h1) => if b = true then m env h1 else n env h1
def sRet (m : ME) : MS := fun env h => (m env h).bind fun (v, h1) => some (.rt v, h1)
def sRetN : MS := fun _ h => some (.rt (.d .non), h)
def sDrop (m : ME) : MS := fun env h => (m env h).bind fun (_, h1) => some (.nx env, h1)
section
variable {K : PySem.W.Frag} {X : Cx}
theorem rS_to {m : MS} {σ : L2.St} {H : Hp} {D : Ends} {μ : List Addr} {env : Env} {h h1 : AH} {o : Out} (rl : Rl K P μ h H) (er : EvR K P H μ h σ env) (e : m env h = some (o, h1))
    (q : ∀ μ1 H1, Rl K P μ1 h1 H1 → Sp μ h H μ1 h1 H1 → OutR K P H1 μ1 h1 D o) : rS K m D σ H := ⟨P, μ, env, h, o, h1, rl, er, e, q⟩
theorem OutR.mono {H : Hp} {μ : List Addr} {h : AH} {D D' : Ends} {o : Out} (r : OutR K P H μ h D o) (n : ∀ σ H, D.nx σ H → D'.nx σ H) (t : ∀ v H, D.rt v H → D'.rt v H) (b : ∀ σ H, D.bk σ H → D'.bk σ H) (c : ∀ σ H, D.ct σ H → D'.ct σ H) : OutR K P H μ h D' o := by
  cases o with
  | nx e => exact fun σ z => n σ H (r σ z)
  | rt v => exact fun u z => t u H (r u z)
  | bk e => exact fun σ z => b σ H (r σ z)
  | ct e => exact fun σ z => c σ H (r σ z)
theorem hss_nil : HSs X [] sNext := pss_weak pss_nil fun D σ H ⟨P, μ, env, h, o, h', rl, er, e, q⟩ => by cases e; exact q μ H rl .refl σ er
theorem hs_pass {pos : Pos} : HS X (.Pass pos) sNext := ps_weak ps_pass fun D σ H ⟨P, μ, env, h, o, h', rl, er, e, q⟩ => by cases e; exact q μ H rl .refl σ er
theorem hs_break {pos : Pos} : HS X (.Break pos) sBrk := ps_weak ps_break fun D σ H ⟨P, μ, env, h, o, h', rl, er, e, q⟩ => by cases e; exact q μ H rl .refl σ er
theorem hs_continue {pos : Pos} : HS X (.Continue pos) sCont := ps_weak ps_continue fun D σ H ⟨P, μ, env, h, o, h', rl, er, e, q⟩ => by cases e; exact q μ H rl .refl σ er
theorem hss_cons {s : Stmt} {r : List Stmt} {m n : MS} (h1 : HS X s m) (h2 : HSs X r n) : HSs X (s :: r) (sSeq m n) := pss_weak (pss_cons h1 h2) fun D σ H ⟨P, μ, env, h, o, h', rl, er, e, q⟩ => by
  obtain ⟨⟨o1, h1⟩, e1, e⟩ := bs e
  refine rS_to rl er e1 fun μ1 H1 rl1 s1 => ?_
  cases o1 with
  | nx env1 => exact fun σ1 er1 => rS_to rl1 er1 e fun μ2 H2 rl2 s2 => q μ2 H2 rl2 (s1.trans s2)
  | rt v => cases e; exact q μ1 H1 rl1 s1
  | bk v => cases e; exact q μ1 H1 rl1 s1
  | ct v => cases e; exact q μ1 H1 rl1 s1
theorem hss_one {s : Stmt} {m : MS} (h1 : HS X s m) : HSs X [s] m := pss_one h1
theorem hs_if {c : Expr} {a b : List Stmt} {pos : Pos} {t : MT} {m n : MS} (hc : HT X c t) (ha : HSs X a m) (hb : HSs X b n) : HS X (.If c a b pos) (sIf t m n) := ps_weak (ps_if hc ha hb) fun D σ H ⟨P, μ, env, h, o, h', rl, er, e, q⟩ => by
  obtain ⟨⟨x, h1⟩, e1, e⟩ := bs e
  refine rT_to rl er e1 fun μ1 H1 rl1 s1 er1 => ?_
  cases x with
  | true => exact rS_to rl1 er1 e fun μ2 H2 rl2 s2 => q μ2 H2 rl2 (s1.trans s2)
  | false => exact rS_to rl1 er1 e fun μ2 H2 rl2 s2 => q μ2 H2 rl2 (s1.trans s2)
theorem hs_ret {e : Expr} {pos : Pos} {m : ME} (he : HE X e m) : HS X (.Return (some e) pos) (sRet m) := ps_weak (ps_ret he) fun D σ H ⟨P, μ, env, h, o, h', rl, er, e, q⟩ => by
  obtain ⟨⟨x, h1⟩, e1, e⟩ := bs e
  cases e
  exact rE_to rl er e1 fun μ1 H1 v rl1 s1 er1 r1 => q μ1 H1 rl1 s1 v r1
theorem hs_retN {pos : Pos} : HS X (.Return none pos) sRetN := ps_weak ps_retN fun D σ H ⟨P, μ, env, h, o, h', rl, er, e, q⟩ => by cases e; exact q μ H rl .refl .non (.d .non fun a m => (nomatch m))
theorem hs_expr {e : Expr} {pos : Pos} {m : ME} (he : HE X e m) (hs : swapsWith e none pos.line X.env = pure false := by rfl) : HS X (.Expr e pos) (sDrop m) := ps_weak (ps_expr he hs) fun D σ H ⟨P, μ, env, h, o, h', rl, er, e, q⟩ => by
  obtain ⟨⟨x, h1⟩, e1, e⟩ := bs e
  cases e
  exact rE_to rl er e1 fun μ1 H1 v rl1 s1 er1 r1 => q μ1 H1 rl1 s1 σ er1
theorem hs_doc {x j pos pos'} : HS X (.Expr (.Constant (.str x) j pos) pos') sNext := ps_weak ps_doc fun D σ H ⟨P, μ, env, h, o, h', rl, er, e, q⟩ => by cases e; exact q μ H rl .refl σ er

/-! ### targets -/
abbrev MG := Av → Env → AH → Option (Env × AH)
abbrev MGs := List Av → Env → AH → Option (Env × AH)
def rG (K : PySem.W.Frag) (ws : List Nat) (g : MG) : TG := fun v σ H Q => ∃ P μ env h x env' h', Rl K P μ h H ∧ EvR K P H μ h σ env ∧ RV K H μ (Lv P μ h) v x ∧ g x env h = some (env', h') ∧
  ∀ μ' H' σ', Rl K P μ' h' H' → Sp μ h H μ' h' H' → EvR K P H' μ' h' σ' env' → σ'.length = σ.length → (∀ j, j ∉ ws → σ'[j]? = σ[j]?) → Q σ' H'
def rGs (K : PySem.W.Frag) (ws : List Nat) (g : MGs) : TGs := fun vs σ H Q => ∃ P μ env h xs env' h', Rl K P μ h H ∧ EvR K P H μ h σ env ∧ RVs K H μ (Lv P μ h) vs xs ∧ g xs env h = some (env', h') ∧
  ∀ μ' H' σ', Rl K P μ' h' H' → Sp μ h H μ' h' H' → EvR K P H' μ' h' σ' env' → σ'.length = σ.length → (∀ j, j ∉ ws → σ'[j]? = σ[j]?) → Q σ' H'
def HG (X : Cx) (e : Expr) (ws : List Nat) (g : MG) : Prop := PG X e (rG X.K ws g)
def HGs (X : Cx) (e : List Expr) (ws : List Nat) (g : MGs) : Prop := PGs X e (rGs X.K ws g)
theorem pg_weak {e : Expr} {t t' : TG} (h : PG X e t) (w : ∀ v σ H Q, t' v σ H Q → t v σ H Q) : PG X e t' := ⟨fun pins s σ H u v Q I r q => h.run pins s σ H u v Q I r (w _ _ _ _ q)⟩
theorem pgs_weak {e : List Expr} {t t' : TGs} (h : PGs X e t) (w : ∀ v σ H Q, t' v σ H Q → t v σ H Q) : PGs X e t' := ⟨fun pins s σ H u v Q I r q => h.run pins s σ H u v Q I r (w _ _ _ _ q)⟩
theorem EvR.set {H : Hp} {μ : List Addr} {h : AH} {σ : L2.St} {env : Env} {i : Nat} {v : V} {x : Av} (e : EvR K P H μ h σ env) (r : RV K H μ (Lv P μ h) v x) : EvR K P H μ h (σ.set i (some v)) (env.set i (some x)) := by
  refine ⟨by rw [List.length_set, List.length_set]; exact e.len, fun j y hy => ?_⟩
  by_cases z : i = j
  · subst z
    have hlt : i < (env.set i (some x)).length := (List.getElem?_eq_some_iff.mp hy).1
    rw [List.length_set] at hlt
    rw [List.getElem?_set_self hlt] at hy
    cases hy
    exact ⟨v, List.getElem?_set_self (by rw [e.len]; exact hlt), r⟩
  · rw [List.getElem?_set_ne z] at hy
    rw [List.getElem?_set_ne z]
    exact e.get j y hy
def gNm (i : Nat) : MG := fun x env h => some (env.set i (some x), h)
theorem hg_name {i : Nat} {e : Expr} (p : PG X e (gName i)) : HG X e [i] (gNm i) := pg_weak p fun v σ H Q ⟨P, μ, env, h, x, env', h', rl, er, rv, e, q⟩ => by
  cases e
  exact q μ H _ rl .refl (er.set rv) List.length_set fun j n => List.getElem?_set_ne fun z => n (by rw [z]; exact List.mem_cons_self)
def gNl : MGs := fun xs env h => match xs with
  | [] => some (env, h)
  | _ => none
def gCs (g : MG) (r : MGs) : MGs := fun xs env h => match xs with
  | x :: xs => (g x env h).bind fun (env1, h1) => r xs env1 h1
  | [] => none
theorem hgs_nil : HGs X [] [] gNl := pgs_weak pgs_nil fun vs σ H Q ⟨P, μ, env, h, xs, env', h', rl, er, rv, e, q⟩ => by
  cases rv with
  | nil => cases e; exact ⟨rfl, q μ H σ rl .refl er rfl fun _ _ => rfl⟩
  | cons _ _ => cases e
theorem hgs_cons {e : Expr} {es : List Expr} {ws ws' : List Nat} {g : MG} {r : MGs} (h1 : HG X e ws g) (h2 : HGs X es ws' r) (hs : List.map (fun x => x.snd) (assignEach (e :: es) X.env) = assign e X.env :: List.map (fun x => x.snd) (assignEach es X.env) := by rfl) : HGs X (e :: es) (ws ++ ws') (gCs g r) := pgs_weak (pgs_cons h1 h2 hs) fun vs σ H Q ⟨P, μ, env, h, xs, env', h', rl, er, rv, e, q⟩ => by
  cases rv with
  | nil => cases e
  | @cons v x vs xs r1 r2 =>
    obtain ⟨⟨env1, h1⟩, e1, e⟩ := bs e
    refine ⟨v, vs, rfl, P, μ, env, h, x, env1, h1, rl, er, r1, e1, fun μ1 H1 σ1 rl1 s1 er1 l1 o1 => ?_⟩
    refine ⟨P, μ1, env1, h1, xs, env', h', rl1, er1, r2.on rl s1, e, fun μ2 H2 σ2 rl2 s2 er2 l2 o2 => ?_⟩
    exact q μ2 H2 σ2 rl2 (s1.trans s2) er2 (l2.trans l1) fun j n => (o2 j fun z => n (List.mem_append_right _ z)).trans (o1 j fun z => n (List.mem_append_left _ z))
/-- what lies in a tuple, in a list -/
def itT : Av → Option (List Av)
  | .d (.tup ds) => some (ds.map .d)
  | .tup xs => some xs
  | _ => none
theorem itT_rv {H : Hp} {μ : List Addr} {L : Addr → Prop} {v : V} {x : Av} {xs : List Av} (r : RV K H μ L v x) (e : itT x = some xs) : ∃ a vs, v = .ref a ∧ Fd.TqT K H a vs ∧ RVs K H μ L vs xs := by
  cases r with
  | @d v x G r n =>
    cases x <;> first | cases e | skip
    cases r with
    | tup hs rs => exact ⟨_, _, rfl, hs, .of rs n⟩
  | ref _ => cases e
  | tup hs rs => cases e; exact ⟨_, _, rfl, hs.1, rs⟩
  | lst _ _ _ => cases e
def itL (h : AH) : Av → Option (List Av)
  | .d (.lst ds) => some (ds.map .d)
  | .d (.frl ns) => some (ns.map fun n => .d (.int n))
  | .lst xs => some xs
  | .ref n => match rd h n with
    | some (.lst xs) => some xs
    | _ => none
  | _ => none
theorem rvs_ints {H : Hp} {μ : List Addr} {L : Addr → Prop} : ∀ ns : List Int, RVs K H μ L (ns.map V.int) (ns.map fun n => Av.d (.int n))
  | [] => .nil
  | n :: ns => .cons (.d (.int n) fun a m => (nomatch m)) (rvs_ints ns)
theorem itL_rv {H : Hp} {μ : List Addr} {h : AH} {v : V} {x : Av} {xs : List Av} (rl : Rl K P μ h H) (r : RV K H μ (Lv P μ h) v x) (e : itL h x = some xs) : ∃ a vs, v = .ref a ∧ SqL K H a vs ∧ RVs K H μ (Lv P μ h) vs xs := by
  cases r with
  | @d v x G r n =>
    cases x <;> first | cases e | skip
    · cases r with
      | lst hs rs => exact ⟨_, _, rfl, .of hs, .of rs fun a m => n a (List.mem_cons_of_mem _ m)⟩
    · cases r with
      | frl hs => exact ⟨_, _, rfl, hs.sq, rvs_ints _⟩
  | @ref n a hm =>
    unfold itL at e
    cases hb : rd h n with
    | none => simp only [hb] at e; cases e
    | some b =>
      simp only [hb] at e
      obtain ⟨a', u, e1, e2, e3, e4⟩ := rl.rd hb
      rw [hm] at e1; cases e1
      cases e3 with
      | lst r => cases e; exact ⟨_, _, rfl, .of (e4.resolve_right fun z => nomatch z), r⟩
      | dK ek r => cases e
      | dT ek r => cases e
      | ins hc ek r => cases e
  | tup _ _ => cases e
  | lst hs _ rs => cases e; exact ⟨_, _, rfl, .of hs, rs⟩
def gTp (n : Nat) (r : MGs) : MG := fun x env h => match itT x with
  | some xs => if xs.length = n then r xs env h else none
  | none => none
def gLs (n : Nat) (r : MGs) : MG := fun x env h => match itL h x with
  | some xs => if xs.length = n then r xs env h else none
  | none => none
theorem gTp_ok {n : Nat} {ws : List Nat} {r : MGs} {v : V} {σ : L2.St} {H : Hp} {Q : L2.St → Hp → Prop} (h : rG K ws (gTp n r) v σ H Q) : gTup K n (rGs K ws r) v σ H Q := by
  obtain ⟨P, μ, env, h, x, env', h', rl, er, rv, e, q⟩ := h
  unfold gTp at e
  split at e
  · rename_i xs hx
    obtain ⟨c, e⟩ := ifs e
    obtain ⟨a, vs, rfl, hs, rs⟩ := itT_rv rv hx
    exact ⟨a, vs, rfl, hs.sq, rs.len.trans c, P, μ, env, h, xs, env', h', rl, er, rs, e, q⟩
  · cases e
theorem gLs_ok {n : Nat} {ws : List Nat} {r : MGs} {v : V} {σ : L2.St} {H : Hp} {Q : L2.St → Hp → Prop} (h : rG K ws (gLs n r) v σ H Q) : gUnl K n (rGs K ws r) v σ H Q := by
  obtain ⟨P, μ, env, h, x, env', h', rl, er, rv, e, q⟩ := h
  unfold gLs at e
  split at e
  · rename_i xs hx
    obtain ⟨c, e⟩ := ifs e
    obtain ⟨a, vs, rfl, hs, rs⟩ := itL_rv rl rv hx
    exact ⟨a, vs, rfl, hs, rs.len.trans c, P, μ, env, h, xs, env', h', rl, er, rs, e, q⟩
  · cases e
theorem hg_tup {n : Nat} {e : Expr} {es : List Expr} {ws : List Nat} {r : MGs} (w : ∀ t, PGs X es t → PG X e (gTup X.K n t)) (h : HGs X es ws r) : HG X e ws (gTp n r) := pg_weak (w _ h) fun v σ H Q q => gTp_ok q
theorem hg_unl {n : Nat} {e : Expr} {es : List Expr} {ws : List Nat} {r : MGs} (w : ∀ t, PGs X es t → PG X e (gUnl X.K n t)) (h : HGs X es ws r) : HG X e ws (gLs n r) := pg_weak (w _ h) fun v σ H Q q => gLs_ok q
def sAsg (m : ME) (g : MG) : MS := fun env h => (m env h).bind fun (v, h1) => (g v env h1).bind fun (env1, h2) => some (.nx env1, h2)
theorem sAsg_ok {m : ME} {g : MG} {ws : List Nat} {D : Ends} {σ : L2.St} {H : Hp} (h : rS K (sAsg m g) D σ H) : tAsg (rE K m) (rG K ws g) D σ H := by
  obtain ⟨P, μ, env, h, o, h', rl, er, e, q⟩ := h
  obtain ⟨⟨x, h1⟩, e1, e⟩ := bs e
  obtain ⟨⟨env1, h2⟩, e2, e⟩ := bs e
  cases e
  refine rE_to rl er e1 fun μ1 H1 v rl1 s1 er1 r1 => ?_
  exact ⟨P, μ1, env, h1, x, env1, _, rl1, er1, r1, e2, fun μ2 H2 σ2 rl2 s2 er2 _ _ => q μ2 H2 rl2 (s1.trans s2) σ2 er2⟩
theorem hs_asg {e : Expr} {s : Stmt} {m : ME} {g : MG} {ws : List Nat} (p : PS X s (tAsg (rE X.K m) (rG X.K ws g))) : HS X s (sAsg m g) := ps_weak p fun D σ H q => sAsg_ok q
/-- x = e -/
def sSet (i : Nat) (m : ME) : MS := fun env h => (m env h).bind fun (v, h1) => some (.nx (env.set i (some v)), h1)
theorem hs_set {i : Nat} {s : Stmt} {m : ME} (p : PS X s (tAsg (rE X.K m) (gName i))) : HS X s (sSet i m) := ps_weak p fun D σ H ⟨P, μ, env, h, o, h', rl, er, e, q⟩ => by
  obtain ⟨⟨x, h1⟩, e1, e⟩ := bs e
  cases e
  exact rE_to rl er e1 fun μ1 H1 v rl1 s1 er1 r1 => q μ1 H1 rl1 s1 _ (er1.set r1)

/-! ### for, while -/
/-- a cell that is walked is locked meanwhile -/
def lockL (x : Av) (h : AH) : AH × Option Nat := match x with
  | .ref n => match h[n]? with
    | some (.lv b) => (h.set n (.lk b), some n)
    | _ => (h, none)
  | _ => (h, none)
def unlk (on : Option Nat) (h : AH) : AH := match on with
  | some n => match h[n]? with
    | some (.lk b) => h.set n (.lv b)
    | _ => h
  | none => h
@[simp] theorem unlk_none {h : AH} : unlk none h = h := rfl
section
variable {H H' H1 H2 : Hp} {μ μ1 μ2 : List Addr} {h h1 h2 : AH}
theorem lv_nd {n : Nat} {nd nd0 : Nd} {a : Addr} (e : h[n]? = some nd0) (n0 : nd0 ≠ .dead) (z : Lc μ (h.set n nd) a) : Lc μ h a := by
  obtain ⟨m, nd', q1, q2, q3⟩ := z
  by_cases y : m = n
  · subst y; exact ⟨m, nd0, e, n0, q3⟩
  · rw [List.getElem?_set_ne (Ne.symm y)] at q1; exact ⟨m, nd', q1, q2, q3⟩
theorem upd_eq {H : Hp} {a : Addr} {u : HO} (e : H a = some u) : upd H a u = H := by
  funext b
  by_cases z : b = a
  · subst z; rw [upd_same, e]
  · exact upd_ne z
/-- locked without a word to the heap (a list) -/
theorem lockL_ok {x : Av} {v : V} (rl : Rl K P μ h H) (r : RV K H μ (Lv P μ h) v x) : Rl K P μ (lockL x h).1 H ∧ Sp μ h H μ (lockL x h).1 H ∧ ∀ n, (lockL x h).2 = some n → ∀ b, h[n]? ≠ some (.lk b) := by
  have triv : (lockL x h) = (h, none) → Rl K P μ (lockL x h).1 H ∧ Sp μ h H μ (lockL x h).1 H ∧ ∀ n, (lockL x h).2 = some n → ∀ b, h[n]? ≠ some (.lk b) := fun e => by
    rw [e]; exact ⟨rl, .refl, fun n z => nomatch z⟩
  cases r with
  | d _ _ => exact triv rfl
  | tup _ _ => exact triv rfl
  | lst _ _ _ => exact triv rfl
  | @ref n a hm =>
    cases q : h[n]? with
    | none => exact triv (by unfold lockL; simp only [q])
    | some nd =>
      cases nd with
      | dead => exact triv (by unfold lockL; simp only [q])
      | lk b => exact triv (by unfold lockL; simp only [q])
      | lv b =>
        have e : lockL (.ref n) h = (h.set n (.lk b), some n) := by unfold lockL; simp only [q]
        rw [e]
        obtain ⟨a', u, e1, e2, e3⟩ := rl.lv n b q
        rw [hm] at e1; cases e1
        obtain ⟨r1, r2, r3, r4⟩ := rl.put q (fun z => nomatch z) hm (nd := .lk b) (o := u) (.inr ⟨b, u, rfl, .inl rfl, e3⟩)
        rw [upd_eq e2] at r1 r2 r4
        refine ⟨r1, ⟨List.prefix_refl _, r2, r3, fun m c y z1 z2 => r4 m c y (fun z => ?_) z1 z2⟩, fun m z => ?_⟩
        · subst z; rw [q] at z1; cases z1
        · cases z; intro b' z; rw [q] at z; cases z
theorem unlk_lc {on : Option Nat} {a : Addr} (z : Lc μ (unlk on h) a) : Lc μ h a := by
  unfold unlk at z
  cases on with
  | none => exact z
  | some n =>
    dsimp only at z
    split at z
    · rename_i b q; exact lv_nd q (fun y => nomatch y) z
    · exact z
theorem unlk_lv {on : Option Nat} {a : Addr} (z : Lv P μ (unlk on h) a) : Lv P μ h a := z.imp_right unlk_lc
theorem unlk_rl {on : Option Nat} (rl : Rl K P μ h H) (hb : ∀ n b, on = some n → h[n]? = some (.lk b) → ∃ a u, μ[n]? = some a ∧ H a = some u ∧ BdR K H μ (Lv P μ h) u b) : Rl K P μ (unlk on h) H := by
  unfold unlk
  cases on with
  | none => exact rl
  | some n =>
    dsimp only
    split
    · rename_i b q
      obtain ⟨a, u, h1, h2, h3⟩ := hb n b rfl q
      obtain ⟨r1, _⟩ := rl.put q (fun z => nomatch z) h1 (nd := .lv b) (o := u) (.inl ⟨b, rfl, h3⟩)
      rw [upd_eq h2] at r1
      exact r1
    · exact rl
theorem unlk_sp {on : Option Nat} (s : Sp μ h H μ2 h2 H2) (hn : ∀ n, on = some n → ∀ b, h[n]? ≠ some (.lk b)) : Sp μ h H μ2 (unlk on h2) H2 :=
  ⟨s.pre, s.sq, fun a z => s.live a (unlk_lc z), fun m b a e1 e2 => by
    obtain ⟨z1, z2⟩ := s.lk m b a e1 e2
    refine ⟨?_, z2⟩
    unfold unlk
    cases on with
    | none => exact z1
    | some n =>
      have ne : n ≠ m := fun z => by subst z; exact hn n rfl b e1
      dsimp only
      split
      · rw [List.getElem?_set_ne ne]; exact z1
      · exact z1⟩
theorem unlk_rv {on : Option Nat} {v : V} {x : Av} (rl : Rl K P μ h H) (r : RV K H μ (Lv P μ h) v x) : RV K H μ (Lv P μ (unlk on h)) v x := r.step rl.nt .refl (List.prefix_refl _) fun _ z => .inl (unlk_lv z)
theorem unlk_er {on : Option Nat} {σ : L2.St} {env : Env} (rl : Rl K P μ h H) (e : EvR K P H μ h σ env) : EvR K P H μ (unlk on h) σ env := ⟨e.len, fun i x z => (let ⟨v, h1, h2⟩ := e.get i x z; ⟨v, h1, unlk_rv rl h2⟩)⟩
theorem unlk_out {on : Option Nat} {D : Ends} {o : Out} (rl : Rl K P μ h H) (r : OutR K P H μ (unlk on h) D o) : OutR K P H μ h D o := by
  cases o with
  | nx e => exact fun σ z => r σ (unlk_er rl z)
  | rt v => exact fun u z => r u (unlk_rv rl z)
  | bk e => exact fun σ z => r σ (unlk_er rl z)
  | ct e => exact fun σ z => r σ (unlk_er rl z)
end
abbrev MI := Env → AH → Option ((List Av × Option Nat) × AH)
def ItH (K : PySem.W.Frag) (P : Addr → Prop) (J : It) (μ : List Addr) (h : AH) (H : Hp) (items : List Av) : Prop := ∀ (P' : Addr → Prop) μ2 h2 H2, (∀ a, P' a → P a ∨ H a = none) → Rl K P' μ2 h2 H2 → Sp μ h H μ2 h2 H2 →
  J.stop items.length H2 ∧ ∀ i x, items[i]? = some x → J.go i H2 ∧ ∀ y H3, J.yld i H2 y H3 → Same H2 H3 ∧ RV K H3 μ2 (Lv P' μ2 h2) y x
/-- what is unlocked behind the walk -/
def Un1 (K : PySem.W.Frag) (P : Addr → Prop) (μ : List Addr) (h : AH) (μ1 : List Addr) (h1 : AH) (H1 : Hp) (on : Option Nat) : Prop := (∀ n, on = some n → ∀ b, h[n]? ≠ some (.lk b)) ∧ ∀ (P' : Addr → Prop) μ2 h2 H2, Rl K P' μ2 h2 H2 → Sp μ1 h1 H1 μ2 h2 H2 → Rl K P' μ2 (unlk on h2) H2
theorem un1_none {K : PySem.W.Frag} {μ μ1 : List Addr} {h h1 : AH} {H1 : Hp} : Un1 K P μ h μ1 h1 H1 none := ⟨fun _ z => (nomatch z), fun _ _ _ _ rl _ => rl⟩
theorem lockL_some {x : Av} {h : AH} {n : Nat} (e : (lockL x h).2 = some n) : ∃ b, x = .ref n ∧ h[n]? = some (.lv b) ∧ (lockL x h).1 = h.set n (.lk b) := by
  unfold lockL at e ⊢
  split at e
  · rename_i m
    split at e
    · rename_i b q
      cases e
      refine ⟨b, rfl, q, ?_⟩
      simp only [q]
    · cases e
  · cases e
theorem un1_lock {K : PySem.W.Frag} {μ μ1 : List Addr} {h h1 : AH} {H H1 : Hp} {x : Av} {v : V} {xs : List Av} (rl : Rl K P μ h H) (rl1 : Rl K P μ1 h1 H1) (s : Sp μ h H μ1 h1 H1) (hL : itL h1 x = some xs) : Un1 K P μ h μ1 (lockL x h1).1 H1 (lockL x h1).2 := by
  refine ⟨fun n e b z => ?_, fun P' μ2 h2 H2 rl2 s2 => ?_⟩
  · obtain ⟨b1, _, q, _⟩ := lockL_some e
    obtain ⟨a, hm⟩ := rl.lt z
    have := (s.lk n b a z hm).1
    rw [q] at this; cases this
  · refine unlk_rl rl2 fun n b e q => ?_
    obtain ⟨b1, hx, q1, el⟩ := lockL_some e
    subst hx
    have hb1 : b1 = .lst xs := by
      unfold itL rd at hL
      simp only [q1] at hL
      split at hL
      · rename_i ys z
        cases z; cases hL; rfl
      · cases hL
    subst hb1
    obtain ⟨a, hm⟩ := rl1.lt q1
    have hn : n < h1.length := (List.getElem?_eq_some_iff.mp q1).1
    have y1 := (s2.lk n (.lst xs) a (by rw [el]; exact List.getElem?_set_self hn) hm).1
    rw [q] at y1; cases y1
    obtain ⟨a2, u2, x1, x2, x3⟩ := rl2.lk n _ q
    exact ⟨a2, u2, x1, x2.resolve_right fun z => (nomatch z.1), x3⟩
def rI (K : PySem.W.Frag) (m : MI) : TI := fun σ H R => ∃ P μ env h items on h', Rl K P μ h H ∧ EvR K P H μ h σ env ∧ m env h = some ((items, on), h') ∧ ∀ μ' H' J, Rl K P μ' h' H' → Sp μ h H μ' h' H' → ItH K P J μ' h' H' items → Un1 K P μ h μ' h' H' on → R J H'
def HI (X : Cx) (tg e : Expr) (m : MI) : Prop := PI X tg e (rI X.K m)
theorem pi_weak {tg e : Expr} {t t' : TI} (h : PI X tg e t) (w : ∀ σ H R, t' σ H R → t σ H R) : PI X tg e t' := ⟨fun pins s σ H R I q => h.run pins s σ H R I (w σ H R q)⟩
def runFor (g : MG) (body : MS) : List Av → Env → AH → Option (Out × AH)
  | [], env, h => some (.nx env, h)
  | x :: xs, env, h => (g x env h).bind fun (env1, h1) => (body env1 h1).bind fun (o, h2) => match o with
      | .nx e => runFor g body xs e h2
      | .ct e => runFor g body xs e h2
      | .bk e => some (.nx e, h2)
      | .rt v => some (.rt v, h2)
def sFor (mi : MI) (g : MG) (body : MS) : MS := fun env h => (mi env h).bind fun ((p, on), h1) => (runFor g body p env h1).bind fun (o, h2) => some (o, unlk on h2)
theorem for_core {J : It} {g : MG} {ws : List Nat} {body : MS} {items : List Av} {D : Ends} {σ : L2.St} {H1 : Hp} {μ1 : List Addr} {env : Env} {h1 hF : AH} {o : Out} (rl : Rl K P μ1 h1 H1) (er : EvR K P H1 μ1 h1 σ env) (it : ItH K P J μ1 h1 H1 items)
    (e : runFor g body items env h1 = some (o, hF)) (q : ∀ μ' H', Rl K P μ' hF H' → Sp μ1 h1 H1 μ' hF H' → OutR K P H' μ' hF D o) :
    ∃ W : Nat → Nat → L2.St → Hp → Prop, (∃ m, W 0 m σ H1) ∧ ∀ i m σ H, W i m σ H →
      (J.stop i H ∧ D.nx σ H) ∨ (J.go i H ∧ ∃ N : L2.St → Hp → Prop, (∀ σ' H', N σ' H' → ∃ m', m' < m ∧ W (i + 1) m' σ' H') ∧ ∀ x H', J.yld i H x H' → rG K ws g x σ H' fun σ2 H2 => rS K body { D with nx := N, ct := N, bk := D.nx } σ2 H2) := by
  refine ⟨fun i m σ' H' => m = items.length - i ∧ i ≤ items.length ∧ ∃ μ2 env2 h2, Rl K P μ2 h2 H' ∧ Sp μ1 h1 H1 μ2 h2 H' ∧ EvR K P H' μ2 h2 σ' env2 ∧ runFor g body (items.drop i) env2 h2 = some (o, hF), ⟨_, rfl, Nat.zero_le _, μ1, env, h1, rl, .refl, er, e⟩, ?_⟩
  rintro i m σ' H' ⟨rfl, hi, μ2, env2, h2, rl2, s2, er2, e2⟩
  by_cases hlt : i < items.length
  · right
    have hd : items.drop i = items[i] :: items.drop (i + 1) := List.drop_eq_getElem_cons hlt
    rw [hd] at e2
    unfold runFor at e2
    obtain ⟨⟨env3, h3⟩, g3, e2⟩ := bs e2
    obtain ⟨⟨o4, h4⟩, b4, e2⟩ := bs e2
    obtain ⟨_, turn⟩ := it P μ2 h2 H' (fun _ z => .inl z) rl2 s2
    obtain ⟨go, yl⟩ := turn i _ (List.getElem?_eq_getElem hlt)
    refine ⟨go, fun σ5 H5 => ∃ μ5 env5 h5, Rl K P μ5 h5 H5 ∧ Sp μ1 h1 H1 μ5 h5 H5 ∧ EvR K P H5 μ5 h5 σ5 env5 ∧ runFor g body (items.drop (i + 1)) env5 h5 = some (o, hF), fun σ5 H5 ⟨μ5, env5, h5, z⟩ => ⟨items.length - (i + 1), by omega, rfl, hlt, μ5, env5, h5, z⟩, fun y H3 hy => ?_⟩
    obtain ⟨sm, rv⟩ := yl y H3 hy
    refine ⟨P, μ2, env2, h2, _, env3, h3, rl2.same sm, er2.on rl2 (.same rl2 sm), rv, g3, fun μ3 H4 σ3 rl3 s3 er3 _ _ => ?_⟩
    have s13 : Sp μ1 h1 H1 μ3 h3 H4 := (s2.trans (.same rl2 sm)).trans s3
    refine rS_to rl3 er3 b4 fun μ4 H5 rl4 s4 => ?_
    have s14 := s13.trans s4
    cases o4 with
    | nx e => exact fun σ5 er5 => ⟨μ4, e, h4, rl4, s14, er5, e2⟩
    | ct e => exact fun σ5 er5 => ⟨μ4, e, h4, rl4, s14, er5, e2⟩
    | bk e => cases e2; exact q μ4 H5 rl4 s14
    | rt v => cases e2; exact q μ4 H5 rl4 s14
  · left
    have hi' : i = items.length := by omega
    subst hi'
    rw [List.drop_length] at e2
    cases e2
    exact ⟨(it P μ2 _ H' (fun _ z => .inl z) rl2 s2).1, q μ2 H' rl2 s2 σ' er2⟩
theorem tFor_ok {mi : MI} {g : MG} {ws : List Nat} {body : MS} {D : Ends} {σ : L2.St} {H : Hp} (h : rS K (sFor mi g body) D σ H) : tFor (rI K mi) (rG K ws g) (rS K body) D σ H := by
  obtain ⟨P, μ, env, h, o, h', rl, er, e, q⟩ := h
  obtain ⟨⟨⟨items, on⟩, h1⟩, e1, e⟩ := bs e
  obtain ⟨⟨o2, h2⟩, e2, e⟩ := bs e
  cases e
  refine ⟨P, μ, env, h, items, on, h1, rl, er, e1, fun μ1 H1 J rl1 s1 it un => ?_⟩
  refine for_core rl1 (er.on rl s1) it e2 fun μ2 H2 rl2 s2 => unlk_out (on := on) rl2 (q μ2 H2 (un.2 P μ2 h2 H2 rl2 s2) (unlk_sp (s1.trans s2) un.1))
theorem hs_for {tg iter : Expr} {body : List Stmt} {pos : Pos} {mi : MI} {g : MG} {ws : List Nat} {mb : MS} (hp : PassesOwn (model X.prog X.w) X.A X.env X.xe) (hc : X.calm = true) (hi : HI X tg iter mi) (hg : HG X tg ws g) (hb : HSs X body mb)
    (hs : ∀ x, foldedSetIterable iter X.env x = pure x := by intro _; rfl) : HS X (.For tg iter body [] pos) (sFor mi g mb) := ps_weak (ps_for hp hc hi hg hb hs) fun D σ H q => tFor_ok q
def runW (c : MT) (body : MS) : Nat → Env → AH → Option (Out × AH)
  | 0, _, _ => none
  | k + 1, env, h => (c env h).bind fun (b, h1) => if b = true then (body env h1).bind fun (o, h2) => match o with
      | .nx e => runW c body k e h2
      | .ct e => runW c body k e h2
      | .bk e => some (.nx e, h2)
      | .rt v => some (.rt v, h2)
    else some (.nx env, h1)
theorem runW_mono {c : MT} {body : MS} : ∀ {k j : Nat} {env : Env} {h : AH} {r : Out × AH}, k ≤ j → runW c body k env h = some r → runW c body j env h = some r
  | 0, _, _, _, _, _, e => by cases e
  | k + 1, 0, _, _, _, l, _ => by omega
  | k + 1, j + 1, env, h, r, l, e => by
    unfold runW at e ⊢
    obtain ⟨⟨b, h1⟩, e1, e⟩ := bs e
    rw [e1]
    cases b with
    | false => exact e
    | true =>
      obtain ⟨⟨o, h2⟩, e2, e⟩ := bs (show (body env h1).bind _ = some r from e)
      show (body env h1).bind _ = some r
      rw [e2]
      cases o with
      | nx e' => exact runW_mono (by omega) e
      | ct e' => exact runW_mono (by omega) e
      | bk e' => exact e
      | rt v => exact e
open Classical in
noncomputable def sWhile (c : MT) (body : MS) : MS := fun env h => if z : ∃ k r, runW c body k env h = some r then some (z.choose_spec.choose) else none
theorem sWhile_eq {c : MT} {body : MS} {env : Env} {h : AH} {r : Out × AH} : sWhile c body env h = some r ↔ ∃ k, runW c body k env h = some r := by
  unfold sWhile
  by_cases z : ∃ k r, runW c body k env h = some r
  · rw [dif_pos z]
    have hz := z.choose_spec.choose_spec
    constructor
    · intro e; cases e; exact ⟨_, hz⟩
    · rintro ⟨k, e⟩
      have h1 := runW_mono (Nat.le_max_left k z.choose) e
      have h2 := runW_mono (Nat.le_max_right k z.choose) hz
      rw [h1] at h2
      exact h2.symm
  · rw [dif_neg z]
    exact ⟨fun e => (nomatch e), fun ⟨k, e⟩ => absurd ⟨k, r, e⟩ z⟩
/-- one turn more -/
theorem sWhile_step {c : MT} {body : MS} {env : Env} {h : AH} : sWhile c body env h = (c env h).bind fun (b, h1) => if b = true then (body env h1).bind fun (o, h2) => match o with
      | .nx e => sWhile c body e h2
      | .ct e => sWhile c body e h2
      | .bk e => some (.nx e, h2)
      | .rt v => some (.rt v, h2)
    else some (.nx env, h1) := by
  refine Option.ext fun r => ?_
  rw [sWhile_eq]
  constructor
  · rintro ⟨k, e⟩
    cases k with
    | zero => cases e
    | succ k =>
      unfold runW at e
      obtain ⟨⟨b, h1⟩, e1, e⟩ := bs e
      rw [e1]
      cases b with
      | false => exact e
      | true =>
        obtain ⟨⟨o, h2⟩, e2, e⟩ := bs (show (body env h1).bind _ = some r from e)
        show (body env h1).bind _ = some r
        rw [e2]
        cases o with
        | nx e' => exact sWhile_eq.mpr ⟨k, e⟩
        | ct e' => exact sWhile_eq.mpr ⟨k, e⟩
        | bk e' => exact e
        | rt v => exact e
  · intro e
    obtain ⟨⟨b, h1⟩, e1, e⟩ := bs e
    cases b with
    | false => exact ⟨1, by unfold runW; rw [e1]; exact e⟩
    | true =>
      obtain ⟨⟨o, h2⟩, e2, e⟩ := bs (show (body env h1).bind _ = some r from e)
      cases o with
      | nx e' =>
        obtain ⟨k, e⟩ := sWhile_eq.mp e
        refine ⟨k + 1, ?_⟩
        unfold runW; rw [e1]
        show (body env h1).bind _ = some r
        rw [e2]; exact e
      | ct e' =>
        obtain ⟨k, e⟩ := sWhile_eq.mp e
        refine ⟨k + 1, ?_⟩
        unfold runW; rw [e1]
        show (body env h1).bind _ = some r
        rw [e2]; exact e
      | bk e' =>
        refine ⟨1, ?_⟩
        unfold runW; rw [e1]
        show (body env h1).bind _ = some r
        rw [e2]; exact e
      | rt e' =>
        refine ⟨1, ?_⟩
        unfold runW; rw [e1]
        show (body env h1).bind _ = some r
        rw [e2]; exact e
theorem tWhile_ok {c : MT} {body : MS} {D : Ends} {σ : L2.St} {H : Hp} (h : rS K (sWhile c body) D σ H) : tWhile (rT K c) (rS K body) D σ H := by
  obtain ⟨P, μ, env, h, o, hF, rl, er, e, q⟩ := h
  obtain ⟨k, e⟩ := sWhile_eq.mp e
  refine ⟨fun m σ' H' => ∃ μ2 env2 h2, Rl K P μ2 h2 H' ∧ Sp μ h H μ2 h2 H' ∧ EvR K P H' μ2 h2 σ' env2 ∧ runW c body m env2 h2 = some (o, hF), ⟨k, μ, env, h, rl, .refl, er, e⟩, ?_⟩
  rintro m σ' H' ⟨μ2, env2, h2, rl2, s2, er2, e2⟩
  cases m with
  | zero => cases e2
  | succ m =>
    unfold runW at e2
    obtain ⟨⟨b, h3⟩, e3, e2⟩ := bs e2
    refine rT_to rl2 er2 e3 fun μ3 H3 rl3 s3 er3 => ?_
    cases b with
    | false => cases e2; exact q μ3 H3 rl3 (s2.trans s3) σ' er3
    | true =>
      obtain ⟨⟨o4, h4⟩, e4, e2⟩ := bs (show (body env2 h3).bind _ = _ from e2)
      show ∃ N : L2.St → Hp → Prop, _
      refine ⟨fun σ5 H5 => ∃ μ5 env5 h5, Rl K P μ5 h5 H5 ∧ Sp μ h H μ5 h5 H5 ∧ EvR K P H5 μ5 h5 σ5 env5 ∧ runW c body m env5 h5 = some (o, hF), fun σ5 H5 z => ⟨m, Nat.lt_succ_self m, z⟩, ?_⟩
      refine rS_to rl3 er3 e4 fun μ4 H4 rl4 s4 => ?_
      have s14 := (s2.trans s3).trans s4
      cases o4 with
      | nx e => exact fun σ5 er5 => ⟨μ4, e, h4, rl4, s14, er5, e2⟩
      | ct e => exact fun σ5 er5 => ⟨μ4, e, h4, rl4, s14, er5, e2⟩
      | bk e => cases e2; exact q μ4 H4 rl4 s14
      | rt v => cases e2; exact q μ4 H4 rl4 s14
theorem hs_while {c : Expr} {body : List Stmt} {pos : Pos} {mc : MT} {mb : MS} (hp : PassesOwn (model X.prog X.w) X.A X.env X.xe) (hc : HT X c mc) (hb : HSs X body mb) : HS X (.While c body [] pos) (sWhile mc mb) := ps_weak (ps_while hp hc hb) fun D σ H q => tWhile_ok q
end

/-! ### defs -/
abbrev FI := List Av → AH → Option (Av × AH)
abbrev FP := List Dv → Option Dv
def runB (N n : Nat) (body : MS) : FI := fun args h => (body (args.map some ++ List.replicate (N - n) none) h).bind fun (o, h1) => match o with
  | .nx _ => some (.d .non, h1)
  | .rt v => some (v, h1)
  | _ => none
def pureF (F : FI) : FP := fun ds => (F (ds.map .d) []).bind fun (r, h) => frz 8 h r
def spI (K : PySem.W.Frag) (n : Nat) (F : FI) : L2.Sp := fun vs H Q _ => ∃ P μ h args r h', vs.length = n ∧ Rl K P μ h H ∧ RVs K H μ (Lv P μ h) vs args ∧ F args h = some (r, h') ∧ ∀ μ' H' v, Rl K P μ' h' H' → Sp μ h H μ' h' H' → RV K H' μ' (Lv P μ' h') v r → Q v H'
def spP (K : PySem.W.Frag) (n : Nat) (F : FP) : L2.Sp := fun vs H Q _ => ∃ ds G r, vs.length = n ∧ Reps K H vs ds G ∧ F ds = some r ∧ ∀ H' v G', Same H H' → Rep K H' v r G' → (∀ a ∈ G', H a = none ∧ ∃ o, H' a = some o ∧ Fd.Mu o) → Q v H'
theorem spP_I {K : PySem.W.Frag} {n : Nat} {F : FI} {vs : List V} {H : Hp} {Q : VK} {E : XK} (h : spP K n (pureF F) vs H Q E) : spI K n F vs H Q E := by
  obtain ⟨ds, G, r, hl, rr, e, q⟩ := h
  obtain ⟨⟨x, h'⟩, e1, e⟩ := bs e
  refine ⟨fun _ => False, [], [], ds.map .d, x, h', hl, .nil, .of rr fun a m => lv_nil, e1, fun μ' H' v rl' s rv => ?_⟩
  obtain ⟨G', r', m⟩ := frz_rep rl' 8 _ _ _ rv e
  exact q H' v G' (s.sq.to_same fun a => lc_nil) r' fun a ma => ⟨(s.live a (m a ma).1).resolve_left lc_nil, (m a ma).2⟩
section
variable {P : Program} {w : World} {K : PySem.W.Frag} {mg : Str → Option Value} {base : Heap}
theorem fn_I {x qual : Str} {params : Arguments} {body : List Stmt} {scope : Scope} {f : Addr} {fd : FuncData} {N ps : List Str} {k : Nat} {m : MS} (F : FunD K x qual params body scope [] [] f fd) (S : FnScope N ps scope)
    (hb : ∀ (cdv : Value) (A : Around) (outer : List PySem.Env) (s : Shared) (H : Hp) (E : XK), Room k (A.deeper (envOfC qual scope s.heap.objs.size f cdv)) → HSs (cxOf CX0 P w K mg base N qual scope f cdv A outer s H E).nox body m) :
    FnOk P w K mg base CX0 (k + 1) f fd ps (spI K ps.length (runB N.length ps.length m)) := by
  refine F.ok S (fun vs H Q E h => ?_) (fun cdv A outer s H vs Q E hr h => ?_)
  · obtain ⟨P, μ, h, args, r, h', hl, _⟩ := h; exact hl
  · obtain ⟨P, μ, h, args, r, h', hl, rl, rv, e, q⟩ := h
    refine ⟨_, (hb cdv A outer s H E hr).nox, ?_⟩
    obtain ⟨⟨o, h1⟩, e1, e⟩ := bs e
    have er : EvR K P H μ h (L2.start N vs) (args.map some ++ List.replicate (N.length - ps.length) none) := by
      refine ⟨?_, fun i x hx => ?_⟩
      · unfold L2.start
        rw [List.length_append, List.length_append, List.length_map, List.length_map, List.length_replicate, List.length_replicate, rv.len, show args.length = ps.length from rv.len.symm.trans hl]
      · by_cases hi : i < args.length
        · rw [List.getElem?_append_left (by rw [List.length_map]; exact hi), List.getElem?_map] at hx
          obtain ⟨x', h1, h2⟩ := Option.map_eq_some_iff.mp hx
          cases h2
          obtain ⟨v, h3, h4⟩ := rv.getA i _ h1
          refine ⟨v, ?_, h4⟩
          unfold L2.start
          rw [List.getElem?_append_left (by rw [List.length_map, rv.len]; exact hi), List.getElem?_map, h3]; rfl
        · rw [List.getElem?_append_right (by rw [List.length_map]; omega), List.getElem?_replicate] at hx
          split at hx <;> cases hx
    refine rS_to rl er e1 fun μ1 H1 rl1 s1 => ?_
    cases o with
    | nx e' => cases e; exact fun σ' _ => q μ1 H1 .non rl1 s1 (.d .non fun a m => (nomatch m))
    | rt v => cases e; exact fun u r => q μ1 H1 u rl1 s1 r
    | bk e' => cases e
    | ct e' => cases e
theorem fn_H {x qual : Str} {params : Arguments} {body : List Stmt} {scope : Scope} {f : Addr} {fd : FuncData} {N ps : List Str} {k nN np : Nat} {m : MS} {F' : FI} (F : FunD K x qual params body scope [] [] f fd) (S : FnScope N ps scope) (hN : N.length = nN) (hp : ps.length = np) (hF : F' = runB nN np m)
    (hb : ∀ (cdv : Value) (A : Around) (outer : List PySem.Env) (s : Shared) (H : Hp) (E : XK), Room k (A.deeper (envOfC qual scope s.heap.objs.size f cdv)) → HSs (cxOf CX0 P w K mg base N qual scope f cdv A outer s H E).nox body m) :
    FnOk P w K mg base CX0 (k + 1) f fd ps (spI K np F') := by
  subst hN hp hF
  exact fn_I F S hb
theorem FnOk.pure {f : Addr} {fd : FuncData} {ps : List Str} {k n : Nat} {CX : CXT} {F : FI} (h : FnOk P w K mg base CX k f fd ps (spI K n F)) : FnOk P w K mg base CX k f fd ps (spP K n (pureF F)) := h.imp fun vs H Q E q => spP_I q
theorem calP {k n : Nat} {x : Str} {F : FI} (c : Cal P w K mg base k x (spI K n F)) : Cal P w K mg base k x (spP K n (pureF F)) := by
  obtain ⟨f, fd, ps, h, r⟩ := c.ex
  exact ⟨f, fd, ps, FnOk.pure h, r⟩
end
/-! ### calls -/
/-- a new thing may change from now on -/
def thaw (d : Dv) (h : AH) : Option (Av × AH) := match d with
  | .lst xs => if Dv.purs xs = true then some (.ref h.length, h ++ [.lv (.lst (xs.map .d))]) else none
  | .dct kvs => if Dv.purs (kvs.map (·.2)) = true then some (.ref h.length, h ++ [.lv (.dK (kvs.map fun p => (p.1, .d p.2)))]) else none
  | .dctT kvs => if Dv.purs (kvs.map (·.2)) = true then some (.ref h.length, h ++ [.lv (.dT (kvs.map fun p => (p.1, .d p.2)))]) else none
  | d => some (.d d, h)
section
variable {K : PySem.W.Frag} {H H' : Hp} {μ : List Addr} {h h' : AH}
theorem keys_map {κ : Type} (kvs : List (κ × Dv)) : (kvs.map fun p => (p.1, Av.d p.2)).map (·.1) = kvs.map (·.1) := by rw [List.map_map]; rfl
theorem vals_map {κ : Type} (kvs : List (κ × Dv)) : (kvs.map fun p => (p.1, Av.d p.2)).map (·.2) = (kvs.map (·.2)).map .d := by rw [List.map_map, List.map_map]; rfl
theorem thaw_ok {z : V} {d : Dv} {Gz : List Addr} {x : Av} (rl : Rl K P μ h H) (sm : Same H H') (r : Rep K H' z d Gz) (nw : ∀ a ∈ Gz, H a = none ∧ ∃ o, H' a = some o ∧ Fd.Mu o) (e : thaw d h = some (x, h')) :
    ∃ μ', Rl K P μ' h' H' ∧ Sp μ h H μ' h' H' ∧ RV K H' μ' (Lv P μ' h') z x := by
  have plain : x = .d d → h' = h → ∃ μ', Rl K P μ' h' H' ∧ Sp μ h H μ' h' H' ∧ RV K H' μ' (Lv P μ' h') z x := fun e1 e2 => by
    subst e1 e2
    exact ⟨μ, rl.same sm, .same rl sm, .d r fun a m z => rl.has z (nw a m).1⟩
  have rf : ∀ {L : Addr → Prop} {p : Addr}, RV K H' (μ ++ [p]) L (.ref p) (.ref h.length) := fun {L p} => .ref (by rw [← rl.len, List.getElem?_append_right (Nat.le_refl _), Nat.sub_self]; rfl)
  cases r with
  | @lst a vs ds G ha rs =>
    obtain ⟨c, e⟩ := ifs (show (if Dv.purs ds = true then _ else _) = some (x, h') from e)
    cases e
    obtain ⟨n1, _⟩ := nw a List.mem_cons_self
    have g := rs.purG c
    obtain ⟨rl2, s2⟩ := rl.adopt (b := .lst (ds.map .d)) sm n1 ha (.lst (.of rs fun b m => by rw [g] at m; cases m))
    exact ⟨_, rl2, s2, rf⟩
  | @dct a ks des G ha ek rs =>
    obtain ⟨c, e⟩ := ifs (show (if Dv.purs (des.map (·.2)) = true then _ else _) = some (x, h') from e)
    cases e
    obtain ⟨n1, o, n2, n3⟩ := nw a List.mem_cons_self
    have ha' : H' a = some (.dK ks) := by
      rcases ha with ha | ⟨ob, ha⟩
      · exact ha
      · rw [ha] at n2; cases n2; exact n3.elim
    have g := rs.purG c
    obtain ⟨rl2, s2⟩ := rl.adopt (b := .dK (des.map fun p => (p.1, .d p.2))) sm n1 ha' (.dK ((keys_map des).trans ek) (by rw [vals_map]; exact .of rs fun b m => by rw [g] at m; cases m))
    exact ⟨_, rl2, s2, rf⟩
  | @dctT a ks des G ha ek rs =>
    obtain ⟨c, e⟩ := ifs (show (if Dv.purs (des.map (·.2)) = true then _ else _) = some (x, h') from e)
    cases e
    obtain ⟨n1, o, n2, n3⟩ := nw a List.mem_cons_self
    have ha' : H' a = some (.dT ks) := by
      rcases ha with ha | ⟨ob, ha⟩
      · exact ha
      · rw [ha] at n2; cases n2; exact n3.elim
    have g := rs.purG c
    obtain ⟨rl2, s2⟩ := rl.adopt (b := .dT (des.map fun p => (p.1, .d p.2))) sm n1 ha' (.dT ((keys_map des).trans ek) (by rw [vals_map]; exact .of rs fun b m => by rw [g] at m; cases m))
    exact ⟨_, rl2, s2, rf⟩
  | non => cases e; exact plain rfl rfl
  | bl b => cases e; exact plain rfl rfl
  | int b => cases e; exact plain rfl rfl
  | str b => cases e; exact plain rfl rfl
  | tup hs rs => cases e; exact plain rfl rfl
  | frl hs => cases e; exact plain rfl rfl
  | obj hs hk rs => cases e; exact plain rfl rfl
end
def vCallI (F : FI) (mr : MA) : ME := fun env h => (mr env h).bind fun (xs, h1) => F xs h1
def vCallP (F : FP) (mr : MA) : ME := fun env h => (mr env h).bind fun (xs, h1) => (mapO (snap 8 h1) xs).bind fun ds => (F ds).bind fun r => some (.d r, h1)
def vCallT (F : FP) (mr : MA) : ME := fun env h => (mr env h).bind fun (xs, h1) => (mapO (snap 8 h1) xs).bind fun ds => (F ds).bind fun r => thaw r h1
section
variable {X : Cx} {K : PySem.W.Frag} {x : Str} {k j n : Nat} {p pos : Pos} {e : Expr} {es : List Expr} {mr : MA}
theorem tCall_I {F : FI} {E : XK} {σ : L2.St} {H : Hp} {Q : VK} (h : rE K (vCallI F mr) σ H Q) (hn : ∀ env h xs h1, mr env h = some (xs, h1) → xs.length = n) : tCall (spI K n F) [] E (rA K mr) σ H Q := by
  obtain ⟨P, μ, env, h, r, h', rl, er, e, q⟩ := h
  obtain ⟨⟨xs, h1⟩, e1, e⟩ := bs e
  refine rA_to rl er e1 fun μ1 H1 vs rl1 s1 er1 v1 => ?_
  rw [List.append_nil]
  exact ⟨P, μ1, h1, xs, r, h', v1.len.trans (hn _ _ _ _ e1), rl1, v1, e, fun μ2 H2 v rl2 s2 r2 => q μ2 H2 v rl2 (s1.trans s2) r2⟩
theorem tCall_P {F : FP} {E : XK} {σ : L2.St} {H : Hp} {Q : VK} (h : rE K (vCallP F mr) σ H Q) (hn : ∀ env h xs h1, mr env h = some (xs, h1) → xs.length = n) : tCall (spP K n F) [] E (rA K mr) σ H Q := by
  obtain ⟨P, μ, env, h, r, h', rl, er, e, q⟩ := h
  obtain ⟨⟨xs, h1⟩, e1, e⟩ := bs e
  obtain ⟨ds, e2, e⟩ := bs e
  obtain ⟨d, e3, e⟩ := bs e
  cases e
  refine rA_to rl er e1 fun μ1 H1 vs rl1 s1 er1 v1 => ?_
  rw [List.append_nil]
  obtain ⟨G, rr, _⟩ := mapO_rep (fun _ => True) (fun v x d => snap_rep rl1 8 v x d) v1 e2
  exact ⟨ds, G, d, v1.len.trans (hn _ _ _ _ e1), rr, e3, fun H2 v G' sm r2 nw => q μ1 H2 v (rl1.same sm) (s1.trans (.same rl1 sm)) (.d r2 fun a m z => rl1.has z (nw a m).1)⟩
theorem tCall_T {F : FP} {E : XK} {σ : L2.St} {H : Hp} {Q : VK} (h : rE K (vCallT F mr) σ H Q) (hn : ∀ env h xs h1, mr env h = some (xs, h1) → xs.length = n) : tCall (spP K n F) [] E (rA K mr) σ H Q := by
  obtain ⟨P, μ, env, h, r, h', rl, er, e, q⟩ := h
  obtain ⟨⟨xs, h1⟩, e1, e⟩ := bs e
  obtain ⟨ds, e2, e⟩ := bs e
  obtain ⟨d, e3, e⟩ := bs e
  refine rA_to rl er e1 fun μ1 H1 vs rl1 s1 er1 v1 => ?_
  rw [List.append_nil]
  obtain ⟨G, rr, _⟩ := mapO_rep (fun _ => True) (fun v x d => snap_rep rl1 8 v x d) v1 e2
  refine ⟨ds, G, d, v1.len.trans (hn _ _ _ _ e1), rr, e3, fun H2 v G' sm r2 nw => ?_⟩
  obtain ⟨μ2, rl2, s2, rv2⟩ := thaw_ok rl1 sm r2 nw e
  exact q μ2 H2 v rl2 (s1.trans s2) rv2
/-- how many arguments -/
def ALen (mr : MA) (n : Nat) : Prop := ∀ env h xs h1, mr env h = some (xs, h1) → xs.length = n
theorem alen_nil : ALen aNil 0 := fun env h xs h1 e => by cases e; rfl
theorem alen_cons {m : ME} (r : ALen mr n) : ALen (aCons m mr) (n + 1) := fun env h xs h1 e => by
  obtain ⟨⟨x, h2⟩, e1, e⟩ := bs e
  obtain ⟨⟨ys, h3⟩, e2, e⟩ := bs e
  cases e
  exact congrArg (· + 1) (r _ _ _ _ e2)
theorem he_callI {F : FI} (c : Cal X.prog X.w X.K X.mg X.base k x (spI X.K n F)) (hr : Room j X.A) (hk : k ≤ j) (hg : Gl X x) (ha : HA X (e :: es) mr) (hn : ALen mr n)
    (hdb : (x == ("__debug__" : Str)) = false := by decide) (he : starEach (e :: es) X.env = (false, eval e X.env) :: starEach es X.env := by rfl) (hpl : (backTo pos (starEach es X.env)).any (·.1) = false := by rfl) :
    HE X (.Call (.Name x p) (e :: es) [] pos) (vCallI F mr) := pe_weak (Fd.pe_c c hr hk hg ha hdb he hpl) fun σ H Q h => tCall_I h hn
theorem he_callP {F : FP} (c : Cal X.prog X.w X.K X.mg X.base k x (spP X.K n F)) (hr : Room j X.A) (hk : k ≤ j) (hg : Gl X x) (ha : HA X (e :: es) mr) (hn : ALen mr n)
    (hdb : (x == ("__debug__" : Str)) = false := by decide) (he : starEach (e :: es) X.env = (false, eval e X.env) :: starEach es X.env := by rfl) (hpl : (backTo pos (starEach es X.env)).any (·.1) = false := by rfl) :
    HE X (.Call (.Name x p) (e :: es) [] pos) (vCallP F mr) := pe_weak (Fd.pe_c c hr hk hg ha hdb he hpl) fun σ H Q h => tCall_P h hn
theorem he_callT {F : FP} (c : Cal X.prog X.w X.K X.mg X.base k x (spP X.K n F)) (hr : Room j X.A) (hk : k ≤ j) (hg : Gl X x) (ha : HA X (e :: es) mr) (hn : ALen mr n)
    (hdb : (x == ("__debug__" : Str)) = false := by decide) (he : starEach (e :: es) X.env = (false, eval e X.env) :: starEach es X.env := by rfl) (hpl : (backTo pos (starEach es X.env)).any (·.1) = false := by rfl) :
    HE X (.Call (.Name x p) (e :: es) [] pos) (vCallT F mr) := pe_weak (Fd.pe_c c hr hk hg ha hdb he hpl) fun σ H Q h => tCall_T h hn
/-! what is built in -/
def cbM (nw : Bool) (f : FP) (xs : List Av) (h : AH) : Option (Av × AH) := (mapO (snap 8 h) xs).bind fun ds => (f ds).bind fun d => if (d.pur || (nw && d.sh)) = true then some (.d d, h) else none
def cbT (f : FP) (xs : List Av) (h : AH) : Option (Av × AH) := (mapO (snap 8 h) xs).bind fun ds => (f ds).bind fun d => if d.sh = true then thaw d h else none
def vCB (nw : Bool) (f : FP) (mr : MA) : ME := fun env h => (mr env h).bind fun (xs, h1) => cbM nw f xs h1
def vCBT (f : FP) (mr : MA) : ME := fun env h => (mr env h).bind fun (xs, h1) => cbT f xs h1
theorem he_cb {r : List V → Hp → VK → Prop} {nw : Bool} {f : FP} (o : CallD X.K r nw f) (p : PE X e (tCB r (rA X.K mr))) : HE X e (vCB nw f mr) := pe_weak p fun σ H Q h => by
  obtain ⟨P, μ, env, h, z, h', rl, er, e, q⟩ := h
  obtain ⟨⟨xs, h1⟩, e1, e⟩ := bs e
  obtain ⟨ds, e2, e⟩ := bs e
  obtain ⟨d, e3, e⟩ := bs e
  obtain ⟨c, e⟩ := ifs e
  cases e
  refine rA_to rl er e1 fun μ1 H1 vs rl1 s1 er1 v1 => ?_
  obtain ⟨G, rr, _⟩ := mapO_rep (fun _ => True) (fun v x d => snap_rep rl1 8 v x d) v1 e2
  exact o H1 vs ds d G Q rr e3 fun w H2 Gz sm rz _ new => q μ1 H2 w (rl1.same sm) (s1.trans (.same rl1 sm)) (out_d (G1 := G) rl1 sm rz c new)
theorem he_cbT {r : List V → Hp → VK → Prop} {f : FP} (o : CallD X.K r true f) (p : PE X e (tCB r (rA X.K mr))) : HE X e (vCBT f mr) := pe_weak p fun σ H Q h => by
  obtain ⟨P, μ, env, h, z, h', rl, er, e, q⟩ := h
  obtain ⟨⟨xs, h1⟩, e1, e⟩ := bs e
  obtain ⟨ds, e2, e⟩ := bs e
  obtain ⟨d, e3, e⟩ := bs e
  obtain ⟨c, e⟩ := ifs e
  refine rA_to rl er e1 fun μ1 H1 vs rl1 s1 er1 v1 => ?_
  obtain ⟨G, rr, _⟩ := mapO_rep (fun _ => True) (fun v x d => snap_rep rl1 8 v x d) v1 e2
  refine o H1 vs ds d G Q rr e3 fun w H2 Gz sm rz _ new => ?_
  obtain ⟨μ2, rl2, s2, rv2⟩ := thaw_ok rl1 sm rz (fun a m => (new rfl c).2 a m) e
  exact q μ2 H2 w rl2 (s1.trans s2) rv2
end
end Fh
namespace Fh
open PySem PySem.Spec PyProof.Rows L2
open Fd (Dv Rep Reps SqF same_new OpD CallD UnD PE_or PT_or PS_or Cal)
variable {P : Addr → Prop}

/-! ### dicts -/
section
variable {κ α : Type} [DecidableEq κ]
def gV (l : List (κ × α)) (k : κ) : Option α := (l.find? fun p => decide (p.1 = k)).map (·.2)
def pV (l : List (κ × α)) (k : κ) (x : α) : List (κ × α) := if (l.any fun p => decide (p.1 = k)) = true then l.map (fun p => if p.1 = k then (p.1, x) else p) else l ++ [(k, x)]
def dV (l : List (κ × α)) (k : κ) : List (κ × α) := l.filter fun p => decide (p.1 ≠ k)
theorem gV_pos {p : κ × α} {r : List (κ × α)} {k : κ} (e : p.1 = k) : gV (p :: r) k = some p.2 := by simp [gV, List.find?_cons, e]
theorem gV_neg {p : κ × α} {r : List (κ × α)} {k : κ} (e : ¬ p.1 = k) : gV (p :: r) k = gV r k := by simp [gV, List.find?_cons, e]
end
inductive Dq where
  | K (l : List (Key × Av)) | T (l : List (List Key × Av))
def dtD (h : AH) : Av → Option Dq
  | .d (.dct l) => some (.K (l.map fun p => (p.1, .d p.2)))
  | .d (.dctT l) => some (.T (l.map fun p => (p.1, .d p.2)))
  | .ref n => match rd h n with
    | some (.dK l) => some (.K l)
    | some (.dT l) => some (.T l)
    | _ => none
  | _ => none
def keyD : Dv → Option Key
  | .int i => some (.inl i)
  | .str x => some (.inr x)
  | _ => none
def keyA : Av → Option Key
  | .d x => keyD x
  | _ => none
def keyT : Av → Option (List Key)
  | .d (.tup (.int n :: ds)) => mapO keyD (.int n :: ds)
  | _ => none
def getA (h : AH) (x k : Av) : Option (Option Av) := match dtD h x with
  | some (.K l) => (keyA k).map (gV l)
  | some (.T l) => (keyT k).map (gV l)
  | none => none
section
variable {K : PySem.W.Frag} {H : Hp} {μ : List Addr} {h : AH} {L : Addr → Prop}
theorem dtD_K {v : V} {x : Av} {l : List (Key × Av)} (rl : Rl K P μ h H) (r : RV K H μ (Lv P μ h) v x) (e : dtD h x = some (.K l)) : ∃ a ks, v = .ref a ∧ Rd H a (.dK ks) ∧ l.map (·.1) = ks.map (·.1) ∧ RVs K H μ (Lv P μ h) (ks.map (·.2)) (l.map (·.2)) := by
  cases r with
  | @d v x G r n =>
    cases x <;> first | cases e | skip
    cases r with
    | dct ha ek rs => exact ⟨_, _, rfl, ha, (keys_map _).trans ek, by rw [vals_map]; exact .of rs fun a m => n a (List.mem_cons_of_mem _ m)⟩
  | @ref n a hm =>
    unfold dtD at e
    cases hb : rd h n with
    | none => simp only [hb] at e; cases e
    | some b =>
      simp only [hb] at e
      obtain ⟨a', u, e1, e2, e3, e4⟩ := rl.rd hb
      rw [hm] at e1; cases e1
      cases e3 with
      | lst r => cases e
      | dK ek r => cases e; exact ⟨_, _, rfl, e2, ek, r⟩
      | dT ek r => cases e
      | ins hc ek r => cases e
  | tup _ _ => cases e
  | lst hs _ rs => cases e
theorem dtD_T {v : V} {x : Av} {l : List (List Key × Av)} (rl : Rl K P μ h H) (r : RV K H μ (Lv P μ h) v x) (e : dtD h x = some (.T l)) : ∃ a ks, v = .ref a ∧ Rd H a (.dT ks) ∧ l.map (·.1) = ks.map (·.1) ∧ RVs K H μ (Lv P μ h) (ks.map (·.2)) (l.map (·.2)) := by
  cases r with
  | @d v x G r n =>
    cases x <;> first | cases e | skip
    cases r with
    | dctT ha ek rs => exact ⟨_, _, rfl, ha, (keys_map _).trans ek, by rw [vals_map]; exact .of rs fun a m => n a (List.mem_cons_of_mem _ m)⟩
  | @ref n a hm =>
    unfold dtD at e
    cases hb : rd h n with
    | none => simp only [hb] at e; cases e
    | some b =>
      simp only [hb] at e
      obtain ⟨a', u, e1, e2, e3, e4⟩ := rl.rd hb
      rw [hm] at e1; cases e1
      cases e3 with
      | lst r => cases e
      | dK ek r => cases e
      | dT ek r => cases e; exact ⟨_, _, rfl, e2, ek, r⟩
      | ins hc ek r => cases e
  | tup _ _ => cases e
  | lst hs _ rs => cases e
theorem keyD_rep {v : V} {d : Dv} {G : List Addr} {k : Key} (r : Rep K H v d G) (e : keyD d = some k) : v = kV k := by
  cases r <;> first | (cases e; rfl) | cases e
theorem keyA_rv {v : V} {x : Av} {k : Key} (r : RV K H μ L v x) (e : keyA x = some k) : v = kV k := by
  cases r with
  | d r n => exact keyD_rep r e
  | ref _ => cases e
  | tup _ _ => cases e
  | lst _ _ _ => cases e
theorem keysD_rep : ∀ {ds : List Dv} {vs : List V} {G : List Addr} {ks : List Key}, Reps K H vs ds G → mapO keyD ds = some ks → vs = ks.map kV
  | [], _, _, _, .nil, e => by cases e; rfl
  | d :: ds, _, _, ks, .cons r rs, e => by
    unfold mapO at e
    cases q : keyD d with
    | none => rw [q] at e; cases e
    | some k =>
      rw [q] at e
      obtain ⟨zs, h1, rfl⟩ := Option.map_eq_some_iff.mp e
      rw [keyD_rep r q, keysD_rep rs h1]; rfl
/-- a tuple of keys that stands in the heap -/
theorem keyT_rv {v : V} {x : Av} {k : List Key} (r : RV K H μ L v x) (e : keyT x = some k) : ∃ b, v = .ref b ∧ H b = some (.tup (k.map kV)) := by
  cases r with
  | @d v x G r n =>
    unfold keyT at e
    split at e
    · rename_i n ds z
      cases z
      cases r with
      | tup hs rs =>
        have hv := keysD_rep rs e
        refine ⟨_, rfl, ?_⟩
        rcases hs with hs | ⟨_, ⟨ss, hs⟩ | ⟨_, _, _, ss, hs⟩⟩
        · rw [← hv]; exact hs
        · obtain ⟨zs, _, hk⟩ := Option.map_eq_some_iff.mp (show (mapO keyD ds).map (Sum.inl n :: ·) = some k from e)
          subst hk
          rw [hs] at hv
          cases ss with
          | nil => cases hv
          | cons s ss => cases hv
        · obtain ⟨zs, _, hk⟩ := Option.map_eq_some_iff.mp (show (mapO keyD ds).map (Sum.inl n :: ·) = some k from e)
          subst hk
          rw [hs] at hv
          cases ss with
          | nil => cases hv
          | cons s ss => cases hv
    · cases e
  | ref _ => cases e
  | tup _ _ => cases e
  | lst _ _ _ => cases e
theorem get_rv {κ : Type} [DecidableEq κ] : ∀ {ks : List (κ × V)} {l : List (κ × Av)}, l.map (·.1) = ks.map (·.1) → RVs K H μ L (ks.map (·.2)) (l.map (·.2)) → ∀ k : κ,
    (valV ks k = none ∧ gV l k = none) ∨ ∃ v x, valV ks k = some v ∧ gV l k = some x ∧ RV K H μ L v x
  | [], [], _, _, k => .inl ⟨rfl, rfl⟩
  | [], _ :: _, e, _, _ => by cases e
  | _ :: _, [], e, _, _ => by cases e
  | p :: ks, q :: l, e, r, k => by
    have e1 : q.1 = p.1 := (List.cons.inj e).1
    have e2 : l.map (·.1) = ks.map (·.1) := (List.cons.inj e).2
    cases (show RVs K H μ L (p.2 :: ks.map (·.2)) (q.2 :: l.map (·.2)) from r) with
    | cons h t =>
      by_cases c : p.1 = k
      · exact .inr ⟨p.2, q.2, valV_pos c, gV_pos (e1.trans c), h⟩
      · rcases get_rv e2 t k with ⟨h1, h2⟩ | ⟨v, d, h1, h2, h3⟩
        · exact .inl ⟨(valV_neg c).trans h1, (gV_neg fun z => c (e1.symm.trans z)).trans h2⟩
        · exact .inr ⟨v, d, (valV_neg c).trans h1, (gV_neg fun z => c (e1.symm.trans z)).trans h2, h3⟩
theorem keys_any {κ α β : Type} [DecidableEq κ] {ks : List (κ × α)} {l : List (κ × β)} (e : l.map (·.1) = ks.map (·.1)) (k : κ) : (ks.any fun p => decide (p.1 = k)) = l.any fun p => decide (p.1 = k) := by
  have h1 : (l.any fun p => decide (p.1 = k)) = (l.map (·.1)).any fun x => decide (x = k) := by rw [List.any_map]; rfl
  have h2 : (ks.any fun p => decide (p.1 = k)) = (ks.map (·.1)).any fun x => decide (x = k) := by rw [List.any_map]; rfl
  rw [h1, h2, e]
theorem keys_len {κ α β : Type} {ks : List (κ × α)} {l : List (κ × β)} (e : l.map (·.1) = ks.map (·.1)) : ks.length = l.length := by
  have := congrArg List.length e
  rw [List.length_map, List.length_map] at this
  exact this.symm
theorem put_rv {κ : Type} [DecidableEq κ] {ks : List (κ × V)} {l : List (κ × Av)} {k : κ} {v : V} {x : Av} (e : l.map (·.1) = ks.map (·.1)) (r : RVs K H μ L (ks.map (·.2)) (l.map (·.2))) (hv : RV K H μ L v x) :
    (pV l k x).map (·.1) = (putK ks k v).map (·.1) ∧ RVs K H μ L ((putK ks k v).map (·.2)) ((pV l k x).map (·.2)) := by
  unfold pV putK
  rw [keys_any e k]
  by_cases c : (l.any fun p => decide (p.1 = k)) = true
  · rw [if_pos c, if_pos c]
    clear c
    induction l generalizing ks with
    | nil =>
      cases ks with
      | nil => exact ⟨rfl, .nil⟩
      | cons p ks => cases e
    | cons q l ih =>
      cases ks with
      | nil => cases e
      | cons p ks =>
        have e1 : q.1 = p.1 := (List.cons.inj e).1
        have e2 : l.map (·.1) = ks.map (·.1) := (List.cons.inj e).2
        cases (show RVs K H μ L (p.2 :: ks.map (·.2)) (q.2 :: l.map (·.2)) from r) with
        | cons h t =>
          obtain ⟨i1, i2⟩ := ih e2 t
          by_cases c : p.1 = k
          · have c' : q.1 = k := e1.trans c
            refine ⟨?_, ?_⟩
            · rw [List.map_cons, List.map_cons, List.map_cons, List.map_cons, i1, if_pos c, if_pos c', e1]
            · rw [List.map_cons, List.map_cons, List.map_cons, List.map_cons, if_pos c, if_pos c']
              exact .cons hv i2
          · have c' : ¬ q.1 = k := fun z => c (e1.symm.trans z)
            refine ⟨?_, ?_⟩
            · rw [List.map_cons, List.map_cons, List.map_cons, List.map_cons, i1, if_neg c, if_neg c', e1]
            · rw [List.map_cons, List.map_cons, List.map_cons, List.map_cons, if_neg c, if_neg c']
              exact .cons h i2
  · rw [if_neg c, if_neg c]
    refine ⟨by rw [List.map_append, List.map_append, e]; rfl, ?_⟩
    rw [List.map_append, List.map_append]
    exact r.app (.one hv)
theorem drop_rv {κ : Type} [DecidableEq κ] {k : κ} : ∀ {ks : List (κ × V)} {l : List (κ × Av)}, l.map (·.1) = ks.map (·.1) → RVs K H μ L (ks.map (·.2)) (l.map (·.2)) →
    (dV l k).map (·.1) = (dropK ks k).map (·.1) ∧ RVs K H μ L ((dropK ks k).map (·.2)) ((dV l k).map (·.2))
  | [], [], _, _ => ⟨rfl, .nil⟩
  | [], _ :: _, e, _ => by cases e
  | _ :: _, [], e, _ => by cases e
  | p :: ks, q :: l, e, r => by
    have e1 : q.1 = p.1 := (List.cons.inj e).1
    have e2 : l.map (·.1) = ks.map (·.1) := (List.cons.inj e).2
    cases (show RVs K H μ L (p.2 :: ks.map (·.2)) (q.2 :: l.map (·.2)) from r) with
    | cons h t =>
      obtain ⟨i1, i2⟩ := drop_rv (k := k) e2 t
      unfold dV dropK at i1 i2 ⊢
      rw [List.filter_cons, List.filter_cons, e1]
      by_cases c : p.1 = k
      · rw [if_neg (by simp [c]), if_neg (by simp [c])]; exact ⟨i1, i2⟩
      · rw [if_pos (by simp [c]), if_pos (by simp [c])]
        refine ⟨?_, ?_⟩
        · rw [List.map_cons, List.map_cons, i1, e1]
        · rw [List.map_cons, List.map_cons]; exact .cons h i2
theorem getA_ok {v u : V} {x k : Av} {o : Option Av} (rl : Rl K P μ h H) (r1 : RV K H μ (Lv P μ h) v x) (r2 : RV K H μ (Lv P μ h) u k) (e : getA h x k = some o) :
    ∃ a r, v = .ref a ∧ DGet H a u r ∧ ((o = none ∧ r = none) ∨ ∃ y w, o = some y ∧ r = some w ∧ RV K H μ (Lv P μ h) w y) := by
  unfold getA at e
  cases hd : dtD h x with
  | none => rw [hd] at e; cases e
  | some q =>
    rw [hd] at e
    cases q with
    | K l =>
      obtain ⟨k', h1, rfl⟩ := Option.map_eq_some_iff.mp e
      obtain ⟨a, ks, rfl, hr, ek, rs⟩ := dtD_K rl r1 hd
      have hu := keyA_rv r2 h1
      subst hu
      refine ⟨a, valV ks k', rfl, .inl ⟨ks, k', hr, rfl, rfl⟩, ?_⟩
      rcases get_rv ek rs k' with ⟨z1, z2⟩ | ⟨w, y, z1, z2, z3⟩
      · exact .inl ⟨z2, z1⟩
      · exact .inr ⟨y, w, z2, z1, z3⟩
    | T l =>
      obtain ⟨k', h1, rfl⟩ := Option.map_eq_some_iff.mp e
      obtain ⟨a, ks, rfl, hr, ek, rs⟩ := dtD_T rl r1 hd
      obtain ⟨b, rfl, hb⟩ := keyT_rv r2 h1
      refine ⟨a, valV ks k', rfl, .inr ⟨ks, k', b, hr, rfl, hb, rfl⟩, ?_⟩
      rcases get_rv ek rs k' with ⟨z1, z2⟩ | ⟨w, y, z1, z2, z3⟩
      · exact .inl ⟨z2, z1⟩
      · exact .inr ⟨y, w, z2, z1, z3⟩
end
end Fh
namespace Fh
open PySem PySem.Spec PyProof.Rows L2
open Fd (Dv Rep Reps SqF same_new OpD CallD UnD PE_or PT_or PS_or Cal)
variable {P : Addr → Prop}

/-! ### x[i], d[k], k in d, d.get -/
def itX (h : AH) (x : Av) : Option (List Av) := match itT x with
  | some xs => some xs
  | none => itL h x
def intA : Av → Option Int
  | .d (.int i) => some i
  | _ => none
def strA : Av → Option Str
  | .d (.str z) => some z
  | _ => none
def ixA (h : AH) (a b : Av) : Option Av := match itX h a with
  | some xs => (intA b).bind fun i => atI xs i
  | none => match strA a with
    | some z => if z.length ≤ sizeLine then (intA b).bind fun i => (atI z.cps.toList i).map fun c => .d (.str ⟨#[c]⟩) else none
    | none => (getA h a b).bind id
def vIx (ma mb : ME) : ME := fun env h => (ma env h).bind fun (a, h1) => (mb env h1).bind fun (b, h2) => (ixA h2 a b).bind fun x => some (x, h2)
theorem intA_rv {K : PySem.W.Frag} {H : Hp} {μ : List Addr} {L : Addr → Prop} {v : V} {x : Av} {i : Int} (r : RV K H μ L v x) (e : intA x = some i) : v = .int i := by
  cases r with
  | @d v x G r n =>
    cases x <;> first | cases e | skip
    cases r; rfl
  | ref _ => cases e
  | tup _ _ => cases e
  | lst _ _ _ => cases e
theorem strA_rv {K : PySem.W.Frag} {H : Hp} {μ : List Addr} {L : Addr → Prop} {v : V} {x : Av} {i : Str} (r : RV K H μ L v x) (e : strA x = some i) : v = .str i := by
  cases r with
  | @d v x G r n =>
    cases x <;> first | cases e | skip
    cases r; rfl
  | ref _ => cases e
  | tup _ _ => cases e
  | lst _ _ _ => cases e
section
variable {X : Cx} {K : PySem.W.Frag} {a b c e : Expr} {es : List Expr} {pos : Pos} {ma mb mc me : ME} {ta tb : MT} {mr : MA}
theorem itX_rv {H : Hp} {μ : List Addr} {h : AH} {v : V} {x : Av} {xs : List Av} (rl : Rl K P μ h H) (r : RV K H μ (Lv P μ h) v x) (e : itX h x = some xs) : ∃ a vs, v = .ref a ∧ (SqL K H a vs ∨ SqT K H a vs) ∧ RVs K H μ (Lv P μ h) vs xs := by
  unfold itX at e
  split at e
  · rename_i ys hy
    cases e
    obtain ⟨a, vs, h1, h2, h3⟩ := itT_rv r hy
    exact ⟨a, vs, h1, .inr h2.sq, h3⟩
  · obtain ⟨a, vs, h1, h2, h3⟩ := itL_rv rl r e
    exact ⟨a, vs, h1, .inl h2, h3⟩
theorem tIx_ok {σ : L2.St} {H : Hp} {Q : VK} (h : rE K (vIx ma mb) σ H Q) : tOp (rIx K) (rE K ma) (rE K mb) σ H Q ∨ tDGet (rE K ma) (rE K mb) σ H Q := by
  obtain ⟨P, μ, env, h, z, h', rl, er, e, q⟩ := h
  obtain ⟨⟨x, h1⟩, e1, e⟩ := bs e
  obtain ⟨⟨y, h2⟩, e2, e⟩ := bs e
  obtain ⟨w, hw, e⟩ := bs e
  cases e
  unfold ixA at hw
  cases hx : itX h' x with
  | some xs =>
    rw [hx] at hw
    obtain ⟨i, hi, hw⟩ := bs (show (intA y).bind (fun i => atI xs i) = some z from hw)
    left
    refine rE_to rl er e1 fun μ1 H1 v rl1 s1 er1 v1 => rE_to rl1 er1 e2 fun μ2 H2 u rl2 s2 er2 v2 => ?_
    obtain ⟨a, vs, rfl, hs, rs⟩ := itX_rv rl2 (v1.on rl1 s2) hx
    have hu := intA_rv v2 hi
    subst hu
    obtain ⟨j, hj, hd⟩ := Fd.atI_get hw
    obtain ⟨vv, h3, h4⟩ := rs.getA j z hd
    have hv : atI vs i = some vv := Fd.atI_of (by rw [rs.len]; exact hj) h3
    rcases hs with hs | hs
    · exact .inl ⟨a, vs, i, vv, rfl, rfl, hs, hv, q μ2 H2 vv rl2 (s1.trans s2) h4⟩
    · exact .inr (.inl ⟨a, vs, i, vv, rfl, rfl, hs, hv, q μ2 H2 vv rl2 (s1.trans s2) h4⟩)
  | none =>
    rw [hx] at hw
    cases hz : strA x with
    | some zz =>
      rw [hz] at hw
      obtain ⟨c, hw⟩ := ifs hw
      obtain ⟨i, hi, hw⟩ := bs hw
      obtain ⟨s, hs, rfl⟩ := Option.map_eq_some_iff.mp hw
      left
      refine rE_to rl er e1 fun μ1 H1 v rl1 s1 er1 v1 => rE_to rl1 er1 e2 fun μ2 H2 u rl2 s2 er2 v2 => ?_
      have hv := strA_rv v1 hz
      have hu := intA_rv v2 hi
      subst hv hu
      exact .inr (.inr ⟨zz, i, s, rfl, rfl, c, hs, q μ2 H2 _ rl2 (s1.trans s2) (.d (.str _) fun a m => (nomatch m))⟩)
    | none =>
      rw [hz] at hw
      obtain ⟨o, hg, ho⟩ := bs (show (getA h' x y).bind id = some z from hw)
      have ho : o = some z := ho
      subst ho
      right
      refine rE_to rl er e1 fun μ1 H1 v rl1 s1 er1 v1 => rE_to rl1 er1 e2 fun μ2 H2 u rl2 s2 er2 v2 => ?_
      obtain ⟨a, r, rfl, dg, hc⟩ := getA_ok rl2 (v1.on rl1 s2) v2 hg
      rcases hc with ⟨z, _⟩ | ⟨yy, ww, z1, z2, z3⟩
      · cases z
      · cases z1
        subst z2
        exact ⟨a, ww, rfl, dg, q μ2 H2 ww rl2 (s1.trans s2) z3⟩
theorem he_ix (p1 : PE X e (tOp (rIx X.K) (rE X.K ma) (rE X.K mb))) (p2 : PE X e (tDGet (rE X.K ma) (rE X.K mb))) : HE X e (vIx ma mb) := pe_weak (PE_or p1 p2) fun σ H Q h => tIx_ok h
/-- d.get(k, x) -/
def vGet2 (md mk mx : ME) : ME := fun env h => (md env h).bind fun (d, h1) => match dtD h1 d with
  | none => none
  | some _ => (mk env h1).bind fun (k, h2) => (mx env h2).bind fun (x, h3) => (getA h3 d k).bind fun o => some (o.getD x, h3)
theorem dtD_isD {H : Hp} {μ : List Addr} {h : AH} {v : V} {x : Av} {q : Dq} (rl : Rl K P μ h H) (r : RV K H μ (Lv P μ h) v x) (e : dtD h x = some q) : ∃ a, v = .ref a ∧ IsD H a := by
  cases q with
  | K l => obtain ⟨a, ks, h1, h2, _⟩ := dtD_K rl r e; exact ⟨a, h1, .inl ⟨_, h2⟩⟩
  | T l => obtain ⟨a, ks, h1, h2, _⟩ := dtD_T rl r e; exact ⟨a, h1, .inr ⟨_, h2⟩⟩
theorem he_get2 (p : PE X e (tDGet2 (rE X.K ma) (rE X.K mb) (rE X.K mc))) : HE X e (vGet2 ma mb mc) := pe_weak p fun σ H Q ⟨P, μ, env, h, z, h', rl, er, e, q⟩ => by
  obtain ⟨⟨x, h1⟩, e1, e⟩ := bs e
  dsimp only at e
  split at e
  · cases e
  · rename_i dq hd
    obtain ⟨⟨k, h2⟩, e2, e⟩ := bs e
    obtain ⟨⟨w, h3⟩, e3, e⟩ := bs e
    obtain ⟨o, e4, e⟩ := bs e
    cases e
    refine rE_to rl er e1 fun μ1 H1 v rl1 s1 er1 v1 => ?_
    obtain ⟨a, rfl, isd⟩ := dtD_isD rl1 v1 hd
    refine ⟨a, rfl, isd, rE_to rl1 er1 e2 fun μ2 H2 u rl2 s2 er2 v2 => rE_to rl2 er2 e3 fun μ3 H3 t rl3 s3 er3 v3 => ?_⟩
    obtain ⟨a', r, ha, dg, hc⟩ := getA_ok rl3 (v1.on rl1 (s2.trans s3)) (v2.on rl2 s3) e4
    cases ha
    refine ⟨r, dg, ?_⟩
    have st := (s1.trans s2).trans s3
    rcases hc with ⟨z1, z2⟩ | ⟨yy, ww, z1, z2, z3⟩
    · subst z1 z2; exact q μ3 H3 t rl3 st v3
    · subst z1 z2; exact q μ3 H3 ww rl3 st z3
def vGet1 (md mk : ME) : ME := fun env h => (md env h).bind fun (d, h1) => match dtD h1 d with
  | none => none
  | some _ => (mk env h1).bind fun (k, h2) => (getA h2 d k).bind fun o => some (o.getD (.d .non), h2)
theorem he_get1 (p : PE X e (tDGet1 (rE X.K ma) (rE X.K mb))) : HE X e (vGet1 ma mb) := pe_weak p fun σ H Q ⟨P, μ, env, h, z, h', rl, er, e, q⟩ => by
  obtain ⟨⟨x, h1⟩, e1, e⟩ := bs e
  dsimp only at e
  split at e
  · cases e
  · rename_i dq hd
    obtain ⟨⟨k, h2⟩, e2, e⟩ := bs e
    obtain ⟨o, e4, e⟩ := bs e
    cases e
    refine rE_to rl er e1 fun μ1 H1 v rl1 s1 er1 v1 => ?_
    obtain ⟨a, rfl, isd⟩ := dtD_isD rl1 v1 hd
    refine ⟨a, rfl, isd, rE_to rl1 er1 e2 fun μ2 H2 u rl2 s2 er2 v2 => ?_⟩
    obtain ⟨a', r, ha, dg, hc⟩ := getA_ok rl2 (v1.on rl1 s2) v2 e4
    cases ha
    refine ⟨r, dg, ?_⟩
    rcases hc with ⟨z1, z2⟩ | ⟨yy, ww, z1, z2, z3⟩
    · subst z1 z2; exact q μ2 H2 _ rl2 (s1.trans s2) (.d .non fun a m => (nomatch m))
    · subst z1 z2; exact q μ2 H2 ww rl2 (s1.trans s2) z3
/-- x in y, x not in y: a dict, or what an operator tells -/
def vIn (neg : Bool) (f : Dv → Dv → Option Dv) (mx my : ME) : ME := fun env h => (mx env h).bind fun (x, h1) => (my env h1).bind fun (y, h2) => match dtD h2 y with
  | some _ => (getA h2 y x).bind fun o => some (.d (.bl (if neg = true then !o.isSome else o.isSome)), h2)
  | none => opM true f x y h2
def rDIn (neg : Bool) (ty td : TE) : TE := if neg = true then tDNotIn ty td else tDIn ty td
theorem vIn_ok {neg : Bool} {r : R2} {f : Dv → Dv → Option Dv} (o : OpD K r true f) {σ : L2.St} {H : Hp} {Q : VK} (h : rE K (vIn neg f ma mb) σ H Q) : rDIn neg (rE K ma) (rE K mb) σ H Q ∨ tOp r (rE K ma) (rE K mb) σ H Q := by
  obtain ⟨P, μ, env, h, z, h', rl, er, e, q⟩ := h
  obtain ⟨⟨x, h1⟩, e1, e⟩ := bs e
  obtain ⟨⟨y, h2⟩, e2, e⟩ := bs e
  dsimp only at e
  split at e
  · rename_i dq hd
    obtain ⟨o', e4, e⟩ := bs e
    cases e
    left
    have main : ∀ (g : Option V → Bool), (∀ r : Option V, (r.isSome = o'.isSome) → g r = (if neg = true then !o'.isSome else o'.isSome)) →
        rE K ma σ H fun y' H1 => rE K mb σ H1 fun x' H2 => ∃ a r, x' = .ref a ∧ DGet H2 a y' r ∧ Q (.bl (g r)) H2 := fun g hg => by
      refine rE_to rl er e1 fun μ1 H1 v rl1 s1 er1 v1 => rE_to rl1 er1 e2 fun μ2 H2 u rl2 s2 er2 v2 => ?_
      obtain ⟨a, r, rfl, dg, hc⟩ := getA_ok rl2 v2 (v1.on rl1 s2) e4
      refine ⟨a, r, rfl, dg, ?_⟩
      rw [hg r (by rcases hc with ⟨z1, z2⟩ | ⟨yy, ww, z1, z2, _⟩ <;> rw [z1, z2] <;> rfl)]
      exact q μ2 H2 _ rl2 (s1.trans s2) (.d (.bl _) fun a m => (nomatch m))
    unfold rDIn
    cases neg with
    | true => exact main (fun r => !r.isSome) fun r hr => by rw [hr]; rfl
    | false => exact main (fun r => r.isSome) fun r hr => by rw [hr]; rfl
  · right
    refine rE_to rl er e1 fun μ1 H1 v rl1 s1 er1 v1 => rE_to rl1 er1 e2 fun μ2 H2 u rl2 s2 er2 v2 => ?_
    exact opM_ok o rl2 (v1.on rl1 s2) v2 e fun H3 w hh rl3 s3 rw_ => by subst hh; exact q μ2 H3 w rl3 ((s1.trans s2).trans s3) rw_
theorem he_in {r : R2} {f : Dv → Dv → Option Dv} (o : OpD X.K r true f) (p1 : PE X e (tDIn (rE X.K ma) (rE X.K mb))) (p2 : PE X e (tOp r (rE X.K ma) (rE X.K mb))) : HE X e (vIn false f ma mb) :=
  pe_weak (PE_or (t := rDIn false (rE X.K ma) (rE X.K mb)) p1 p2) fun σ H Q h => vIn_ok o h
theorem he_notin {r : R2} {f : Dv → Dv → Option Dv} (o : OpD X.K r true f) (p1 : PE X e (tDNotIn (rE X.K ma) (rE X.K mb))) (p2 : PE X e (tOp r (rE X.K ma) (rE X.K mb))) : HE X e (vIn true f ma mb) :=
  pe_weak (PE_or (t := rDIn true (rE X.K ma) (rE X.K mb)) p1 p2) fun σ H Q h => vIn_ok o h
theorem ht_in {r : R2} {f : Dv → Dv → Option Dv} (o : OpD X.K r true f) (p1 : PT X e (tB (tDIn (rE X.K ma) (rE X.K mb)))) (p2 : PT X e (tTest (tOp r (rE X.K ma) (rE X.K mb)))) : HT X e (tvB (vIn false f ma mb)) :=
  pt_weak (PT_or p1 p2) fun σ H Q h => by
    obtain ⟨P, μ, env, h, z, h', rl, er, e, q⟩ := tB_ok h
    rcases vIn_ok o ⟨P, μ, env, h, z, h', rl, er, e, q⟩ with z | z
    · exact .inl z
    · exact .inr z
theorem ht_notin {r : R2} {f : Dv → Dv → Option Dv} (o : OpD X.K r true f) (p1 : PT X e (tB (tDNotIn (rE X.K ma) (rE X.K mb)))) (p2 : PT X e (tTest (tOp r (rE X.K ma) (rE X.K mb)))) : HT X e (tvB (vIn true f ma mb)) :=
  pt_weak (PT_or p1 p2) fun σ H Q h => by
    obtain ⟨P, μ, env, h, z, h', rl, er, e, q⟩ := tB_ok h
    rcases vIn_ok o ⟨P, μ, env, h, z, h', rl, er, e, q⟩ with z | z
    · exact .inl z
    · exact .inr z

/-! ### stores -/
theorem cell_at {H : Hp} {μ : List Addr} {h : AH} {v : V} {n : Nat} {b : Bd} (rl : Rl K P μ h H) (r : RV K H μ (Lv P μ h) v (.ref n)) (e : h[n]? = some (.lv b)) : ∃ a u, v = .ref a ∧ μ[n]? = some a ∧ H a = some u ∧ BdR K H μ (Lv P μ h) u b := by
  cases r with
  | ref hm =>
    obtain ⟨a', u, e1, e2, e3⟩ := rl.lv n b e
    rw [hm] at e1; cases e1
    exact ⟨_, u, rfl, hm, e2, e3⟩
/-- d[k] = v, xs[i] = v -/
def putA (x k v : Av) (h : AH) : Option AH := match x with
  | .ref n => match h[n]? with
    | some (.lv (.dK l)) => (keyA k).bind fun k => if l.length < sizeLine then some (h.set n (.lv (.dK (pV l k v)))) else none
    | some (.lv (.dT l)) => (keyT k).bind fun k => if l.length < sizeLine then some (h.set n (.lv (.dT (pV l k v)))) else none
    | some (.lv (.lst xs)) => match k with
      | .d (.int i) => (ixN xs.length i).bind fun j => some (h.set n (.lv (.lst (xs.set j v))))
      | _ => none
    | _ => none
  | _ => none
def sPut (mv mx mk : ME) : MS := fun env h => (mv env h).bind fun (v, h1) => (mx env h1).bind fun (x, h2) => (mk env h2).bind fun (k, h3) => (putA x k v h3).bind fun h4 => some (.nx env, h4)
theorem sPut_ok {mv mx mk : ME} {D : Ends} {σ : L2.St} {H : Hp} (h : rS K (sPut mv mx mk) D σ H) : sDPut (rE K mx) (rE K mk) (rE K mv) D σ H ∨ tAsg (rE K mv) (gSub (rE K mx) (rE K mk) rSetL) D σ H := by
  obtain ⟨P, μ, env, h, o, h', rl, er, e, q⟩ := h
  obtain ⟨⟨v, h1⟩, e1, e⟩ := bs e
  obtain ⟨⟨x, h2⟩, e2, e⟩ := bs e
  obtain ⟨⟨k, h3⟩, e3, e⟩ := bs e
  obtain ⟨h4, e4, e⟩ := bs e
  cases e
  unfold putA at e4
  split at e4
  · rename_i n
    split at e4
    · rename_i l hn
      obtain ⟨k', ek, e4⟩ := bs e4
      obtain ⟨c, e4⟩ := ifs e4
      cases e4
      left
      refine rE_to rl er e1 fun μ1 H1 v rl1 s1 er1 v1 => rE_to rl1 er1 e2 fun μ2 H2 u rl2 s2 er2 v2 => rE_to rl2 er2 e3 fun μ3 H3 w rl3 s3 er3 v3 => ?_
      obtain ⟨a, uo, rfl, ha, hH, br⟩ := cell_at rl3 (v2.on rl2 s3) hn
      cases br with
      | dK eks rs =>
        have hw := keyA_rv v3 ek
        subst hw
        obtain ⟨p1, p2⟩ := put_rv (k := k') eks rs (v1.on rl1 (s2.trans s3))
        obtain ⟨rl4, s4⟩ := rl3.wr hn ha (b' := .dK (pV l k' _)) (.dK p1 p2)
        exact ⟨a, _, rfl, .inl ⟨_, k', hH, rfl, by rw [keys_len eks]; exact c, rfl⟩, q μ3 _ rl4 (((s1.trans s2).trans s3).trans s4) σ (er3.on rl3 s4)⟩
    · rename_i l hn
      obtain ⟨k', ek, e4⟩ := bs e4
      obtain ⟨c, e4⟩ := ifs e4
      cases e4
      left
      refine rE_to rl er e1 fun μ1 H1 v rl1 s1 er1 v1 => rE_to rl1 er1 e2 fun μ2 H2 u rl2 s2 er2 v2 => rE_to rl2 er2 e3 fun μ3 H3 w rl3 s3 er3 v3 => ?_
      obtain ⟨a, uo, rfl, ha, hH, br⟩ := cell_at rl3 (v2.on rl2 s3) hn
      cases br with
      | dT eks rs =>
        obtain ⟨b, rfl, hb⟩ := keyT_rv v3 ek
        obtain ⟨p1, p2⟩ := put_rv (k := k') eks rs (v1.on rl1 (s2.trans s3))
        obtain ⟨rl4, s4⟩ := rl3.wr hn ha (b' := .dT (pV l k' _)) (.dT p1 p2)
        exact ⟨a, _, rfl, .inr ⟨_, k', b, hH, rfl, hb, by rw [keys_len eks]; exact c, rfl⟩, q μ3 _ rl4 (((s1.trans s2).trans s3).trans s4) σ (er3.on rl3 s4)⟩
    · rename_i xs hn
      split at e4
      · rename_i i
        obtain ⟨j, hj, e4⟩ := bs e4
        cases e4
        right
        refine rE_to rl er e1 fun μ1 H1 v rl1 s1 er1 v1 => rE_to rl1 er1 e2 fun μ2 H2 u rl2 s2 er2 v2 => rE_to rl2 er2 e3 fun μ3 H3 w rl3 s3 er3 v3 => ?_
        obtain ⟨a, uo, rfl, ha, hH, br⟩ := cell_at rl3 (v2.on rl2 s3) hn
        cases br with
        | lst rs =>
          cases v3 with
          | d r3 n3 =>
            cases r3
            obtain ⟨rl4, s4⟩ := rl3.wr hn ha (b' := .lst (xs.set j _)) (.lst (rs.set (v1.on rl1 (s2.trans s3)) j))
            exact ⟨a, _, i, j, rfl, rfl, hH, by rw [rs.len]; exact hj, q μ3 _ rl4 (((s1.trans s2).trans s3).trans s4) σ (er3.on rl3 s4)⟩
      · cases e4
    · cases e4
  · cases e4
theorem hs_put {s : Stmt} {mv mx mk : ME} (p1 : PS X s (sDPut (rE X.K mx) (rE X.K mk) (rE X.K mv))) (p2 : PS X s (tAsg (rE X.K mv) (gSub (rE X.K mx) (rE X.K mk) rSetL))) : HS X s (sPut mv mx mk) := ps_weak (PS_or p1 p2) fun D σ H h => sPut_ok h
/-! ### methods of lists and dicts -/
def lstM (x : Av) (h : AH) : Option (Nat × List Av) := match x with
  | .ref n => match h[n]? with
    | some (.lv (.lst xs)) => some (n, xs)
    | _ => none
  | _ => none
theorem lstM_rv {H : Hp} {μ : List Addr} {h : AH} {v : V} {x : Av} {n : Nat} {xs : List Av} (rl : Rl K P μ h H) (r : RV K H μ (Lv P μ h) v x) (e : lstM x h = some (n, xs)) : ∃ a vs, x = .ref n ∧ h[n]? = some (.lv (.lst xs)) ∧ v = .ref a ∧ μ[n]? = some a ∧ H a = some (.lst vs) ∧ RVs K H μ (Lv P μ h) vs xs := by
  unfold lstM at e
  split at e
  · split at e
    · rename_i hn
      cases e
      obtain ⟨a, u, h1, h2, h3, h4⟩ := cell_at rl r hn
      cases h4 with
      | lst rs => exact ⟨a, _, rfl, hn, h1, h2, h3, rs⟩
    · cases e
  · cases e
/-- a method of a list that changes it: what it makes of its items, and what it gives -/
def vMt (g : List Av → List Av → AH → Option (List Av × Av)) (mo : ME) (mr : MA) : ME := fun env h => (mo env h).bind fun (x, h1) => (lstM x h1).bind fun _ => (mr env h1).bind fun (ys, h2) => (lstM x h2).bind fun (n, xs) => (g xs ys h2).bind fun (zs, r) => some (r, h2.set n (.lv (.lst zs)))
def MtH (K : PySem.W.Frag) (r : V → List V → Hp → VK → Prop) (g : List Av → List Av → AH → Option (List Av × Av)) : Prop := ∀ (P : Addr → Prop) (H : Hp) (μ : List Addr) (h : AH) (a : Addr) (vs us : List V) (n : Nat) (xs ys zs : List Av) (z : Av) (Q : VK), Rl K P μ h H → h[n]? = some (.lv (.lst xs)) → μ[n]? = some a →
  H a = some (.lst vs) → RVs K H μ (Lv P μ h) vs xs → RVs K H μ (Lv P μ h) us ys → g xs ys h = some (zs, z) → (∀ ws w, RVs K H μ (Lv P μ h) ws zs → RV K H μ (Lv P μ h) w z → Q w (upd H a (.lst ws))) → r (.ref a) us H Q
theorem mt_ok {r : V → List V → Hp → VK → Prop} {g : List Av → List Av → AH → Option (List Av × Av)} (o : MtH K r g) {σ : L2.St} {H : Hp} {Q : VK} (hh : rE K (vMt g ma mr) σ H Q) : tBM K "list" r (rE K ma) (rA K mr) σ H Q := by
  obtain ⟨P, μ, env, h, z, h', rl, er, e, q⟩ := hh
  obtain ⟨⟨x, h1⟩, e1, e⟩ := bs e
  obtain ⟨⟨n0, xs0⟩, e0, e⟩ := bs e
  obtain ⟨⟨ys, h2⟩, e2, e⟩ := bs e
  obtain ⟨⟨n, xs⟩, e3, e⟩ := bs e
  obtain ⟨⟨zs, w⟩, e4, e⟩ := bs e
  cases e
  refine rE_to rl er e1 fun μ1 H1 v rl1 s1 er1 v1 => ?_
  obtain ⟨a0, vs0, hx0, hn0, hv0, hm0, hH0, rs0⟩ := lstM_rv rl1 v1 e0
  refine ⟨by rw [hv0]; exact .inl ⟨rfl, _, SqL.of hH0⟩, rA_to rl1 er1 e2 fun μ2 H2 us rl2 s2 er2 v2 => ?_⟩
  obtain ⟨a, vs, rfl, hn, rfl, hm, hH, rs⟩ := lstM_rv rl2 (v1.on rl1 s2) e3
  refine o P H2 μ2 h2 a vs us n xs ys zs _ Q rl2 hn hm hH rs v2 e4 fun ws w' r1 r2 => ?_
  obtain ⟨rl3, s3⟩ := rl2.wr hn hm (b' := .lst zs) (.lst r1)
  exact q μ2 _ w' rl3 ((s1.trans s2).trans s3) (r2.on rl2 s3)
theorem he_mt {r : V → List V → Hp → VK → Prop} {g : List Av → List Av → AH → Option (List Av × Av)} (o : MtH X.K r g) (p : PE X e (tBM X.K "list" r (rE X.K ma) (rA X.K mr))) : HE X e (vMt g ma mr) := pe_weak p fun σ H Q h => mt_ok o h
def vMt0 (g : List Av → List Av → AH → Option (List Av × Av)) (mo : ME) : ME := fun env h => (mo env h).bind fun (x, h1) => (lstM x h1).bind fun (n, xs) => (g xs [] h1).bind fun (zs, r) => some (r, h1.set n (.lv (.lst zs)))
theorem he_mt0 {r : V → List V → Hp → VK → Prop} {g : List Av → List Av → AH → Option (List Av × Av)} (o : MtH X.K r g) (p : PE X e (tBM0 X.K "list" r (rE X.K ma))) : HE X e (vMt0 g ma) := pe_weak p fun σ H Q ⟨P, μ, env, h, z, h', rl, er, e, q⟩ => by
  obtain ⟨⟨x, h1⟩, e1, e⟩ := bs e
  obtain ⟨⟨n, xs⟩, e3, e⟩ := bs e
  obtain ⟨⟨zs, w⟩, e4, e⟩ := bs e
  cases e
  refine rE_to rl er e1 fun μ1 H1 v rl1 s1 er1 v1 => ?_
  obtain ⟨a, vs, rfl, hn, rfl, hm, hH, rs⟩ := lstM_rv rl1 v1 e3
  refine ⟨.inl ⟨rfl, _, SqL.of hH⟩, ?_⟩
  refine o P H1 μ1 h1 a vs [] n xs [] zs _ Q rl1 hn hm hH rs .nil e4 fun ws w' r1 r2 => ?_
  obtain ⟨rl3, s3⟩ := rl1.wr hn hm (b' := .lst zs) (.lst r1)
  exact q μ1 _ w' rl3 (s1.trans s3) (r2.on rl1 s3)
def gAppend (xs ys : List Av) (_ : AH) : Option (List Av × Av) := match ys with
  | [y] => if xs.length < sizeLine then some (xs ++ [y], .d .non) else none
  | _ => none
theorem mtH_append : MtH K rAppend gAppend := fun P H μ h a vs us n xs ys zs z Q rl hn hm hH rs ru e q => by
  unfold gAppend at e
  split at e
  · obtain ⟨c, e⟩ := ifs e
    cases e
    cases ru with
    | cons r1 r2 =>
      cases r2
      exact ⟨a, vs, _, rfl, rfl, hH, by rw [rs.len]; exact c, q _ _ (rs.app (.one r1)) (.d .non fun a m => (nomatch m))⟩
  · cases e
def gPop (xs ys : List Av) (_ : AH) : Option (List Av × Av) := match ys with
  | [] => match xs[xs.length - 1]? with
    | some y => some (xs.dropLast, y)
    | none => none
  | _ => none
theorem mtH_pop : MtH K rPop gPop := fun P H μ h a vs us n xs ys zs z Q rl hn hm hH rs ru e q => by
  unfold gPop at e
  split at e
  · split at e
    · rename_i y hy
      cases e
      cases ru
      obtain ⟨v, h1, h2⟩ := rs.getA _ _ hy
      refine ⟨a, vs, v, rfl, rfl, hH, by rw [rs.len]; exact h1, q _ _ ?_ h2⟩
      rw [List.dropLast_eq_take, List.dropLast_eq_take, rs.len]
      exact rs.take _
    · cases e
  · cases e
def gPopAt (xs ys : List Av) (_ : AH) : Option (List Av × Av) := match ys with
  | [.d (.int i)] => if -(2 ^ 63) ≤ i ∧ i < 2 ^ 63 then (seqIndex? i xs.length).bind fun k => match xs[k]? with
    | some y => some (xs.eraseIdx k, y)
    | none => none
    else none
  | _ => none
theorem mtH_popAt : MtH K rPopAt gPopAt := fun P H μ h a vs us n xs ys zs z Q rl hn hm hH rs ru e q => by
  unfold gPopAt at e
  split at e
  · rename_i i
    obtain ⟨c, e⟩ := ifs e
    obtain ⟨k, hk, e⟩ := bs e
    split at e
    · rename_i y hy
      cases e
      cases ru with
      | cons r1 r2 =>
        cases r2
        cases r1 with
        | d r1 n1 =>
          cases r1
          obtain ⟨v, h1, h2⟩ := rs.getA _ _ hy
          exact ⟨a, vs, i, k, v, rfl, rfl, hH, c.1, c.2, by rw [rs.len]; exact hk, h1, q _ _ (rs.erase k) h2⟩
    · cases e
  · cases e
def gInsert (xs ys : List Av) (_ : AH) : Option (List Av × Av) := match ys with
  | [.d (.int i), y] => if xs.length < sizeLine ∧ 0 ≤ i ∧ i < 2 ^ 63 then some (xs.take i.toNat ++ [y] ++ xs.drop i.toNat, .d .non) else none
  | _ => none
def gReverse (xs ys : List Av) (_ : AH) : Option (List Av × Av) := match ys with
  | [] => some (xs.reverse, .d .non)
  | _ => none
end
end Fh
namespace Fh
open PySem PySem.Spec PyProof.Rows L2
open Fd (Dv Rep Reps SqF same_new OpD CallD UnD PE_or PT_or PS_or Cal TqT)
variable {P : Addr → Prop}
section
variable {X : Cx} {K : PySem.W.Frag} {a b c e tg : Expr} {es : List Expr} {pos : Pos} {ma mb mc me : ME} {ta tb : MT} {mr : MA}
/-! ### what is walked -/
theorem PI_or {tg e : Expr} {t u : TI} (h1 : PI X tg e t) (h2 : PI X tg e u) : PI X tg e (fun σ H R => t σ H R ∨ u σ H R) := ⟨fun pins s σ H R I h => by
  rcases h with h | h
  · exact h1.run pins s σ H R I h
  · exact h2.run pins s σ H R I h⟩
def signs (z : Str) : List Av := z.cps.toList.map fun c => .d (.str ⟨#[c]⟩)
/-- a list, a tuple, a text -/
def iAny (m : ME) : MI := fun env h => (m env h).bind fun (x, h1) => match itT x with
  | some xs => some ((xs, none), h1)
  | none => match strA x with
    | some z => some ((signs z, none), h1)
    | none => (itL h1 x).bind fun xs => some ((xs, (lockL x h1).2), (lockL x h1).1)
theorem hi_any (p1 : PI X tg e (iTup X.K (rE X.K me))) (p2 : PI X tg e (iStr (rE X.K me))) (p3 : PI X tg e (iList X.K (rE X.K me))) : HI X tg e (iAny me) := pi_weak (PI_or p1 (PI_or p2 p3)) fun σ H R ⟨P, μ, env, h, items, on, h', rl, er, e, q⟩ => by
  obtain ⟨⟨x, h1⟩, e1, e⟩ := bs e
  dsimp only at e
  split at e
  · rename_i xs hx
    cases e
    left
    refine rE_to rl er e1 fun μ1 H1 v rl1 s1 er1 v1 => ?_
    obtain ⟨a, vs, rfl, hs, rs⟩ := itT_rv v1 hx
    refine ⟨a, rfl, ⟨vs, hs.sq⟩, q μ1 H1 _ rl1 s1 (fun P' μ2 h2 H2 hi rl2 s2 => ?_) un1_none⟩
    have hs2 : TqT X.K H2 a vs := tqT_stepL rl1.nt s2.sqv hs
    have rs2 := rs.onP rl1 s2 hi
    refine ⟨⟨vs, hs2.sq, by rw [rs2.len]; exact Nat.le_refl _⟩, fun i x hx => ?_⟩
    obtain ⟨w, h3, h4⟩ := rs2.getA i x hx
    refine ⟨⟨vs, w, hs2.sq, h3⟩, fun y H3 ⟨z1, z2⟩ => ?_⟩
    subst z1
    have := z2 vs hs2.sq
    rw [h3] at this; cases this
    exact ⟨.refl _, h4⟩
  · rename_i hT
    split at e
    · rename_i z hz
      cases e
      right; left
      refine rE_to rl er e1 fun μ1 H1 v rl1 s1 er1 v1 => ?_
      have hv := strA_rv v1 hz
      subst hv
      refine ⟨z, rfl, q μ1 H1 _ rl1 s1 (fun P' μ2 h2 H2 hi rl2 s2 => ⟨?_, fun i x hx => ?_⟩) un1_none⟩
      · unfold signs; rw [List.length_map, Array.length_toList]; exact Nat.le_refl _
      · unfold signs at hx
        rw [List.getElem?_map] at hx
        obtain ⟨c, hc, rfl⟩ := Option.map_eq_some_iff.mp hx
        rw [Array.getElem?_toList] at hc
        refine ⟨(Array.getElem?_eq_some_iff.mp hc).1, fun y H3 ⟨z1, c', z2, z3⟩ => ?_⟩
        subst z1 z3
        rw [hc] at z2; cases z2
        exact ⟨.refl _, .d (.str _) fun a m => (nomatch m)⟩
    · obtain ⟨xs, hL, e⟩ := bs e
      cases e
      right; right
      refine rE_to rl er e1 fun μ1 H1 v rl1 s1 er1 v1 => ?_
      obtain ⟨a, vs, rfl, hs, rs⟩ := itL_rv rl1 v1 hL
      obtain ⟨k1, k2, _⟩ := lockL_ok rl1 v1
      refine ⟨a, rfl, ⟨vs, hs⟩, q μ1 H1 _ k1 (s1.trans k2) (fun P' μ2 h2 H2 hi rl2 s2 => ?_) (un1_lock (v := .ref a) rl rl1 s1 hL)⟩
      have v2 := (v1.on rl1 k2).onP k1 s2 hi
      have hL2 : itL h2 x = some items := by
        cases v1 with
        | @d v x G r n => cases x <;> exact hL
        | tup _ _ => cases hL
        | lst _ _ _ => exact hL
        | @ref n a hm =>
          unfold itL at hL ⊢
          cases hr : rd h1 n with
          | none => simp only [hr] at hL; cases hL
          | some b =>
            simp only [hr] at hL
            have lk1 : (lockL (.ref n) h1).1[n]? = some (.lk b) := by
              unfold rd at hr
              split at hr
              · rename_i b' z
                cases hr
                unfold lockL; simp only [z]
                exact List.getElem?_set_self (List.getElem?_eq_some_iff.mp z).1
              · rename_i b' z
                cases hr
                unfold lockL; simp only [z]
              · cases hr
            have := (s2.lk n b a lk1 hm).1
            have : rd h2 n = some b := by unfold rd; rw [this]
            simp only [this]
            exact hL
      obtain ⟨a2, vs2, ha2, hs2, rs2⟩ := itL_rv rl2 v2 hL2
      cases ha2
      refine ⟨⟨vs2, hs2, by rw [rs2.len]; exact Nat.le_refl _⟩, fun i x hx => ?_⟩
      obtain ⟨w, h3, h4⟩ := rs2.getA i x hx
      refine ⟨⟨vs2, w, hs2, h3⟩, fun y H3 ⟨z1, z2⟩ => ?_⟩
      subst z1
      have := z2 vs2 hs2
      rw [h3] at this; cases this
      exact ⟨.refl _, h4⟩
def rng (lo : Int) (n : Nat) : List Av := (List.range n).map fun (i : Nat) => .d (.int (lo + (i : Int)))
theorem itH_rng {lo : Int} {n : Nat} {μ : List Addr} {h : AH} {H : Hp} : ItH K P (Itr lo n) μ h H (rng lo n) := fun P' μ2 h2 H2 hi rl2 s2 => ⟨by unfold rng; rw [List.length_map, List.length_range]; exact Nat.le_refl n, fun i x hx => by
  unfold rng at hx
  rw [List.getElem?_map] at hx
  obtain ⟨j, hj, rfl⟩ := Option.map_eq_some_iff.mp hx
  obtain ⟨h1, h2⟩ := List.getElem?_eq_some_iff.mp hj
  rw [List.length_range] at h1
  rw [List.getElem_range] at h2
  subst h2
  exact ⟨h1, fun y H' ⟨e1, e2⟩ => by subst e1 e2; exact ⟨.refl _, .d (.int _) fun a m => (nomatch m)⟩⟩⟩
def iRg1 (m : ME) : MI := fun env h => (m env h).bind fun (x, h1) => (intA x).bind fun j => if -(2 ^ 62) ≤ j ∧ j < 2 ^ 62 then some ((rng 0 j.toNat, none), h1) else none
def iRg2 (m n : ME) : MI := fun env h => (m env h).bind fun (x, h1) => (n env h1).bind fun (y, h2) => (intA x).bind fun i => (intA y).bind fun j => if -(2 ^ 62) ≤ i ∧ i < 2 ^ 62 ∧ -(2 ^ 62) ≤ j ∧ j < 2 ^ 62 then some ((rng i (j - i).toNat, none), h2) else none
theorem hi_rg1 (p : PI X tg e (iRng1 (rA X.K (aCons ma aNil)))) : HI X tg e (iRg1 ma) := pi_weak p fun σ H R ⟨P, μ, env, h, items, on, h', rl, er, e, q⟩ => by
  obtain ⟨⟨x, h1⟩, e1, e⟩ := bs e
  obtain ⟨j, hj, e⟩ := bs e
  obtain ⟨c, e⟩ := ifs e
  cases e
  refine rA_to rl er (r := [x]) (by unfold aCons aNil; rw [e1]; rfl) fun μ1 H1 vs rl1 s1 er1 v1 => ?_
  cases v1 with
  | cons r1 r2 =>
    cases r2
    have := intA_rv r1 hj
    subst this
    exact ⟨j, rfl, c.1, c.2, q μ1 H1 _ rl1 s1 itH_rng un1_none⟩
theorem hi_rg2 (p : PI X tg e (iRng2 (rA X.K (aCons ma (aCons mb aNil))))) : HI X tg e (iRg2 ma mb) := pi_weak p fun σ H R ⟨P, μ, env, h, items, on, h', rl, er, e, q⟩ => by
  obtain ⟨⟨x, h1⟩, e1, e⟩ := bs e
  obtain ⟨⟨y, h2⟩, e2, e⟩ := bs e
  obtain ⟨i, hi, e⟩ := bs e
  obtain ⟨j, hj, e⟩ := bs e
  obtain ⟨c, e⟩ := ifs e
  cases e
  refine rA_to rl er (r := [x, y]) (by unfold aCons; rw [e1]; show ((mb env h1).bind _).bind _ = _; rw [e2]; rfl) fun μ1 H1 vs rl1 s1 er1 v1 => ?_
  cases v1 with
  | cons r1 r2 =>
    cases r2 with
    | cons r2 r3 =>
      cases r3
      have := intA_rv r1 hi
      have := intA_rv r2 hj
      subst_vars
      exact ⟨i, j, rfl, c, q μ1 H1 _ rl1 s1 itH_rng un1_none⟩
/-! ### comprehensions -/
def wipeE (env : Env) : List Nat → Env
  | [] => env
  | v :: vs => (wipeE env vs).set v none
theorem wipeE_get {env : Env} {i : Nat} {x : Av} : ∀ {vs : List Nat}, (wipeE env vs)[i]? = some (some x) → env[i]? = some (some x) ∧ i ∉ vs
  | [], h => ⟨h, fun z => nomatch z⟩
  | v :: vs, h => by
    unfold wipeE at h
    by_cases hi : v = i
    · subst hi
      by_cases hv : v < (wipeE env vs).length
      · rw [List.getElem?_set_self hv] at h; cases h
      · rw [List.getElem?_eq_none (by simpa using hv)] at h; cases h
    · rw [List.getElem?_set_ne hi] at h
      obtain ⟨h1, h2⟩ := wipeE_get h
      exact ⟨h1, fun z => (List.mem_cons.mp z).elim (fun y => hi y.symm) h2⟩
theorem wipeE_len {env : Env} : ∀ vs : List Nat, (wipeE env vs).length = env.length
  | [] => rfl
  | v :: vs => by unfold wipeE; rw [List.length_set, wipeE_len vs]
theorem wipe_er {H : Hp} {μ : List Addr} {h : AH} {σ : L2.St} {env : Env} {vs : List Nat} (e : EvR K P H μ h σ env) : EvR K P H μ h (wipe σ vs) (wipeE env vs) :=
  ⟨by rw [wipe_length, wipeE_len]; exact e.len, fun i x z => by
    obtain ⟨h1, h2⟩ := wipeE_get z
    obtain ⟨v, h3, h4⟩ := e.get i x h1
    exact ⟨v, by rw [wipe_out h2]; exact h3, h4⟩⟩
/-- the turns of a comprehension -/
def runLc (env : Env) (g : MG) (t : MT) (m : ME) : List Av → AH → Option (List Av × AH)
  | [], h => some ([], h)
  | x :: xs, h => (g x env h).bind fun (env1, h1) => (t env1 h1).bind fun (b, h2) => if b = true then
      (m env1 h2).bind fun (y, h3) => (runLc env g t m xs h3).bind fun (ys, h4) => some (y :: ys, h4)
    else runLc env g t m xs h2
def lcM (mi : MI) (vs : List Nat) (g : MG) (t : MT) (m : ME) (env : Env) (h : AH) : Option (List Av × AH) := (mi env h).bind fun ((p, on), h1) => (runLc (wipeE env vs) g t m p h1).bind fun (ys, h2) => if ys.length ≤ sizeLine then some (ys, unlk on h2) else none
def vLc (mi : MI) (vs : List Nat) (g : MG) (t : MT) (m : ME) : ME := fun env h => (lcM mi vs g t m env h).bind fun (ys, h1) => some (mkL ys, h1)
def vLcC (mi : MI) (vs : List Nat) (g : MG) (t : MT) (m : ME) : ME := fun env h => (lcM mi vs g t m env h).bind fun (ys, h1) => some (.ref h1.length, h1 ++ [.lv (.lst ys)])
def tYesM : MT := fun _ h => some (true, h)
theorem tYes_ok {σ : L2.St} {H : Hp} {Q : Bool → Hp → Prop} (h : rT K tYesM σ H Q) : tYes σ H Q := by
  obtain ⟨P, μ, env, h, z, h', rl, er, e, q⟩ := h
  cases e
  exact q μ H rl .refl
/-- what is made grows -/
theorem Rl.grow {H : Hp} {μ : List Addr} {h : AH} {D : Addr} {us vs : List V} (r : Rl K P μ h H) (hP : P D) (hD : H D = some (.lst us)) : Rl K P μ h (upd H D (.lst vs)) ∧ (∀ {σ : L2.St} {env : Env}, EvR K P H μ h σ env → EvR K P (upd H D (.lst vs)) μ h σ env) ∧ (∀ {us : List V} {xs : List Av}, RVs K H μ (Lv P μ h) us xs → RVs K (upd H D (.lst vs)) μ (Lv P μ h) us xs) := by
  have sq : Sq (Lv P μ h) H (upd H D (.lst vs)) := ⟨fun a o e n => by rw [upd_ne fun z => n (.inl (by rw [z]; exact hP))]; exact e, fun a e => by
    by_cases z : a = D
    · subst z; rw [upd_same] at e; cases e
    · rw [upd_ne z] at e; exact e⟩
  have nm : D ∉ μ := (r.pp D hP).1
  have ne : ∀ {n : Nat} {a : Addr}, μ[n]? = some a → a ≠ D := fun e z => nm (by rw [← z]; exact List.mem_of_getElem? e)
  have up : ∀ {u : HO} {b : Bd}, BdR K H μ (Lv P μ h) u b → BdR K (upd H D (.lst vs)) μ (Lv P μ h) u b := fun q => q.step r.nt sq (List.prefix_refl _) fun _ z => .inl z
  refine ⟨⟨r.len, r.nd, fun a m z => r.al a m (sq.al a z), fun n b e => ?_, fun n b e => ?_, fun a z => ?_⟩, fun e => ⟨e.len, fun i x z => (let ⟨v, h1, h2⟩ := e.get i x z; ⟨v, h1, h2.step r.nt sq (List.prefix_refl _) fun _ z => .inl z⟩)⟩, fun q => q.step r.nt sq (List.prefix_refl _) fun _ z => .inl z⟩
  · obtain ⟨a, u, e1, e2, e3⟩ := r.lv n b e
    exact ⟨a, u, e1, by rw [upd_ne (ne e1)]; exact e2, up e3⟩
  · obtain ⟨a, u, e1, e2, e3⟩ := r.lk n b e
    exact ⟨a, u, e1, by rw [upd_ne (ne e1)]; exact e2, up e3⟩
  · obtain ⟨n1, xs, e⟩ := r.pp a z
    refine ⟨n1, ?_⟩
    by_cases y : a = D
    · subst y; exact ⟨_, upd_same⟩
    · exact ⟨xs, by rw [upd_ne y]; exact e⟩
/-- less is made -/
theorem Rl.less {P' : Addr → Prop} {H : Hp} {μ : List Addr} {h : AH} (r : Rl K P μ h H) (i : ∀ a, P' a → P a) : Rl K P' μ h H ∧ (∀ {us : List V} {xs : List Av}, RVs K H μ (Lv P μ h) us xs → RVs K H μ (Lv P' μ h) us xs) := by
  have l : ∀ a, Lv P' μ h a → Lv P μ h a ∨ H a = none := fun a z => .inl (z.imp_left (i a))
  exact ⟨⟨r.len, r.nd, r.al, fun n b e => (let ⟨a, u, e1, e2, e3⟩ := r.lv n b e; ⟨a, u, e1, e2, e3.step r.nt .refl (List.prefix_refl _) l⟩), fun n b e => (let ⟨a, u, e1, e2, e3⟩ := r.lk n b e; ⟨a, u, e1, e2, e3.step r.nt .refl (List.prefix_refl _) l⟩), fun a z => r.pp a (i a z)⟩, fun q => q.step r.nt .refl (List.prefix_refl _) l⟩
/-- a new thing that is made -/
theorem Rl.make {H : Hp} {μ : List Addr} {h : AH} {D : Addr} (r : Rl K P μ h H) (hD : H D = none) : Rl K (fun a => P a ∨ a = D) μ h (upd H D (.lst [])) ∧ (∀ {σ : L2.St} {env : Env}, EvR K P H μ h σ env → EvR K (fun a => P a ∨ a = D) (upd H D (.lst [])) μ h σ env) ∧ (∀ {us : List V} {xs : List Av}, RVs K H μ (Lv P μ h) us xs → RVs K (upd H D (.lst [])) μ (Lv (fun a => P a ∨ a = D) μ h) us xs) := by
  have sm : Same H (upd H D (.lst [])) := same_new hD
  have l : ∀ a, Lv (fun a => P a ∨ a = D) μ h a → Lv P μ h a ∨ H a = none := fun a z => by
    rcases z with (z | z) | z
    · exact .inl (.inl z)
    · exact .inr (by rw [z]; exact hD)
    · exact .inl (.inr z)
  have sq : Sq (Lv P μ h) H (upd H D (.lst [])) := .same sm
  refine ⟨⟨r.len, r.nd, fun a m z => r.al a m (sm.free z), fun n b e => (let ⟨a, u, e1, e2, e3⟩ := r.lv n b e; ⟨a, u, e1, sm a u e2, e3.step r.nt sq (List.prefix_refl _) l⟩), fun n b e => (let ⟨a, u, e1, e2, e3⟩ := r.lk n b e; ⟨a, u, e1, e2.imp (sm a u) (fun ⟨hb, o, q⟩ => ⟨hb, o, sm a _ q⟩), e3.step r.nt sq (List.prefix_refl _) l⟩), fun a z => ?_⟩,
    fun e => ⟨e.len, fun i x z => (let ⟨v, h1, h2⟩ := e.get i x z; ⟨v, h1, h2.step r.nt sq (List.prefix_refl _) l⟩)⟩, fun q => q.step r.nt sq (List.prefix_refl _) l⟩
  rcases z with z | z
  · obtain ⟨n1, xs, e⟩ := r.pp a z
    exact ⟨n1, xs, sm a _ e⟩
  · subst z
    exact ⟨fun m => r.al a m hD, [], upd_same⟩
/-- the walk of a comprehension; D: the new list -/
theorem lc_H {J : It} {g : MG} {ws vs : List Nat} {t : MT} {m : ME} {items ys : List Av} {Q : VK} {σ : L2.St} {H1 : Hp} {μ1 : List Addr} {env : Env} {h1 hF : AH} (hw : ∀ j ∈ ws, j ∈ vs) (rl : Rl K P μ1 h1 H1) (er : EvR K P H1 μ1 h1 σ env) (it : ItH K P J μ1 h1 H1 items)
    (e : runLc (wipeE env vs) g t m items h1 = some (ys, hF)) (hz : ys.length ≤ sizeLine)
    (D : Addr) (hD : H1 D = none) (q : ∀ μ' H' us, Rl K (fun a => P a ∨ a = D) μ' hF H' → Sp μ1 h1 H1 μ' hF H' → H' D = some (.lst us) → RVs K H' μ' (Lv (fun a => P a ∨ a = D) μ' hF) us ys → Q (.ref D) H') :
    ∃ W : Nat → Nat → Hp → Prop, (∃ m, W 0 m (upd H1 D (.lst []))) ∧ ∀ i m' H, W i m' H →
      (J.stop i H ∧ Q (.ref D) H) ∨ (J.go i H ∧ ∃ Nx : Hp → Prop, (∀ H', Nx H' → ∃ m'', m'' < m' ∧ W (i + 1) m'' H') ∧ ∀ x H', J.yld i H x H' → rG K ws g x (wipe σ vs) H' fun σ2 H2 => wipe σ2 vs = wipe σ vs ∧ rT K t σ2 H2 fun b H3 =>
        if b = true then rE K m σ2 H3 fun y H4 => ∃ acc, H4 D = some (.lst acc) ∧ acc.length < sizeLine ∧ Nx (upd H4 D (.lst (acc ++ [y]))) else Nx H3) := by
  have sm : Same H1 (upd H1 D (.lst [])) := same_new hD
  obtain ⟨rl0, er0, rv0⟩ := rl.make hD
  have s0 : Sp μ1 h1 H1 μ1 h1 (upd H1 D (.lst [])) := .same rl sm
  refine ⟨fun i m' H' => m' = items.length - i ∧ i ≤ items.length ∧ ∃ μ2 h2 us as bs', Rl K (fun a => P a ∨ a = D) μ2 h2 H' ∧ Sp μ1 h1 H1 μ2 h2 H' ∧ (∀ {σ : L2.St} {env : Env}, EvR K (fun a => P a ∨ a = D) (upd H1 D (.lst [])) μ1 h1 σ env → EvR K (fun a => P a ∨ a = D) H' μ2 h2 σ env) ∧ H' D = some (.lst us) ∧ RVs K H' μ2 (Lv (fun a => P a ∨ a = D) μ2 h2) us as ∧ as ++ bs' = ys ∧ runLc (wipeE env vs) g t m (items.drop i) h2 = some (bs', hF), ?_, ?_⟩
  · exact ⟨_, rfl, Nat.zero_le _, μ1, h1, [], [], ys, rl0, s0, (fun z => z), upd_same, .nil, rfl, e⟩
  rintro i m' H' ⟨rfl, hi, μ2, h2, us, as, bs', rl2, s2, ev2, hDl, rus, hys, e2⟩
  have PD : (fun a => P a ∨ a = D) D := .inr rfl
  have hPi : ∀ a, (P a ∨ a = D) → P a ∨ H1 a = none := fun a z => z.imp_right fun z => by rw [z]; exact hD
  by_cases hlt : i < items.length
  · right
    have hd : items.drop i = items[i] :: items.drop (i + 1) := List.drop_eq_getElem_cons hlt
    rw [hd] at e2
    unfold runLc at e2
    obtain ⟨⟨env3, h3⟩, g3, e2⟩ := bs e2
    obtain ⟨⟨b, h4⟩, t4, e2⟩ := bs e2
    obtain ⟨_, turn⟩ := it _ μ2 h2 H' hPi rl2 s2
    obtain ⟨go, yl⟩ := turn i _ (List.getElem?_eq_getElem hlt)
    refine ⟨go, fun H5 => ∃ μ5 h5 us as bs', Rl K (fun a => P a ∨ a = D) μ5 h5 H5 ∧ Sp μ1 h1 H1 μ5 h5 H5 ∧ (∀ {σ : L2.St} {env : Env}, EvR K (fun a => P a ∨ a = D) (upd H1 D (.lst [])) μ1 h1 σ env → EvR K (fun a => P a ∨ a = D) H5 μ5 h5 σ env) ∧ H5 D = some (.lst us) ∧ RVs K H5 μ5 (Lv (fun a => P a ∨ a = D) μ5 h5) us as ∧ as ++ bs' = ys ∧ runLc (wipeE env vs) g t m (items.drop (i + 1)) h5 = some (bs', hF), fun H5 z => ⟨items.length - (i + 1), by omega, rfl, hlt, z⟩, fun y H3 hy => ?_⟩
    obtain ⟨sm3, rv⟩ := yl y H3 hy
    have rl3' := rl2.same sm3
    have s23 : Sp μ2 h2 H' μ2 h2 H3 := .same rl2 sm3
    have er3' : EvR K (fun a => P a ∨ a = D) H3 μ2 h2 (wipe σ vs) (wipeE env vs) := (wipe_er (ev2 (er0 er))).on rl2 s23
    refine ⟨_, μ2, wipeE env vs, h2, _, env3, h3, rl3', er3', rv, g3, fun μ3 H4 σ3 rl3 s3 er3 l3 o3 => ⟨?_, ?_⟩⟩
    · refine List.ext_getElem? fun j => ?_
      by_cases hj : j ∈ vs
      · by_cases hl : j < σ.length
        · rw [Fd.wipe_in hl hj, Fd.wipe_in (by rw [l3, wipe_length]; exact hl) hj]
        · rw [List.getElem?_eq_none (by rw [wipe_length, l3, wipe_length]; exact Nat.not_lt.mp hl), List.getElem?_eq_none (by rw [wipe_length]; exact Nat.not_lt.mp hl)]
      · rw [wipe_out hj]
        exact o3 j fun z => hj (hw j z)
    have keepD : ∀ {μ' : List Addr} {h' : AH} {H5 : Hp}, Sp μ2 h2 H' μ' h' H5 → H5 D = some (.lst us) := fun {μ' h' H5} s => s.sq.keep D _ hDl fun z => (rl2.pp D PD).1 (lc_mem z)
    refine rT_to rl3 er3 t4 fun μ4 H5 rl4 s4 er4 => ?_
    have s24 : Sp μ2 h2 H' μ4 h4 H5 := (s23.trans s3).trans s4
    cases b with
    | false =>
      rw [if_neg Bool.false_ne_true]
      exact ⟨μ4, h4, us, as, bs', rl4, s2.trans s24, fun z => (ev2 z).on rl2 s24, keepD s24, rus.on rl2 s24, hys, e2⟩
    | true =>
      rw [if_pos rfl]
      obtain ⟨⟨y5, h5⟩, e5, e2⟩ := bs (show (m env3 h4).bind _ = some (bs', hF) from e2)
      obtain ⟨⟨zs, h6⟩, e6, e2⟩ := bs e2
      cases e2
      refine rE_to rl4 er4 e5 fun μ5 H6 v rl5 s5 er5 v5 => ?_
      have s25 := s24.trans s5
      have k1 := keepD s25
      have rus5 := rus.on rl2 s25
      obtain ⟨g1, g2, g3⟩ := rl5.grow (vs := us ++ [v]) PD k1
      refine ⟨us, k1, ?_, μ5, h5, us ++ [v], as ++ [y5], zs, g1, ?_, fun z => g2 ((ev2 z).on rl2 s25), upd_same, g3 (rus5.app (.one v5)), by rw [← hys, List.append_assoc]; rfl, e6⟩
      · rw [rus.len]
        rw [← hys, List.length_append, List.length_cons] at hz
        omega
      · have s15 := s2.trans s25
        refine ⟨s15.pre, ⟨fun a o e n => ?_, fun a e => ?_⟩, s15.live, fun n b a z1 z2 => ?_⟩
        · rw [upd_ne fun z => by subst z; rw [hD] at e; cases e]
          exact s15.sq.keep a o e n
        · refine s15.sq.al a ?_
          by_cases z : a = D
          · subst z; rw [upd_same] at e; cases e
          · rw [upd_ne z] at e; exact e
        · obtain ⟨y1, y2⟩ := s15.lk n b a z1 z2
          refine ⟨y1, ?_⟩
          rw [upd_ne fun z => by subst z; exact rl.al a (List.mem_of_getElem? z2) hD]
          exact y2
  · left
    have hi' : i = items.length := by omega
    subst hi'
    rw [List.drop_length] at e2
    cases e2
    rw [List.append_nil] at hys
    subst hys
    exact ⟨(it _ μ2 _ H' hPi rl2 s2).1, q μ2 H' us rl2 s2 hDl rus⟩
theorem tLc_ok {mi : MI} {vs ws : List Nat} {g : MG} {t : MT} {m : ME} {σ : L2.St} {H : Hp} {Q : VK} (hw : ∀ j ∈ ws, j ∈ vs)
    (h : ∃ P μ env h ys h', Rl K P μ h H ∧ EvR K P H μ h σ env ∧ lcM mi vs g t m env h = some (ys, h') ∧ ∀ μ' H' us D, Rl K (fun a => P a ∨ a = D) μ' h' H' → Sp μ h H μ' h' H' → H D = none → H' D = some (.lst us) → RVs K H' μ' (Lv (fun a => P a ∨ a = D) μ' h') us ys → Q (.ref D) H') :
    tLc (rI K mi) (rG K ws g) (rT K t) (rE K m) vs σ H Q := by
  obtain ⟨P, μ, env, h, ys, h', rl, er, e, q⟩ := h
  obtain ⟨⟨⟨items, on⟩, h1⟩, e1, e⟩ := bs e
  obtain ⟨⟨zs, h2⟩, e2, e⟩ := bs e
  obtain ⟨c, e⟩ := ifs e
  cases e
  refine ⟨P, μ, env, h, items, on, h1, rl, er, e1, fun μ1 H1 J rl1 s1 it un => ?_⟩
  intro D hD
  have un' : ∀ μ2 h2 H2, Rl K (fun a => P a ∨ a = D) μ2 h2 H2 → Sp μ1 h1 H1 μ2 h2 H2 → Rl K (fun a => P a ∨ a = D) μ2 (unlk on h2) H2 := fun μ2 h2 H2 r s => un.2 (fun a => P a ∨ a = D) μ2 h2 H2 r s
  refine lc_H hw rl1 (er.on rl s1) it e2 c D hD fun μ2 H2 us rl2 s2 hl rus => ?_
  exact q μ2 H2 us D (un' μ2 h2 H2 rl2 s2) (unlk_sp (s1.trans s2) un.1) (s1.sq.al D hD) hl (rus.step rl2.nt .refl (List.prefix_refl _) fun _ z => .inl (unlk_lv z))
theorem vLc_ok {mi : MI} {vs ws : List Nat} {g : MG} {t : MT} {m : ME} {σ : L2.St} {H : Hp} {Q : VK} (hw : ∀ j ∈ ws, j ∈ vs) (h : rE K (vLc mi vs g t m) σ H Q) : tLc (rI K mi) (rG K ws g) (rT K t) (rE K m) vs σ H Q := by
  obtain ⟨P, μ, env, h, z, h', rl, er, e, q⟩ := h
  obtain ⟨⟨ys, h1⟩, e1, e⟩ := bs e
  cases e
  refine tLc_ok hw ⟨P, μ, env, h, ys, _, rl, er, e1, fun μ2 H2 us D rl2 s2 hD hl rus => ?_⟩
  obtain ⟨rl3, r3⟩ := rl2.less (P' := P) fun a z => .inl z
  refine q μ2 H2 _ rl3 s2 (mkL_rv hl (fun z => ?_) (r3 rus))
  rcases z with z | z
  · obtain ⟨_, xs, e⟩ := rl.pp D z
    rw [hD] at e; cases e
  · exact (rl2.pp D (.inr rfl)).1 (lc_mem z)
theorem vLcC_ok {mi : MI} {vs ws : List Nat} {g : MG} {t : MT} {m : ME} {σ : L2.St} {H : Hp} {Q : VK} (hw : ∀ j ∈ ws, j ∈ vs) (h : rE K (vLcC mi vs g t m) σ H Q) : tLc (rI K mi) (rG K ws g) (rT K t) (rE K m) vs σ H Q := by
  obtain ⟨P, μ, env, h, z, h', rl, er, e, q⟩ := h
  obtain ⟨⟨ys, h1⟩, e1, e⟩ := bs e
  cases e
  refine tLc_ok hw ⟨P, μ, env, h, ys, _, rl, er, e1, fun μ2 H2 us D rl2 s2 hD hl rus => ?_⟩
  have nm : D ∉ μ2 := (rl2.pp D (.inr rfl)).1
  have nP : ∀ a, P a → a ≠ D := fun a z y => by
    subst y
    obtain ⟨_, xs, e⟩ := rl.pp a z
    rw [hD] at e; cases e
  have lv : ∀ a, Lv P (μ2 ++ [D]) (h1 ++ [Nd.lv (.lst ys)]) a → Lv (fun a => P a ∨ a = D) μ2 h1 a ∨ H2 a = none := fun a z => by
    rcases z with z | z
    · exact .inl (.inl (.inl z))
    · rcases lc_new rl2.len z with z | z
      · exact .inl (.inr z)
      · exact .inl (.inl (.inr z))
  have rl3 := rl2.adoptP (P' := P) (b := .lst ys) (o := .lst us) (.refl H2) nm hl (fun a z => ⟨.inl z, nP a z⟩) (fun a z => .inl (.inr z)) (.lst (rus.step rl2.nt .refl (List.prefix_append _ _) lv))
  refine q _ H2 _ rl3 ⟨s2.pre.trans (List.prefix_append _ _), s2.sq, fun a z => ?_, fun n b a z1 z2 => ?_⟩ (.ref (by rw [← rl2.len, List.getElem?_append_right (Nat.le_refl _), Nat.sub_self]; rfl))
  · rcases lc_new rl2.len z with z | z
    · exact s2.live a z
    · exact .inr (by rw [z]; exact hD)
  · obtain ⟨y1, y2⟩ := s2.lk n b a z1 z2
    exact ⟨by rw [List.getElem?_append_left (List.getElem?_eq_some_iff.mp y1).1]; exact y1, y2⟩
theorem he_lc {vs ws : List Nat} {mi : MI} {g : MG} {t : MT} {m : ME} {own : List (Str × Nat)} (hv : own.map (·.2) = vs) (hw : ∀ j ∈ ws, j ∈ vs) (p : PE X e (tLc (rI X.K mi) (rG X.K ws g) (rT X.K t) (rE X.K m) (own.map (·.2)))) : HE X e (vLc mi vs g t m) := by subst hv; exact pe_weak p fun σ H Q h => vLc_ok hw h
theorem he_lcC {vs ws : List Nat} {mi : MI} {g : MG} {t : MT} {m : ME} {own : List (Str × Nat)} (hv : own.map (·.2) = vs) (hw : ∀ j ∈ ws, j ∈ vs) (p : PE X e (tLc (rI X.K mi) (rG X.K ws g) (rT X.K t) (rE X.K m) (own.map (·.2)))) : HE X e (vLcC mi vs g t m) := by subst hv; exact pe_weak p fun σ H Q h => vLcC_ok hw h
theorem hs_setLc {vs ws : List Nat} {mi : MI} {g : MG} {t : MT} {m : ME} {i : Nat} {s : Stmt} {own : List (Str × Nat)} (hv : own.map (·.2) = vs) (hw : ∀ j ∈ ws, j ∈ vs) (p : PS X s (tAsg (tLc (rI X.K mi) (rG X.K ws g) (rT X.K t) (rE X.K m) (own.map (·.2))) (gName i))) : HS X s (sSet i (vLc mi vs g t m)) := by
  subst hv
  refine ps_weak p fun D σ H ⟨P, μ, env, h, o, h', rl, er, e, q⟩ => ?_
  obtain ⟨⟨x, h1⟩, e1, e⟩ := bs e
  cases e
  exact vLc_ok hw (rE_to rl er e1 fun μ1 H1 v rl1 s1 er1 r1 => q μ1 H1 rl1 s1 _ (er1.set r1))
theorem hs_setLcC {vs ws : List Nat} {mi : MI} {g : MG} {t : MT} {m : ME} {i : Nat} {s : Stmt} {own : List (Str × Nat)} (hv : own.map (·.2) = vs) (hw : ∀ j ∈ ws, j ∈ vs) (p : PS X s (tAsg (tLc (rI X.K mi) (rG X.K ws g) (rT X.K t) (rE X.K m) (own.map (·.2))) (gName i))) : HS X s (sSet i (vLcC mi vs g t m)) := by
  subst hv
  refine ps_weak p fun D σ H ⟨P, μ, env, h, o, h', rl, er, e, q⟩ => ?_
  obtain ⟨⟨x, h1⟩, e1, e⟩ := bs e
  cases e
  exact vLcC_ok hw (rE_to rl er e1 fun μ1 H1 v rl1 s1 er1 r1 => q μ1 H1 rl1 s1 _ (er1.set r1))
end
end Fh
namespace Fh
open PySem PySem.Spec PyProof.Rows L2
open Fd (Dv Rep Reps SqF same_new OpD CallD UnD PE_or PT_or PS_or Cal TqT kD)
variable {P : Addr → Prop}
/-! ### a dict locked while it is walked -/
def IsDo : HO → Prop
  | .dK _ => True
  | .dT _ => True
  | _ => False
section
variable {K : PySem.W.Frag} {H H' : Hp} {d : Addr} {u : HO} {μ : List Addr} {L : Addr → Prop}
theorem rd_ne {a : Addr} {o : HO} (hu : IsDo u) (hd : Rd H d u) (h : H a = some o) (n1 : ¬ IsDo o) (n2 : ∀ ob k, IsDo k → o ≠ .frz ob k) : a ≠ d := fun z => by
  subst z
  rcases hd with hd | ⟨ob, hd⟩
  · rw [h] at hd; cases hd; exact n1 hu
  · rw [h] at hd; cases hd; exact n2 _ _ hu rfl
theorem rd_sw {a : Addr} {o : HO} (hu : IsDo u) (hd : Rd H d u) (hd' : Rd H' d u) (ne : ∀ a, a ≠ d → H' a = H a) (ho : IsDo o) (h : Rd H a o) : Rd H' a o := by
  by_cases z : a = d
  · subst z
    have e : o = u := by
      rcases h with h | ⟨o1, h⟩ <;> rcases hd with hd | ⟨o2, hd⟩
      · rw [h] at hd; cases hd; rfl
      · rw [h] at hd; cases hd; exact ho.elim
      · rw [h] at hd; cases hd; exact hu.elim
      · rw [h] at hd; cases hd; rfl
    rw [e]; exact hd'
  · rcases h with h | ⟨o1, h⟩
    · exact .inl (by rw [ne a z]; exact h)
    · exact .inr ⟨o1, by rw [ne a z]; exact h⟩
theorem tqT_sw {a : Addr} {xs : List V} (hu : IsDo u) (hd : Rd H d u) (ne : ∀ a, a ≠ d → H' a = H a) (h : TqT K H a xs) : TqT K H' a xs := by
  have k : ∀ {o : HO}, H a = some o → ¬ IsDo o → (∀ ob k, IsDo k → o ≠ .frz ob k) → H' a = some o := fun h n1 n2 => by rw [ne _ (rd_ne hu hd h n1 n2)]; exact h
  rcases h with h | ⟨h, e⟩
  · exact .inl (k h (fun z => z) fun _ _ _ z => nomatch z)
  refine .inr ⟨?_, e.imp id fun ⟨o, h1, h2⟩ => ⟨o, k h1 (fun z => z) (fun _ _ hk z => by cases z; exact hk), h2⟩⟩
  rcases h with (h | ⟨o, h⟩) | h
  · exact .inl (.inl (k h (fun z => z) fun _ _ _ z => nomatch z))
  · exact .inl (.inr ⟨o, k h (fun z => z) fun _ _ hk z => by cases z; exact hk⟩)
  · exact .inr h
mutual
theorem rep_sw (hu : IsDo u) (hd : Rd H d u) (hd' : Rd H' d u) (ne : ∀ a, a ≠ d → H' a = H a) {v : V} {x : Dv} {G : List Addr} : Rep K H v x G → Rep K H' v x G
  | .non => .non
  | .bl b => .bl b
  | .int i => .int i
  | .str x => .str x
  | .tup h r => .tup (tqT_sw hu hd ne h) (reps_sw hu hd hd' ne r)
  | .lst h r => .lst (by rw [ne _ (rd_ne hu hd h (fun z => z) (fun _ _ _ z => nomatch z))]; exact h) (reps_sw hu hd hd' ne r)
  | .frl h => .frl (by
      rcases h with ⟨o, h⟩ | h
      · exact .inl ⟨o, by rw [ne _ (rd_ne hu hd h (fun z => z) (fun _ _ hk z => by cases z; exact hk))]; exact h⟩
      · exact .inr h)
  | .dct h e r => .dct (rd_sw hu hd hd' ne True.intro h) e (reps_sw hu hd hd' ne r)
  | .dctT h e r => .dctT (rd_sw hu hd hd' ne True.intro h) e (reps_sw hu hd hd' ne r)
  | .obj h e r => .obj (by rw [ne _ (rd_ne hu hd h (fun z => z) (fun _ _ _ z => nomatch z))]; exact h) e (reps_sw hu hd hd' ne r)
theorem reps_sw (hu : IsDo u) (hd : Rd H d u) (hd' : Rd H' d u) (ne : ∀ a, a ≠ d → H' a = H a) {vs : List V} {xs : List Dv} {G : List Addr} : Reps K H vs xs G → Reps K H' vs xs G
  | .nil => .nil
  | .cons h r => .cons (rep_sw hu hd hd' ne h) (reps_sw hu hd hd' ne r)
end
mutual
theorem RV.sw (hu : IsDo u) (hd : Rd H d u) (hd' : Rd H' d u) (ne : ∀ a, a ≠ d → H' a = H a) {v : V} {x : Av} : RV K H μ L v x → RV K H' μ L v x
  | .d r n => .d (rep_sw hu hd hd' ne r) n
  | .ref h => .ref h
  | .tup h r => .tup ⟨tqT_sw hu hd ne h.1, fun ds e => let ⟨o, h1, h2⟩ := h.2 ds e; ⟨o, by rw [ne _ (rd_ne hu hd h1 (fun z => z) (fun _ _ hk z => by cases z; exact hk))]; exact h1, h2⟩⟩ (RVs.sw hu hd hd' ne r)
  | .lst h n r => .lst (by rw [ne _ (rd_ne hu hd h (fun z => z) (fun _ _ _ z => nomatch z))]; exact h) n (RVs.sw hu hd hd' ne r)
theorem RVs.sw (hu : IsDo u) (hd : Rd H d u) (hd' : Rd H' d u) (ne : ∀ a, a ≠ d → H' a = H a) {vs : List V} {xs : List Av} : RVs K H μ L vs xs → RVs K H' μ L vs xs
  | .nil => .nil
  | .cons h r => .cons (RV.sw hu hd hd' ne h) (RVs.sw hu hd hd' ne r)
end
theorem BdR.sw (hu : IsDo u) (hd : Rd H d u) (hd' : Rd H' d u) (ne : ∀ a, a ≠ d → H' a = H a) {o : HO} {b : Bd} (r : BdR K H μ L o b) : BdR K H' μ L o b := by
  cases r with
  | lst r => exact .lst (r.sw hu hd hd' ne)
  | dK e r => exact .dK e (r.sw hu hd hd' ne)
  | dT e r => exact .dT e (r.sw hu hd hd' ne)
  | ins c e r => exact .ins c e (r.sw hu hd hd' ne)
theorem Rl.sw {h : AH} (hu : IsDo u) (hd : Rd H d u) (hd' : Rd H' d u) (ne : ∀ a, a ≠ d → H' a = H a) (nl : ¬ Lv P μ h d) (r : Rl K P μ h H) : Rl K P μ h H' := by
  have ne' : ∀ {n : Nat} {a : Addr} {nd : Nd}, h[n]? = some nd → nd ≠ .dead → μ[n]? = some a → a ≠ d := fun e1 e2 e3 z => nl (by subst z; exact .inr ⟨_, _, e1, e2, e3⟩)
  refine ⟨r.len, r.nd, fun a m => ?_, fun n b e => ?_, fun n b e => ?_, fun a z => ?_⟩
  · by_cases z : a = d
    · subst z
      intro z
      rcases hd' with h | ⟨o, h⟩ <;> (rw [z] at h; cases h)
    · rw [ne a z]; exact r.al a m
  · obtain ⟨a, u', e1, e2, e3⟩ := r.lv n b e
    exact ⟨a, u', e1, by rw [ne a (ne' e (fun z => nomatch z) e1)]; exact e2, e3.sw hu hd hd' ne⟩
  · obtain ⟨a, u', e1, e2, e3⟩ := r.lk n b e
    exact ⟨a, u', e1, by rw [ne a (ne' e (fun z => nomatch z) e1)]; exact e2, e3.sw hu hd hd' ne⟩
  · obtain ⟨n1, xs, e⟩ := r.pp a z
    exact ⟨n1, xs, by rw [ne a fun y => nl (by subst y; exact .inl z)]; exact e⟩
end
/-- the dict's object for what is known of it -/
def QU (K : PySem.W.Frag) (H : Hp) (μ : List Addr) (L : Addr → Prop) (u : HO) : Dq → Prop
  | .K l => ∃ ks, u = .dK ks ∧ l.map (·.1) = ks.map (·.1) ∧ RVs K H μ L (ks.map (·.2)) (l.map (·.2))
  | .T l => ∃ ks, u = .dT ks ∧ l.map (·.1) = ks.map (·.1) ∧ RVs K H μ L (ks.map (·.2)) (l.map (·.2))
section
variable {K : PySem.W.Frag} {H : Hp} {μ : List Addr} {h : AH}
theorem dtD_U {v : V} {x : Av} {q : Dq} (rl : Rl K P μ h H) (r : RV K H μ (Lv P μ h) v x) (e : dtD h x = some q) : ∃ a u, v = .ref a ∧ Rd H a u ∧ IsDo u ∧ QU K H μ (Lv P μ h) u q := by
  cases q with
  | K l => obtain ⟨a, ks, h1, h2, h3, h4⟩ := dtD_K rl r e; exact ⟨a, _, h1, h2, True.intro, ks, rfl, h3, h4⟩
  | T l => obtain ⟨a, ks, h1, h2, h3, h4⟩ := dtD_T rl r e; exact ⟨a, _, h1, h2, True.intro, ks, rfl, h3, h4⟩
/-- behind the walk -/
structure Bh (K : PySem.W.Frag) (P : Addr → Prop) (μ : List Addr) (h : AH) (H : Hp) (μ2 : List Addr) (h2 : AH) (H2 : Hp) (on : Option Nat) (H3 : Hp) : Prop where
  rl : Rl K P μ2 (unlk on h2) H3
  sp : Sp μ h H μ2 (unlk on h2) H3
  rv : ∀ v x, RV K H2 μ2 (Lv P μ2 h2) v x → RV K H3 μ2 (Lv P μ2 (unlk on h2)) v x
/-- where it stands as Hl, locked by od: it stays, and the way back -/
structure Lkd (K : PySem.W.Frag) (P : Addr → Prop) (μ : List Addr) (h : AH) (H : Hp) (x : Av) (a : Addr) (u : HO) (od : Obj) (back : Hp → Hp) (Hl : Hp) : Prop where
  rl : Rl K P μ (lockL x h).1 Hl
  on : ∀ v y, RV K H μ (Lv P μ h) v y → RV K Hl μ (Lv P μ (lockL x h).1) v y
  at_ : Hl a = some (.frz od u)
  stay : ∀ (P' : Addr → Prop) μ2 h2 H2, Rl K P' μ2 h2 H2 → Sp μ (lockL x h).1 Hl μ2 h2 H2 → H2 a = some (.frz od u) ∧ dtD h2 x = dtD h x
  bh : ∀ μ2 h2 H2, Rl K P μ2 h2 H2 → Sp μ (lockL x h).1 Hl μ2 h2 H2 → Bh K P μ h H μ2 h2 H2 (lockL x h).2 (back H2)
theorem dtD_lk {n : Nat} {b : Bd} {h h2 : AH} (h1 : rd h n = some b) (h3 : rd h2 n = some b) : dtD h2 (.ref n) = dtD h (.ref n) := by unfold dtD; simp only [h1, h3]
theorem rd_lk {n : Nat} {b : Bd} {h : AH} (e : h[n]? = some (.lk b)) : rd h n = some b := by unfold rd; rw [e]
theorem rd_lv {n : Nat} {b : Bd} {h : AH} (e : h[n]? = some (.lv b)) : rd h n = some b := by unfold rd; rw [e]
/-- a cell that is locked stays one -/
theorem lkd_put {x : Av} {n : Nat} {a : Addr} {b : Bd} {u : HO} {nd0 nd3 : Nd} {on : Option Nat} (rl : Rl K P μ h H) (hx : x = .ref n) (hm : μ[n]? = some a) (e0 : h[n]? = some nd0) (n0 : nd0 ≠ .dead) (hb : b.isD = true) (hr : rd h n = some b) (hu : H a = some u) (br : BdR K H μ (Lv P μ h) u b)
    (el : lockL x h = (h.set n (.lk b), on)) (eo : ∀ h2 : AH, h2[n]? = some (.lk b) → unlk on h2 = h2.set n nd3) (n3 : (nd3 = .lv b ∧ nd0 = .lv b) ∨ (nd3 = .lk b ∧ nd0 = .lk b)) (od : Obj) : Lkd K P μ h H x a u od (fun H2 => upd H2 a u) (upd H a (.frz od u)) := by
  obtain ⟨q1, q2, q3, q4⟩ := rl.put e0 n0 hm (nd := .lk b) (o := .frz od u) (.inr ⟨b, u, rfl, .inr ⟨hb, od, rfl⟩, br⟩)
  have hn : n < h.length := (List.getElem?_eq_some_iff.mp e0).1
  have hl : (h.set n (.lk b))[n]? = some (.lk b) := List.getElem?_set_self hn
  have stay : ∀ (P' : Addr → Prop) μ2 h2 H2, Rl K P' μ2 h2 H2 → Sp μ (h.set n (.lk b)) (upd H a (.frz od u)) μ2 h2 H2 → h2[n]? = some (.lk b) ∧ H2 a = some (.frz od u) := fun P' μ2 h2 H2 rl2 s2 => by
    obtain ⟨y1, y2⟩ := s2.lk n b a hl hm
    exact ⟨y1, y2.trans upd_same⟩
  refine ⟨by rw [el]; exact q1, fun v y z => ?_, upd_same, fun P' μ2 h2 H2 rl2 s2 => ?_, fun μ2 h2 H2 rl2 s2 => ?_⟩
  · rw [el]
    exact z.step rl.nt (q2.mono fun _ z => .inr z) (List.prefix_refl _) fun y z => z.elim (fun z => .inl (.inl z)) fun z => (q3 y z).imp_left .inr
  · rw [el] at s2
    obtain ⟨y1, y2⟩ := stay P' μ2 h2 H2 rl2 s2
    refine ⟨y2, ?_⟩
    rw [hx]; exact dtD_lk hr (rd_lk y1)
  · rw [el] at s2 ⊢
    obtain ⟨y1, y2⟩ := stay P μ2 h2 H2 rl2 s2
    have hm2 := pre_get s2.pre hm
    obtain ⟨a2, u2, x1, x2, x3⟩ := rl2.lk n b y1
    rw [hm2] at x1; cases x1
    have hu2 : u2 = u := by
      rcases x2 with x2 | ⟨_, o, x2⟩
      · rw [y2] at x2; cases x2; cases x3
      · rw [y2] at x2; cases x2; rfl
    subst hu2
    obtain ⟨p1, p2, p3, p4⟩ := rl2.put y1 (fun z => nomatch z) hm2 (nd := nd3) (o := u2) (by
      rcases n3 with ⟨n3, _⟩ | ⟨n3, _⟩
      · exact .inl ⟨b, n3, x3⟩
      · exact .inr ⟨b, u2, n3, .inl rfl, x3⟩)
    have la : Lc μ h a := ⟨n, nd0, e0, n0, hm⟩
    have ne : ∀ {y : Addr}, ¬ Lc μ h y → y ≠ a := fun z k => z (by rw [k]; exact la)
    rw [← eo h2 y1] at p1 p3 p4
    refine ⟨p1, ⟨s2.pre, ⟨fun y o e z => ?_, fun y e => ?_⟩, fun y z => ?_, fun m c y z1 z2 => ?_⟩, fun v y z => ?_⟩
    · rw [upd_ne (ne z)]
      exact s2.sq.keep y o (by rw [upd_ne (ne z)]; exact e) fun k => z (lv_nd e0 n0 k)
    · exact q2.al y (s2.sq.al y (p2.al y e))
    · rcases p3 y z with k | k
      · rcases s2.live y k with k | k
        · exact .inl (lv_nd e0 n0 k)
        · exact .inr (q2.al y k)
      · exact .inr (q2.al y (s2.sq.al y k))
    · by_cases mn : m = n
      · subst mn
        rw [hm] at z2; cases z2
        rw [e0] at z1; cases z1
        rcases n3 with ⟨_, n3⟩ | ⟨n3, n4⟩
        · cases n3
        · cases n4
          refine ⟨?_, by rw [upd_same, hu]⟩
          rw [eo h2 y1, n3]
          exact List.getElem?_set_self (List.getElem?_eq_some_iff.mp y1).1
      · obtain ⟨w1, w2⟩ := q4 m c y mn z1 z2
        obtain ⟨w3, w4⟩ := s2.lk m c y w1 z2
        obtain ⟨w5, w6⟩ := p4 m c y mn w3 (pre_get s2.pre z2)
        exact ⟨w5, w6.trans (w4.trans w2)⟩
    · exact z.step rl2.nt (p2.mono fun _ z => .inr z) (List.prefix_refl _) fun y z => z.elim (fun z => .inl (.inl z)) fun z => (p3 y z).imp_left .inr
/-- what is known of a dict, and how it is locked: it is so already, or is locked now -/
theorem lock_dict {v : V} {x : Av} {q : Dq} (rl : Rl K P μ h H) (r : RV K H μ (Lv P μ h) v x) (e : dtD h x = some q) : ∃ a u, v = .ref a ∧ Rd H a u ∧ IsDo u ∧ QU K H μ (Lv P μ h) u q ∧
    ((∃ od, Lkd K P μ h H x a u od id H) ∨ (H a = some u ∧ ∀ od, Lkd K P μ h H x a u od (fun H2 => upd H2 a u) (upd H a (.frz od u)))) := by
  obtain ⟨a, u, hv, hr, hu, hq⟩ := dtD_U rl r e
  refine ⟨a, u, hv, hr, hu, hq, ?_⟩
  subst hv
  cases r with
  | tup _ _ => cases e
  | lst _ _ _ => cases e
  | @d _ x G r n =>
    have na : ¬ Lv P μ h a := by
      cases x <;> first | cases e | skip
      · cases r with
        | dct _ _ _ => exact n a List.mem_cons_self
      · cases r with
        | dctT _ _ _ => exact n a List.mem_cons_self
    have ed : ∀ h2, dtD h2 (.d x) = dtD h (.d x) := fun h2 => by cases x <;> rfl
    rcases hr with hr | ⟨od, hr⟩
    · refine .inr ⟨hr, fun od => ?_⟩
      have hd' : Rd (upd H a (.frz od u)) a u := .inr ⟨od, upd_same⟩
      have ne : ∀ b, b ≠ a → (upd H a (.frz od u)) b = H b := fun b z => upd_ne z
      have rl' := rl.sw hu (.inl hr) hd' ne na
      have stay : ∀ {μ2 h2 H2}, Sp μ h (upd H a (.frz od u)) μ2 h2 H2 → H2 a = some (.frz od u) := fun s2 => s2.sq.keep a _ upd_same fun z => na (.inr z)
      refine ⟨rl', fun v y z => z.sw hu (.inl hr) hd' ne, upd_same, fun P' μ2 h2 H2 rl2 s2 => ⟨stay s2, ed h2⟩, fun μ2 h2 H2 rl2 s2 => ?_⟩
      have s2 : Sp μ h (upd H a (.frz od u)) μ2 h2 H2 := s2
      have y := stay s2
      have na2 : ¬ Lv P μ2 h2 a := fun z => by
        rcases s2.livev a z with z | z
        · exact na z
        · rw [upd_same] at z; cases z
      have ne2 : ∀ b, b ≠ a → (upd H2 a u) b = H2 b := fun b z => upd_ne z
      refine ⟨rl2.sw hu (.inr ⟨od, y⟩) (.inl upd_same) ne2 na2, ⟨s2.pre, ⟨fun b o eb nb => ?_, fun b eb => ?_⟩, fun b z => ?_, fun n b y z1 z2 => ?_⟩, fun v y' z => z.sw hu (.inr ⟨od, y⟩) (.inl upd_same) ne2⟩
      · by_cases z : b = a
        · subst z; rw [hr] at eb; cases eb; exact upd_same
        · rw [ne2 b z]; exact s2.sq.keep b o (by rw [ne b z]; exact eb) nb
      · have z : b ≠ a := fun z => by subst z; rw [upd_same] at eb; cases eb
        rw [ne2 b z] at eb
        rw [← ne b z]; exact s2.sq.al b eb
      · rcases s2.live b z with z | z
        · exact .inl z
        · have k : b ≠ a := fun k => by subst k; rw [upd_same] at z; cases z
          rw [ne b k] at z; exact .inr z
      · obtain ⟨w1, w2⟩ := s2.lk n b y z1 z2
        have k : y ≠ a := fun k => na (by subst k; exact .inr ⟨n, _, z1, (fun z => nomatch z), z2⟩)
        exact ⟨w1, by rw [ne2 y k, w2, ne y k]⟩
    · refine .inl ⟨od, rl, fun v y z => z, hr, fun P' μ2 h2 H2 rl2 s2 => ⟨s2.sq.keep a _ hr fun z => na (.inr z), ed h2⟩, fun μ2 h2 H2 rl2 s2 => ⟨rl2, s2, fun v x z => z⟩⟩
  | @ref n _ hm =>
    obtain ⟨b, hb, hrd⟩ : ∃ b : Bd, b.isD = true ∧ rd h n = some b := by
      unfold dtD at e
      cases hb : rd h n with
      | none => simp only [hb] at e; cases e
      | some b =>
        simp only [hb] at e
        cases b with
        | lst _ => cases e
        | dK _ => exact ⟨_, rfl, rfl⟩
        | dT _ => exact ⟨_, rfl, rfl⟩
        | ins _ _ => cases e
    unfold rd at hrd
    split at hrd
    · rename_i b' q1
      cases hrd
      obtain ⟨a', u', e1, e2, e3⟩ := rl.lv n b q1
      rw [hm] at e1; cases e1
      have huu : u' = u := by
        rcases hr with hr | ⟨o, hr⟩
        · rw [e2] at hr; cases hr; rfl
        · rw [e2] at hr; cases hr; cases e3
      subst huu
      refine .inr ⟨e2, fun od => ?_⟩
      have el : lockL (.ref n) h = (h.set n (.lk b), some n) := by unfold lockL; simp only [q1]
      exact lkd_put (nd3 := .lv b) rl rfl hm q1 (fun z => nomatch z) hb (rd_lv q1) e2 e3 el (fun h2 z => by unfold unlk; simp only [z]) (.inl ⟨rfl, rfl⟩) od
    · rename_i b' q1
      cases hrd
      obtain ⟨a', u', e1, e2, e3⟩ := rl.lk n b q1
      rw [hm] at e1; cases e1
      have el : lockL (.ref n) h = (h, none) := by unfold lockL; simp only [q1]
      have es : h.set n (.lk b) = h := by
        refine List.ext_getElem? fun i => ?_
        by_cases z : n = i
        · subst z; rw [List.getElem?_set_self (List.getElem?_eq_some_iff.mp q1).1, q1]
        · rw [List.getElem?_set_ne z]
      rcases e2 with e2 | ⟨_, od, e2⟩
      · have huu : u' = u := by
          rcases hr with hr | ⟨o, hr⟩
          · rw [e2] at hr; cases hr; rfl
          · rw [e2] at hr; cases hr; cases e3
        subst huu
        refine .inr ⟨e2, fun od => ?_⟩
        exact lkd_put (nd3 := .lk b) (on := none) rl rfl hm q1 (fun z => nomatch z) hb (rd_lk q1) e2 e3 (by rw [es]; exact el) (fun h2 z => by
          refine List.ext_getElem? fun i => ?_
          by_cases y : n = i
          · subst y; rw [List.getElem?_set_self (List.getElem?_eq_some_iff.mp z).1]; exact z
          · rw [List.getElem?_set_ne y]; rfl) (.inr ⟨rfl, rfl⟩) od
      · have huu : u' = u := by
          rcases hr with hr | ⟨o, hr⟩
          · rw [e2] at hr; cases hr; exact hu.elim
          · rw [e2] at hr; cases hr; rfl
        subst huu
        refine .inl ⟨od, by rw [el]; exact rl, fun v y z => by rw [el]; exact z, e2, fun P' μ2 h2 H2 rl2 s2 => ?_, fun μ2 h2 H2 rl2 s2 => ?_⟩
        · rw [el] at s2
          obtain ⟨y1, y2⟩ := s2.lk n b a q1 hm
          exact ⟨y2.trans e2, dtD_lk (rd_lk q1) (rd_lk y1)⟩
        · rw [el] at s2 ⊢
          exact ⟨rl2, s2, fun v x z => z⟩
    · cases hrd
end
/-! ### paths: what is read without a change, and stands so under a lock -/
def Swp (H H2 : Hp) : Prop := ∀ b, H2 b = H b ∨ ∃ u od, IsDo u ∧ H b = some u ∧ H2 b = some (.frz od u)
theorem Swp.refl {H : Hp} : Swp H H := fun _ => .inl rfl
theorem Swp.lock {H : Hp} {a : Addr} {u : HO} {od : Obj} (hu : IsDo u) (h : H a = some u) : Swp H (upd H a (.frz od u)) := fun b => by
  by_cases z : b = a
  · subst z; exact .inr ⟨u, od, hu, h, upd_same⟩
  · exact .inl (upd_ne z)
def Pth (K : PySem.W.Frag) (t : TE) (m : ME) : Prop := ∀ (P : Addr → Prop) μ env h σ H x h', Rl K P μ h H → EvR K P H μ h σ env → m env h = some (x, h') → h' = h ∧ ∃ v, RV K H μ (Lv P μ h) v x ∧ ∀ H2, Swp H H2 → ∀ Q : VK, Q v H2 → t σ H2 Q
theorem pth_var {K : PySem.W.Frag} {i : Nat} : Pth K (tVar i) (vVar i) := fun P μ env h σ H x h' rl er e => by
  unfold vVar at e
  split at e
  · rename_i y hy
    cases e
    obtain ⟨v, h1, h2⟩ := er.get i _ hy
    exact ⟨rfl, v, h2, fun H2 _ Q q => ⟨v, h1, q⟩⟩
  · cases e
def kAv (k : Key) : Av := .d (kD k)
def kTv (k : List Key) : Av := .d (.tup (k.map kD))
inductive Kd where
  | keys | items | vals
def itQ : Kd → Dq → Option (List Av)
  | .keys, .K l => some (l.map fun p => kAv p.1)
  | .keys, .T l => some (l.map fun p => kTv p.1)
  | .items, .K l => some (l.map fun p => mkT [kAv p.1, p.2])
  | .vals, .K l => some (l.map (·.2))
  | _, .T _ => none
def iX : Kd → TE → TI
  | .keys => iKeys
  | .items => iItems
  | .vals => iVals
section
variable {K : PySem.W.Frag} {H : Hp} {μ : List Addr} {h : AH}
theorem kAv_rv {L : Addr → Prop} (k : Key) : RV K H μ L (kV k) (kAv k) := .d (Fd.rep_key k) fun a m => (nomatch m)
theorem kTv_rv {L : Addr → Prop} {q : Addr} {k : List Key} (e : H q = some (.tup (k.map kV))) : RV K H μ L (.ref q) (kTv k) := by
  have r : ∀ k : List Key, Reps K H (k.map kV) (k.map kD) [] := fun k => by
    induction k with
    | nil => exact .nil
    | cons a k ih => exact .cons (Fd.rep_key a) ih
  exact .d (.tup (.inl e) (r k)) fun a m => (nomatch m)
/-- the walk over a locked dict -/
theorem dict_walk {Hl : Hp} {hl : AH} {x : Av} {a : Addr} {u : HO} {od : Obj} {q : Dq} {kd : Kd} {items : List Av} (rl : Rl K P μ hl Hl) (rx : RV K Hl μ (Lv P μ hl) (.ref a) x) (hq : dtD hl x = some q) (at_ : Hl a = some (.frz od u)) (uq : QU K Hl μ (Lv P μ hl) u q) (ei : itQ kd q = some items)
    (stay : ∀ (P' : Addr → Prop) μ2 h2 H2, Rl K P' μ2 h2 H2 → Sp μ hl Hl μ2 h2 H2 → H2 a = some (.frz od u) ∧ dtD h2 x = some q) {R : It → Hp → Prop} (r : ∀ J, ItH K P J μ hl Hl items → R J Hl) :
    ∀ t : TE, ∀ σ, (∀ Q : VK, Q (.ref a) Hl → t σ Hl Q) → iX kd t σ Hl R := fun t σ ht => by
  cases q with
  | K l =>
    obtain ⟨ks, rfl, ek, rs⟩ := uq
    have len : ks.length = l.length := keys_len ek
    have later : ∀ (P' : Addr → Prop) μ2 h2 H2, (∀ a, P' a → P a ∨ Hl a = none) → Rl K P' μ2 h2 H2 → Sp μ hl Hl μ2 h2 H2 → H2 a = some (.frz od (.dK ks)) ∧ RVs K H2 μ2 (Lv P' μ2 h2) (ks.map (·.2)) (l.map (·.2)) := fun P' μ2 h2 H2 hi rl2 s2 => by
      obtain ⟨y1, y2⟩ := stay P' μ2 h2 H2 rl2 s2
      obtain ⟨a2, ks2, ea, h3, h4, h5⟩ := dtD_K rl2 (rx.onP rl s2 hi) y2
      cases ea
      have : ks2 = ks := by
        rcases h3 with h3 | ⟨o, h3⟩
        · rw [y1] at h3; cases h3
        · rw [y1] at h3; cases h3; rfl
      subst this
      exact ⟨y1, h5⟩
    have keyAt : ∀ {i : Nat} {p : Key × Av} {k : Key} {v : V}, l[i]? = some p → ks[i]? = some (k, v) → k = p.1 := fun {i p k v} h1 h2 => by
      have e1 : (ks.map (·.1))[i]? = some k := by rw [List.getElem?_map, h2]; rfl
      rw [← ek, List.getElem?_map, h1] at e1
      cases e1; rfl
    cases kd with
    | keys =>
      cases ei
      refine ht _ ⟨a, od, rfl, .inl ⟨ks, at_, r _ fun P' μ2 h2 H2 hi rl2 s2 => ?_⟩⟩
      obtain ⟨y1, y2⟩ := later P' μ2 h2 H2 hi rl2 s2
      refine ⟨⟨y1, by rw [List.length_map]; omega⟩, fun i x hx => ?_⟩
      rw [List.getElem?_map] at hx
      obtain ⟨p, hp, rfl⟩ := Option.map_eq_some_iff.mp hx
      have hil : i < l.length := (List.getElem?_eq_some_iff.mp hp).1
      refine ⟨⟨y1, by omega⟩, fun y H3 ⟨z1, k, v, z2, z3⟩ => ?_⟩
      subst z1 z3
      rw [← keyAt hp z2]
      exact ⟨.refl _, kAv_rv k⟩
    | vals =>
      cases ei
      refine ht _ ⟨a, od, ks, rfl, at_, r _ fun P' μ2 h2 H2 hi rl2 s2 => ?_⟩
      obtain ⟨y1, y2⟩ := later P' μ2 h2 H2 hi rl2 s2
      refine ⟨⟨y1, by rw [List.length_map]; omega⟩, fun i x hx => ?_⟩
      have hx0 := hx
      rw [List.getElem?_map] at hx
      obtain ⟨p, hp, rfl⟩ := Option.map_eq_some_iff.mp hx
      have hil : i < l.length := (List.getElem?_eq_some_iff.mp hp).1
      refine ⟨⟨y1, by omega⟩, fun y H3 ⟨z1, k, z2⟩ => ?_⟩
      subst z1
      obtain ⟨w, w1, w2⟩ := y2.getA i _ hx0
      rw [List.getElem?_map, z2] at w1
      cases w1
      exact ⟨.refl _, w2⟩
    | items =>
      cases ei
      refine ht _ ⟨a, od, ks, rfl, at_, r _ fun P' μ2 h2 H2 hi rl2 s2 => ?_⟩
      obtain ⟨y1, y2⟩ := later P' μ2 h2 H2 hi rl2 s2
      refine ⟨⟨y1, by rw [List.length_map]; omega⟩, fun i x hx => ?_⟩
      rw [List.getElem?_map] at hx
      obtain ⟨p, hp, rfl⟩ := Option.map_eq_some_iff.mp hx
      have hil : i < l.length := (List.getElem?_eq_some_iff.mp hp).1
      refine ⟨⟨y1, by omega⟩, fun y H3 ⟨T, k, v, z2, z3, z4, z5⟩ => ?_⟩
      subst z3 z5
      obtain rfl := keyAt hp z2
      have sm : Same H2 (upd H2 T (.tup [kV p.1, v])) := same_new z4
      obtain ⟨w, w1, w2⟩ := y2.getA i p.2 (by rw [List.getElem?_map, hp]; rfl)
      rw [List.getElem?_map, z2] at w1
      cases w1
      exact ⟨sm, mkT_rv (.inl upd_same) (.cons (kAv_rv _) (.one (w2.on rl2 (.same rl2 sm))))⟩
  | T l =>
    obtain ⟨ks, rfl, ek, rs⟩ := uq
    have len : ks.length = l.length := keys_len ek
    cases kd with
    | keys =>
      cases ei
      refine ht _ ⟨a, od, rfl, .inr ⟨ks, at_, r _ fun P' μ2 h2 H2 hi rl2 s2 => ?_⟩⟩
      obtain ⟨y1, y2⟩ := stay P' μ2 h2 H2 rl2 s2
      refine ⟨⟨y1, by rw [List.length_map]; omega⟩, fun i x hx => ?_⟩
      rw [List.getElem?_map] at hx
      obtain ⟨p, hp, rfl⟩ := Option.map_eq_some_iff.mp hx
      have hil : i < l.length := (List.getElem?_eq_some_iff.mp hp).1
      refine ⟨⟨y1, by omega⟩, fun y H3 ⟨z1, k, v, q, z2, z3, z4⟩ => ?_⟩
      subst z1 z3
      have e1 : (ks.map (·.1))[i]? = some k := by rw [List.getElem?_map, z2]; rfl
      rw [← ek, List.getElem?_map, hp] at e1
      cases e1
      exact ⟨.refl _, kTv_rv z4⟩
    | items => cases ei
    | vals => cases ei
theorem QU.on {P' : Addr → Prop} {H' : Hp} {hl : AH} {u : HO} {q : Dq} (on : ∀ v y, RV K H μ (Lv P μ h) v y → RV K H' μ (Lv P' μ hl) v y) (z : QU K H μ (Lv P μ h) u q) : QU K H' μ (Lv P' μ hl) u q := by
  have ons : ∀ {vs : List V} {xs : List Av}, RVs K H μ (Lv P μ h) vs xs → RVs K H' μ (Lv P' μ hl) vs xs := fun {vs xs} r => by
    induction xs generalizing vs with
    | nil => cases r; exact .nil
    | cons x xs ih => cases r with
      | cons r1 r2 => exact .cons (on _ _ r1) (ih r2)
  cases q with
  | K l => obtain ⟨ks, h1, h2, h3⟩ := z; exact ⟨ks, h1, h2, ons h3⟩
  | T l => obtain ⟨ks, h1, h2, h3⟩ := z; exact ⟨ks, h1, h2, ons h3⟩
end
/-- for x in d, d.items(), d.values(): d a path -/
def sForD (kd : Kd) (m : ME) (g : MG) (body : MS) : MS := fun env h => (m env h).bind fun (x, _) => (dtD h x).bind fun q => (itQ kd q).bind fun p => (runFor g body p env (lockL x h).1).bind fun (o, h2) => some (o, unlk (lockL x h).2 h2)
section
variable {K : PySem.W.Frag} {X : Cx}
theorem out_back {H2 H3 : Hp} {μ2 : List Addr} {h2 : AH} {on : Option Nat} {P : Addr → Prop} {μ : List Addr} {h : AH} {H : Hp} {D D' : Ends} {o : Out} (b : Bh K P μ h H μ2 h2 H2 on H3) (r : OutR K P H3 μ2 (unlk on h2) D o) (n : ∀ σ, D.nx σ H3 → D'.nx σ H2) (t : ∀ v, D.rt v H3 → D'.rt v H2) (bk : ∀ σ, D.bk σ H3 → D'.bk σ H2) (ct : ∀ σ, D.ct σ H3 → D'.ct σ H2) : OutR K P H2 μ2 h2 D' o := by
  have er : ∀ {σ env}, EvR K P H2 μ2 h2 σ env → EvR K P H3 μ2 (unlk on h2) σ env := fun e => ⟨e.len, fun i x z => (let ⟨v, h1, h2⟩ := e.get i x z; ⟨v, h1, b.rv _ _ h2⟩)⟩
  cases o with
  | nx e => exact fun σ z => n σ (r σ (er z))
  | rt v => exact fun u z => t u (r u (b.rv _ _ z))
  | bk e => exact fun σ z => bk σ (r σ (er z))
  | ct e => exact fun σ z => ct σ (r σ (er z))
theorem sForD_ok {kd : Kd} {t : TE} {m : ME} {g : MG} {ws : List Nat} {body : MS} {D : Ends} {σ : L2.St} {H : Hp} (pt : Pth K t m) (h : rS K (sForD kd m g body) D σ H) : Fd.tLockSO (tFor (iX kd t) (rG K ws g) (rS K body)) D σ H := by
  obtain ⟨P, μ, env, h, o, h', rl, er, e, q⟩ := h
  obtain ⟨⟨x, hx'⟩, e1, e⟩ := bs e
  obtain ⟨dq, e2, e⟩ := bs e
  obtain ⟨items, e3, e⟩ := bs e
  obtain ⟨⟨o2, h2⟩, e4, e⟩ := bs e
  cases e
  obtain ⟨_, v, rv, hpt⟩ := pt P μ env h σ H x hx' rl er e1
  obtain ⟨a, u, rfl, hr, hu, uq, hl⟩ := lock_dict rl rv e2
  have main : ∀ (od : Obj) (back : Hp → Hp) (Hl : Hp), Swp H Hl → Lkd K P μ h H x a u od back Hl → ∀ D' : Ends, (∀ μ2 H2, Bh K P μ h H μ2 h2 H2 (lockL x h).2 (back H2) → H2 a = some (.frz od u) → OutR K P (back H2) μ2 (unlk (lockL x h).2 h2) D o → OutR K P H2 μ2 h2 D' o) → tFor (iX kd t) (rG K ws g) (rS K body) D' σ Hl := fun od back Hl sw L D' conv => by
    have erl : EvR K P Hl μ (lockL x h).1 σ env := ⟨er.len, fun i y z => (let ⟨v, h1, h2⟩ := er.get i y z; ⟨v, h1, L.on _ _ h2⟩)⟩
    have hql : dtD (lockL x h).1 x = some dq := (L.stay P μ _ Hl L.rl .refl).2.trans e2
    refine dict_walk L.rl (L.on _ _ rv) hql L.at_ (uq.on L.on) e3 (fun P' μ2 h2 H2 rl2 s2 => ?_) (fun J it => ?_) t σ (fun Q hq => hpt Hl sw Q hq)
    · obtain ⟨y1, y2⟩ := L.stay P' μ2 h2 H2 rl2 s2
      exact ⟨y1, y2.trans e2⟩
    · refine for_core L.rl erl it e4 fun μ2 H2 rl2 s2 => ?_
      have b := L.bh μ2 h2 H2 rl2 s2
      exact conv μ2 H2 b (L.stay P μ2 h2 H2 rl2 s2).1 (q μ2 _ b.rl b.sp)
  rcases hl with ⟨od, L⟩ | ⟨ha, L⟩
  · exact .inr (main od id H .refl L D fun μ2 H2 b y z => out_back b z (fun _ z => z) (fun _ z => z) (fun _ z => z) fun _ z => z)
  · refine .inl ⟨a, u, ha, by cases u <;> first | exact True.intro | exact hu.elim, fun od => main od _ _ (.lock hu ha) (L od) _ fun μ2 H2 b y z => out_back b z (fun _ z => ⟨y, z⟩) (fun _ z => ⟨y, z⟩) (fun _ z => ⟨y, z⟩) fun _ z => ⟨y, z⟩⟩
theorem hs_forD {kd : Kd} {t : TE} {m : ME} {g : MG} {ws : List Nat} {body : MS} {s : Stmt} (pt : Pth X.K t m) (p : PS X s (tFor (iX kd t) (rG X.K ws g) (rS X.K body))) : HS X s (sForD kd m g body) := ps_weak (Fd.ps_lockO p) fun D σ H h => sForD_ok pt h
/-- [.. for x in d], d a path -/
def lcD (kd : Kd) (m : ME) (vs : List Nat) (g : MG) (t : MT) (me : ME) (env : Env) (h : AH) : Option ((List Av × Option Nat) × AH) := (m env h).bind fun (x, _) => (dtD h x).bind fun q => (itQ kd q).bind fun p => (runLc (wipeE env vs) g t me p (lockL x h).1).bind fun (ys, h2) => if ys.length ≤ sizeLine then some ((ys, (lockL x h).2), h2) else none
def vLcD (kd : Kd) (m : ME) (vs : List Nat) (g : MG) (t : MT) (me : ME) : ME := fun env h => (lcD kd m vs g t me env h).bind fun ((ys, on), h1) => some (mkL ys, unlk on h1)
def vLcDC (kd : Kd) (m : ME) (vs : List Nat) (g : MG) (t : MT) (me : ME) : ME := fun env h => (lcD kd m vs g t me env h).bind fun ((ys, on), h1) => some (.ref h1.length, unlk on (h1 ++ [.lv (.lst ys)]))
theorem lcD_ok {kd : Kd} {t : TE} {m : ME} {vs ws : List Nat} {g : MG} {tt : MT} {me : ME} {σ : L2.St} {H : Hp} {Q : VK} {P : Addr → Prop} {μ : List Addr} {env : Env} {h h1 : AH} {ys : List Av} {on : Option Nat} (hw : ∀ j ∈ ws, j ∈ vs) (pt : Pth K t m) (rl : Rl K P μ h H) (er : EvR K P H μ h σ env) (e : lcD kd m vs g tt me env h = some ((ys, on), h1))
    (q : ∀ (back : Hp → Hp) (hl : AH) (Hl : Hp) μ' H' us D, (∀ μ2 h2 H2, Rl K P μ2 h2 H2 → Sp μ hl Hl μ2 h2 H2 → Bh K P μ h H μ2 h2 H2 on (back H2)) → Rl K (fun a => P a ∨ a = D) μ' h1 H' → Sp μ hl Hl μ' h1 H' → Hl D = none → (∀ a, P a → Hl a ≠ none) → H' D = some (.lst us) → RVs K H' μ' (Lv (fun a => P a ∨ a = D) μ' h1) us ys → Q (.ref D) (back H')) :
    Fd.tLockO (tLc (iX kd t) (rG K ws g) (rT K tt) (rE K me) vs) σ H Q := by
  obtain ⟨⟨x, hx'⟩, e1, e⟩ := bs e
  obtain ⟨dq, e2, e⟩ := bs e
  obtain ⟨items, e3, e⟩ := bs e
  obtain ⟨⟨zs, h2⟩, e4, e⟩ := bs e
  obtain ⟨c, e⟩ := ifs e
  cases e
  obtain ⟨_, v, rv, hpt⟩ := pt P μ env h σ H x hx' rl er e1
  obtain ⟨a, u, rfl, hr, hu, uq, hl⟩ := lock_dict rl rv e2
  have main : ∀ (od : Obj) (back : Hp → Hp) (Hl : Hp), Swp H Hl → Lkd K P μ h H x a u od back Hl → ∀ Q' : VK, (∀ D H2, H2 a = some (.frz od u) → Q (.ref D) (back H2) → Q' (.ref D) H2) → tLc (iX kd t) (rG K ws g) (rT K tt) (rE K me) vs σ Hl Q' := fun od back Hl sw L Q' conv => by
    have erl : EvR K P Hl μ (lockL x h).1 σ env := ⟨er.len, fun i y z => (let ⟨v, h1, h2⟩ := er.get i y z; ⟨v, h1, L.on _ _ h2⟩)⟩
    have hql : dtD (lockL x h).1 x = some dq := (L.stay P μ _ Hl L.rl .refl).2.trans e2
    refine dict_walk L.rl (L.on _ _ rv) hql L.at_ (uq.on L.on) e3 (fun P' μ2 h2 H2 rl2 s2 => ?_) (fun J it => ?_) t σ (fun Q hq => hpt Hl sw Q hq)
    · obtain ⟨y1, y2⟩ := L.stay P' μ2 h2 H2 rl2 s2
      exact ⟨y1, y2.trans e2⟩
    · intro D hD
      refine lc_H hw L.rl erl it e4 c D hD fun μ2 H2 us rl2 s2 hl2 rus => ?_
      exact conv D H2 (L.stay _ μ2 _ H2 rl2 s2).1 (q back (lockL x h).1 Hl μ2 H2 us D (fun μ2 h2 H2 r s => L.bh μ2 h2 H2 r s) rl2 s2 hD (fun a z => L.rl.has (.inl z)) hl2 rus)
  rcases hl with ⟨od, L⟩ | ⟨ha, L⟩
  · exact .inr (main od id H .refl L Q fun D H2 _ z => z)
  · exact .inl ⟨a, u, ha, by cases u <;> first | exact True.intro | exact hu.elim, fun od => main od _ _ (.lock hu ha) (L od) _ fun D H2 y z => ⟨y, z⟩⟩
theorem vLcD_ok {kd : Kd} {t : TE} {m : ME} {vs ws : List Nat} {g : MG} {tt : MT} {me : ME} {σ : L2.St} {H : Hp} {Q : VK} (hw : ∀ j ∈ ws, j ∈ vs) (pt : Pth K t m) (h : rE K (vLcD kd m vs g tt me) σ H Q) : Fd.tLockO (tLc (iX kd t) (rG K ws g) (rT K tt) (rE K me) vs) σ H Q := by
  obtain ⟨P, μ, env, h, z, h', rl, er, e, q⟩ := h
  obtain ⟨⟨⟨ys, on⟩, h1⟩, e1, e⟩ := bs e
  cases e
  refine lcD_ok hw pt rl er e1 fun back hl Hl μ2 H2 us D bh rl2 s2 hD hP hl2 rus => ?_
  obtain ⟨rl3, r3⟩ := rl2.less (P' := P) fun a z => .inl z
  have b := bh μ2 h1 H2 rl3 s2
  exact q μ2 _ _ b.rl b.sp (b.rv _ _ (mkL_rv hl2 (fun z => z.elim (fun z => hP D z hD) fun z => (rl2.pp D (.inr rfl)).1 (lc_mem z)) (r3 rus)))
theorem vLcDC_ok {kd : Kd} {t : TE} {m : ME} {vs ws : List Nat} {g : MG} {tt : MT} {me : ME} {σ : L2.St} {H : Hp} {Q : VK} (hw : ∀ j ∈ ws, j ∈ vs) (pt : Pth K t m) (h : rE K (vLcDC kd m vs g tt me) σ H Q) : Fd.tLockO (tLc (iX kd t) (rG K ws g) (rT K tt) (rE K me) vs) σ H Q := by
  obtain ⟨P, μ, env, h, z, h', rl, er, e, q⟩ := h
  obtain ⟨⟨⟨ys, on⟩, h1⟩, e1, e⟩ := bs e
  cases e
  refine lcD_ok hw pt rl er e1 fun back hl Hl μ2 H2 us D bh rl2 s2 hD hP hl2 rus => ?_
  have nm : D ∉ μ2 := (rl2.pp D (.inr rfl)).1
  have nP : ∀ a, P a → a ≠ D := fun a z y => by subst y; exact hP a z hD
  have lv : ∀ a, Lv P (μ2 ++ [D]) (h1 ++ [Nd.lv (.lst ys)]) a → Lv (fun a => P a ∨ a = D) μ2 h1 a ∨ H2 a = none := fun a z => by
    rcases z with z | z
    · exact .inl (.inl (.inl z))
    · rcases lc_new rl2.len z with z | z
      · exact .inl (.inr z)
      · exact .inl (.inl (.inr z))
  have rl3 := rl2.adoptP (P' := P) (b := .lst ys) (o := .lst us) (.refl H2) nm hl2 (fun a z => ⟨.inl z, nP a z⟩) (fun a z => .inl (.inr z)) (.lst (rus.step rl2.nt .refl (List.prefix_append _ _) lv))
  have s3 : Sp μ hl Hl (μ2 ++ [D]) (h1 ++ [Nd.lv (.lst ys)]) H2 := by
    refine ⟨s2.pre.trans (List.prefix_append _ _), s2.sq, fun a z => ?_, fun n b a z1 z2 => ?_⟩
    · rcases lc_new rl2.len z with z | z
      · exact s2.live a z
      · exact .inr (by rw [z]; exact hD)
    · obtain ⟨y1, y2⟩ := s2.lk n b a z1 z2
      exact ⟨by rw [List.getElem?_append_left (List.getElem?_eq_some_iff.mp y1).1]; exact y1, y2⟩
  have b := bh _ _ H2 rl3 s3
  exact q _ _ _ b.rl b.sp (.ref (by rw [← rl2.len, List.getElem?_append_right (Nat.le_refl _), Nat.sub_self]; rfl))
theorem he_lcD {kd : Kd} {t : TE} {m : ME} {vs ws : List Nat} {g : MG} {tt : MT} {me : ME} {e : Expr} {own : List (Str × Nat)} (hv : own.map (·.2) = vs) (hw : ∀ j ∈ ws, j ∈ vs) (pt : Pth X.K t m) (p : PE X e (tLc (iX kd t) (rG X.K ws g) (rT X.K tt) (rE X.K me) (own.map (·.2)))) : HE X e (vLcD kd m vs g tt me) := by subst hv; exact pe_weak (Fd.pe_lockO p) fun σ H Q h => vLcD_ok hw pt h
theorem he_lcDC {kd : Kd} {t : TE} {m : ME} {vs ws : List Nat} {g : MG} {tt : MT} {me : ME} {e : Expr} {own : List (Str × Nat)} (hv : own.map (·.2) = vs) (hw : ∀ j ∈ ws, j ∈ vs) (pt : Pth X.K t m) (p : PE X e (tLc (iX kd t) (rG X.K ws g) (rT X.K tt) (rE X.K me) (own.map (·.2)))) : HE X e (vLcDC kd m vs g tt me) := by subst hv; exact pe_weak (Fd.pe_lockO p) fun σ H Q h => vLcDC_ok hw pt h
end
end Fh
namespace Fh
open PySem PySem.Spec PyProof.Rows L2
open Fd (Dv Rep Reps SqF same_new OpD CallD UnD MtD TyD PE_or PT_or PS_or Cal TqT kD)
variable {P : Addr → Prop}
section
variable {X : Cx} {K : PySem.W.Frag} {a b c e tg : Expr} {es : List Expr} {pos : Pos} {ma mb mc me : ME} {ta tb : MT} {mr : MA}
/-! ### dicts: new, displayed, popped, updated -/
def vDK : ME := fun _ h => some (.ref h.length, h ++ [.lv (.dK [])])
def vDT : ME := fun _ h => some (.ref h.length, h ++ [.lv (.dT [])])
theorem he_dK : HE X (.Dict [] [] pos) vDK := pe_weak pe_dnewK fun σ H Q ⟨P, μ, env, h, z, h', rl, er, e, q⟩ => by
  cases e
  intro p hp
  obtain ⟨rl2, s2⟩ := rl.new hp (o := .dK []) (b := .dK []) (.dK rfl .nil)
  exact q _ _ _ rl2 s2 (ref_new rl)
theorem he_dT : HE X (.Dict [] [] pos) vDT := pe_weak pe_dnewT fun σ H Q ⟨P, μ, env, h, z, h', rl, er, e, q⟩ => by
  cases e
  intro p hp
  obtain ⟨rl2, s2⟩ := rl.new hp (o := .dT []) (b := .dT []) (.dT rfl .nil)
  exact q _ _ _ rl2 s2 (ref_new rl)
/-- the pairs of a display, from the left -/
def runP (env : Env) : List (ME × ME) → AH → Option (List (Key × Av) × AH)
  | [], h => some ([], h)
  | (mk, mv) :: r, h => (mk env h).bind fun (k, h1) => (mv env h1).bind fun (v, h2) => (keyA k).bind fun k => (runP env r h2).bind fun (ps, h3) => some ((k, v) :: ps, h3)
def mergeA (l m : List (Key × Av)) : List (Key × Av) := m.foldl (fun acc p => pV acc p.1 p.2) l
def vDisp (ps : List (ME × ME)) : ME := fun env h => (runP env ps (h ++ [.lv (.dK [])])).bind fun (l, h1) => if l.length ≤ 15 then match h1[h.length]? with
  | some (.lv (.dK [])) => some (.ref h.length, h1.set h.length (.lv (.dK (mergeA [] l))))
  | _ => none
  else none
theorem merge_rv {H : Hp} {μ : List Addr} {L : Addr → Prop} : ∀ {more : List (Key × V)} {m : List (Key × Av)} {ks : List (Key × V)} {l : List (Key × Av)}, l.map (·.1) = ks.map (·.1) → RVs K H μ L (ks.map (·.2)) (l.map (·.2)) → m.map (·.1) = more.map (·.1) → RVs K H μ L (more.map (·.2)) (m.map (·.2)) →
    (mergeA l m).map (·.1) = (mergeK ks more).map (·.1) ∧ RVs K H μ L ((mergeK ks more).map (·.2)) ((mergeA l m).map (·.2))
  | [], [], _, _, e, r, _, _ => ⟨e, r⟩
  | [], _ :: _, _, _, _, _, e, _ => by cases e
  | _ :: _, [], _, _, _, _, e, _ => by cases e
  | p :: more, q :: m, ks, l, e, r, e2, r2 => by
    have e1 : q.1 = p.1 := (List.cons.inj e2).1
    have e3 : m.map (·.1) = more.map (·.1) := (List.cons.inj e2).2
    cases (show RVs K H μ L (p.2 :: more.map (·.2)) (q.2 :: m.map (·.2)) from r2) with
    | cons h t =>
      obtain ⟨p1, p2⟩ := put_rv (k := p.1) e r h
      have := merge_rv (l := pV l p.1 q.2) (ks := putK ks p.1 p.2) p1 p2 e3 t
      unfold mergeA mergeK at this ⊢
      rw [List.foldl_cons, List.foldl_cons, e1]
      exact this
def tPs (K : PySem.W.Frag) (ps : List (ME × ME)) : List (TE × TE) := ps.map fun p => (rE K p.1, rE K p.2)
theorem tPairs_ok : ∀ {ps : List (ME × ME)} {σ : L2.St} {H : Hp} {R : List (V × V) → Hp → Prop} {P : Addr → Prop} {μ : List Addr} {env : Env} {h h1 : AH} {l : List (Key × Av)}, Rl K P μ h H → EvR K P H μ h σ env → runP env ps h = some (l, h1) →
    (∀ μ1 H1 (ks : List (Key × V)), Rl K P μ1 h1 H1 → Sp μ h H μ1 h1 H1 → l.map (·.1) = ks.map (·.1) → RVs K H1 μ1 (Lv P μ1 h1) (ks.map (·.2)) (l.map (·.2)) → R (ks.map fun kv => (kV kv.1, kv.2)) H1) → tPairs (tPs K ps) σ H R
  | [], σ, H, R, P, μ, env, h, h1, l, rl, er, e, q => by cases e; exact q μ H [] rl .refl rfl .nil
  | (mk, mv) :: r, σ, H, R, P, μ, env, h, h1, l, rl, er, e, q => by
    obtain ⟨⟨k, h2⟩, e1, e⟩ := bs e
    obtain ⟨⟨v, h3⟩, e2, e⟩ := bs e
    obtain ⟨k', e3, e⟩ := bs e
    obtain ⟨⟨ps, h4⟩, e4, e⟩ := bs e
    cases e
    refine rE_to rl er e1 fun μ1 H1 x rl1 s1 er1 v1 => rE_to rl1 er1 e2 fun μ2 H2 y rl2 s2 er2 v2 => ?_
    have hx := keyA_rv v1 e3
    subst hx
    refine tPairs_ok rl2 er2 e4 fun μ3 H3 ks rl3 s3 ek rs => ?_
    exact q μ3 H3 ((k', y) :: ks) rl3 ((s1.trans s2).trans s3) (by rw [List.map_cons, List.map_cons, ek]) (.cons (v2.on rl2 s3) rs)
theorem he_disp {ps : List (ME × ME)} (p : PE X e (tDisp (tPs X.K ps))) : HE X e (vDisp ps) := pe_weak p fun σ H Q ⟨P, μ, env, h, z, h', rl, er, e, q⟩ => by
  obtain ⟨⟨l, h1⟩, e1, e⟩ := bs e
  obtain ⟨c, e⟩ := ifs e
  intro p hp
  obtain ⟨rl2, s2⟩ := rl.new hp (o := .dK []) (b := .dK []) (.dK rfl .nil)
  refine tPairs_ok rl2 (er.on rl s2) e1 fun μ3 H3 ks rl3 s3 ek rs => ?_
  split at e
  · rename_i hn
    cases e
    have hm : μ3[h.length]? = some p := pre_get s3.pre (by rw [← rl.len, List.getElem?_append_right (Nat.le_refl _), Nat.sub_self]; rfl)
    obtain ⟨a, u, e5, e6, e7⟩ := rl3.lv _ _ hn
    rw [hm] at e5; cases e5
    cases e7 with
    | @dK ks0 _ ek0 rs0 =>
      have hk0 : ks0 = [] := by cases ks0 with
        | nil => rfl
        | cons _ _ => cases ek0
      subst hk0
      refine ⟨e6, ks, rfl, by rw [keys_len ek]; exact c, ?_⟩
      obtain ⟨p1, p2⟩ := merge_rv (l := []) (ks := []) rfl .nil ek rs
      obtain ⟨rl4, s4⟩ := rl3.wr hn hm (b' := .dK (mergeA [] l)) (.dK p1 p2)
      exact q _ _ _ rl4 ((s2.trans s3).trans s4) (.ref hm)
  · cases e
def dK_at (x : Av) (h : AH) : Option (Nat × List (Key × Av)) := match x with
  | .ref n => match h[n]? with
    | some (.lv (.dK l)) => some (n, l)
    | _ => none
  | _ => none
theorem dK_at_rv {H : Hp} {μ : List Addr} {h : AH} {v : V} {x : Av} {n : Nat} {l : List (Key × Av)} (rl : Rl K P μ h H) (r : RV K H μ (Lv P μ h) v x) (e : dK_at x h = some (n, l)) : ∃ a ks, x = .ref n ∧ h[n]? = some (.lv (.dK l)) ∧ v = .ref a ∧ μ[n]? = some a ∧ H a = some (.dK ks) ∧ l.map (·.1) = ks.map (·.1) ∧ RVs K H μ (Lv P μ h) (ks.map (·.2)) (l.map (·.2)) := by
  unfold dK_at at e
  split at e
  · split at e
    · rename_i hn
      cases e
      obtain ⟨a, u, h1, h2, h3, h4⟩ := cell_at rl r hn
      cases h4 with
      | dK ek rs => exact ⟨a, _, rfl, hn, h1, h2, h3, ek, rs⟩
    · cases e
  · cases e
/-- d.pop(k): it is there -/
def vDPop1 (md mk : ME) : ME := fun env h => (md env h).bind fun (d, h1) => (dK_at d h1).bind fun _ => (mk env h1).bind fun (k, h2) => (dK_at d h2).bind fun (n, l) => (keyA k).bind fun k => (gV l k).bind fun x => some (x, h2.set n (.lv (.dK (dV l k))))
theorem dPop1_ok {σ : L2.St} {H : Hp} {Q : VK} (h : rE K (vDPop1 ma mb) σ H Q) : tDPop1 (rE K ma) (rE K mb) σ H Q := by
  obtain ⟨P, μ, env, h, z, h', rl, er, e, q⟩ := h
  obtain ⟨⟨x, h1⟩, e1, e⟩ := bs e
  obtain ⟨⟨n0, l0⟩, e0, e⟩ := bs e
  obtain ⟨⟨k, h2⟩, e2, e⟩ := bs e
  obtain ⟨⟨n, l⟩, e3, e⟩ := bs e
  obtain ⟨k', e4, e⟩ := bs e
  obtain ⟨w, e5, e⟩ := bs e
  cases e
  refine rE_to rl er e1 fun μ1 H1 v rl1 s1 er1 v1 => ?_
  obtain ⟨a0, ks0, hx0, hn0, rfl, hm0, hH0, _, _⟩ := dK_at_rv rl1 v1 e0
  refine ⟨a0, rfl, .inl ⟨_, .inl hH0⟩, rE_to rl1 er1 e2 fun μ2 H2 u rl2 s2 er2 v2 => ?_⟩
  obtain ⟨a, ks, rfl, hn, ha, hm, hH, ek, rs⟩ := dK_at_rv rl2 (v1.on rl1 s2) e3
  cases ha
  have hu := keyA_rv v2 e4
  subst hu
  rcases get_rv ek rs k' with ⟨_, z2⟩ | ⟨vv, y, z1, z2, z3⟩
  · rw [e5] at z2; cases z2
  · rw [e5] at z2; cases z2
    obtain ⟨d1, d2⟩ := drop_rv (k := k') ek rs
    obtain ⟨rl3, s3⟩ := rl2.wr hn hm (b' := .dK (dV l k')) (.dK d1 d2)
    exact ⟨ks, k', vv, hH, rfl, z1, q _ _ _ rl3 ((s1.trans s2).trans s3) (z3.on rl2 s3)⟩
theorem he_dpop1 (p : PE X e (tDPop1 (rE X.K ma) (rE X.K mb))) : HE X e (vDPop1 ma mb) := pe_weak p fun σ H Q h => dPop1_ok h
/-- d.pop(k, x) -/
def vDPop2 (md mk mx : ME) : ME := fun env h => (md env h).bind fun (d, h1) => (dK_at d h1).bind fun _ => (mk env h1).bind fun (k, h2) => (mx env h2).bind fun (x, h3) => (dK_at d h3).bind fun (n, l) => (keyA k).bind fun k => match gV l k with
  | some y => some (y, h3.set n (.lv (.dK (dV l k))))
  | none => some (x, h3)
theorem he_dpop2 (p : PE X e (tDPop2 (rE X.K ma) (rE X.K mb) (rE X.K mc))) : HE X e (vDPop2 ma mb mc) := pe_weak p fun σ H Q ⟨P, μ, env, h, z, h', rl, er, e, q⟩ => by
  obtain ⟨⟨x, h1⟩, e1, e⟩ := bs e
  obtain ⟨⟨n0, l0⟩, e0, e⟩ := bs e
  obtain ⟨⟨k, h2⟩, e2, e⟩ := bs e
  obtain ⟨⟨w, h3⟩, e6, e⟩ := bs e
  obtain ⟨⟨n, l⟩, e3, e⟩ := bs e
  obtain ⟨k', e4, eF⟩ := bs e
  refine rE_to rl er e1 fun μ1 H1 v rl1 s1 er1 v1 => ?_
  obtain ⟨a0, ks0, hx0, hn0, rfl, hm0, hH0, _, _⟩ := dK_at_rv rl1 v1 e0
  refine ⟨a0, rfl, .inl ⟨_, .inl hH0⟩, rE_to rl1 er1 e2 fun μ2 H2 u rl2 s2 er2 v2 => rE_to rl2 er2 e6 fun μ3 H3 t rl3 s3 er3 v3 => ?_⟩
  obtain ⟨a, ks, rfl, hn, ha, hm, hH, ek, rs⟩ := dK_at_rv rl3 (v1.on rl1 (s2.trans s3)) e3
  cases ha
  have hu := keyA_rv v2 e4
  subst hu
  have st := (s1.trans s2).trans s3
  refine ⟨ks, k', hH, rfl, fun vv hv => ?_, fun hv => ?_⟩
  · rcases get_rv ek rs k' with ⟨z1, _⟩ | ⟨vv', y, z1, z2, z3⟩
    · rw [hv] at z1; cases z1
    · rw [hv] at z1; cases z1
      simp only [z2] at eF
      cases eF
      obtain ⟨d1, d2⟩ := drop_rv (k := k') ek rs
      obtain ⟨rl4, s4⟩ := rl3.wr hn hm (b' := .dK (dV l k')) (.dK d1 d2)
      exact q _ _ _ rl4 (st.trans s4) (z3.on rl3 s4)
  · rcases get_rv ek rs k' with ⟨_, z2⟩ | ⟨vv', y, z1, z2, z3⟩
    · simp only [z2] at eF
      cases eF
      exact q _ _ _ rl3 st v3
    · rw [hv] at z1; cases z1
/-- d.update(e) -/
def vUpd (md mx : ME) : ME := fun env h => (md env h).bind fun (d, h1) => (dK_at d h1).bind fun _ => (mx env h1).bind fun (x, h2) => (dK_at d h2).bind fun (n, l) => match dtD h2 x with
  | some (.K m) => match x with
    | .ref n' => if n' ≠ n ∧ l.length + m.length ≤ sizeLine then some (.d .non, h2.set n (.lv (.dK (mergeA l m)))) else none
    | _ => if l.length + m.length ≤ sizeLine then some (.d .non, h2.set n (.lv (.dK (mergeA l m)))) else none
  | _ => none
theorem he_upd (p : PE X e (tBM X.K "dict" Fd.rDUpd (rE X.K ma) (rA X.K (aCons mb aNil)))) : HE X e (vUpd ma mb) := pe_weak p fun σ H Q ⟨P, μ, env, h, z, h', rl, er, e, q⟩ => by
  obtain ⟨⟨x, h1⟩, e1, e⟩ := bs e
  obtain ⟨⟨n0, l0⟩, e0, e⟩ := bs e
  obtain ⟨⟨y, h2⟩, e2, e⟩ := bs e
  obtain ⟨⟨n, l⟩, e3, eF⟩ := bs e
  refine rE_to rl er e1 fun μ1 H1 v rl1 s1 er1 v1 => ?_
  obtain ⟨a0, ks0, hx0, hn0, rfl, hm0, hH0, _, _⟩ := dK_at_rv rl1 v1 e0
  refine ⟨.inr (.inr (.inl ⟨rfl, .inl ⟨_, hH0⟩⟩)), rA_to rl1 er1 (r := [y]) (h1 := h2) (by unfold aCons; rw [e2]; rfl) fun μ2 H2 us rl2 s2 er2 v2 => ?_⟩
  obtain ⟨a, ks, rfl, hn, ha, hm, hH, ek, rs⟩ := dK_at_rv rl2 (v1.on rl1 s2) e3
  cases ha
  cases v2 with
  | cons r1 r2 =>
    cases r2
    dsimp only at eF
    split at eF
    · rename_i m hd
      obtain ⟨b, ms, rfl, hb, em, rm⟩ := dtD_K rl2 r1 hd
      have fin : a0 ≠ b → l.length + m.length ≤ sizeLine → some (Av.d Dv.non, h2.set n (.lv (.dK (mergeA l m)))) = some (z, h') → Fd.rDUpd (.ref a0) [.ref b] H2 Q := fun ne hz e => by
        cases e
        obtain ⟨p1, p2⟩ := merge_rv ek rs em rm
        obtain ⟨rl3, s3⟩ := rl2.wr hn hm (b' := .dK (mergeA l m)) (.dK p1 p2)
        exact ⟨a0, b, ks, ms, rfl, rfl, ne, hH, hb, by rw [keys_len ek, keys_len em]; exact hz, q _ _ _ rl3 ((s1.trans s2).trans s3) (.d .non fun a m => (nomatch m))⟩
      split at eF
      · rename_i n'
        obtain ⟨⟨c1, c2⟩, eF⟩ := ifs eF
        refine fin (fun k => ?_) c2 eF
        subst k
        cases r1 with
        | ref hm' => exact c1 (nodup_at rl2.nd hm' hm)
      · rename_i hnr
        obtain ⟨c, eF⟩ := ifs eF
        refine fin (fun k => ?_) c eF
        subst k
        have la : Lv P μ2 h2 a0 := .inr ⟨n, _, hn, (fun z => nomatch z), hm⟩
        cases r1 with
        | ref hm' => exact hnr _ rfl
        | tup _ _ => cases hd
        | lst _ _ _ => cases hd
        | @d _ x G r nn =>
          cases x <;> first | cases hd | skip
          cases r with
          | dct _ _ _ => exact nn a0 List.mem_cons_self la
    · cases eF
/-! ### slices -/
abbrev MO := Env → AH → Option (Option Int × AH)
def rO (K : PySem.W.Frag) (m : MO) : TO := fun σ H Q => ∃ P μ env h r h', Rl K P μ h H ∧ EvR K P H μ h σ env ∧ m env h = some (r, h') ∧ ∀ μ' H', Rl K P μ' h' H' → Sp μ h H μ' h' H' → Q r H'
def HO_ (X : Cx) (e : Option Expr) (m : MO) : Prop := PO X e (rO X.K m)
theorem po_weak {e : Option Expr} {t t' : TO} (h : PO X e t) (w : ∀ σ H Q, t' σ H Q → t σ H Q) : PO X e t' := ⟨fun pins s σ H Q I q => h.run pins s σ H Q I (w σ H Q q)⟩
def oNo : MO := fun _ h => some (none, h)
def oSome (m : ME) : MO := fun env h => (m env h).bind fun (x, h1) => (intA x).bind fun i => some (some i, h1)
theorem ho_none : HO_ X none oNo := po_weak po_none fun σ H Q ⟨P, μ, env, h, r, h', rl, er, e, q⟩ => by cases e; exact q μ H rl .refl
theorem ho_some (p : HE X e me) : HO_ X (some e) (oSome me) := po_weak (po_some p) fun σ H Q ⟨P, μ, env, h, r, h', rl, er, e, q⟩ => by
  obtain ⟨⟨x, h1⟩, e1, e⟩ := bs e
  obtain ⟨i, hi, e⟩ := bs e
  cases e
  exact rE_to rl er e1 fun μ1 H1 v rl1 s1 er1 v1 => ⟨i, intA_rv v1 hi, q μ1 H1 rl1 s1⟩
theorem rO_to {m : MO} {σ : L2.St} {H : Hp} {Q : Option Int → Hp → Prop} {μ : List Addr} {env : Env} {h h1 : AH} {r : Option Int} (rl : Rl K P μ h H) (er : EvR K P H μ h σ env) (e : m env h = some (r, h1))
    (q : ∀ μ1 H1, Rl K P μ1 h1 H1 → Sp μ h H μ1 h1 H1 → EvR K P H1 μ1 h1 σ env → Q r H1) : rO K m σ H Q :=
  ⟨P, μ, env, h, r, h1, rl, er, e, fun μ1 H1 r1 s1 => q μ1 H1 r1 s1 (er.on rl s1)⟩
def cutA {α : Type} (xs : List α) (lo hi : Option Int) : List α := (xs.drop (HT.sIx xs.length 0 lo)).take (HT.sIx xs.length xs.length hi - HT.sIx xs.length 0 lo)
theorem cut_rv {H : Hp} {μ : List Addr} {L : Addr → Prop} {vs : List V} {xs : List Av} (lo hi : Option Int) (r : RVs K H μ L vs xs) : RVs K H μ L (cutV vs lo hi) (cutA xs lo hi) := by
  unfold cutV cutA
  rw [r.len]
  exact (r.drop _).take _
def slF (h : AH) (x : Av) (lo hi : Option Int) : Option Av := match itT x with
  | some xs => some (mkT (cutA xs lo hi))
  | none => match strA x with
    | some z => if z.length ≤ sizeLine then some (.d (.str (cutS z lo hi))) else none
    | none => (itL h x).bind fun xs => some (mkL (cutA xs lo hi))
/-- x[lo:hi], a list of it such as nobody changes -/
def vSl (m : ME) (l u : MO) : ME := fun env h => (m env h).bind fun (x, h1) => (l env h1).bind fun (lo, h2) => (u env h2).bind fun (hi, h3) => (slF h3 x lo hi).bind fun y => some (y, h3)
/-- .. a list in a cell -/
def vSlC (m : ME) (l u : MO) : ME := fun env h => (m env h).bind fun (x, h1) => (l env h1).bind fun (lo, h2) => (u env h2).bind fun (hi, h3) => match itL h3 x with
  | some xs => some (.ref h3.length, h3 ++ [.lv (.lst (cutA xs lo hi))])
  | none => (slF h3 x lo hi).bind fun y => some (y, h3)
theorem cutA_all {xs : List Av} {vs : List V} {H : Hp} {μ : List Addr} {L : Addr → Prop} {lo hi : Option Int} (r : RVs K H μ L vs xs) (hw : HT.sIx vs.length 0 lo = 0 ∧ HT.sIx vs.length vs.length hi = vs.length) : cutA xs lo hi = xs := by
  rw [r.len] at hw
  unfold cutA
  rw [hw.1, hw.2, List.drop_zero, Nat.sub_zero, List.take_length]
theorem slF_ok {H : Hp} {μ : List Addr} {h : AH} {v : V} {x y : Av} {lo hi : Option Int} {Q : VK} (rl : Rl K P μ h H) (r : RV K H μ (Lv P μ h) v x) (e : slF h x lo hi = some y) (q : ∀ H' w, Rl K P μ h H' → Sp μ h H μ h H' → RV K H' μ (Lv P μ h) w y → Q w H') : Fd.rSlD K v lo hi H Q := by
  unfold slF at e
  split at e
  · rename_i xs hx
    cases e
    obtain ⟨a, vs, rfl, hs, rs⟩ := itT_rv r hx
    refine .inr (.inr ⟨a, vs, rfl, hs.sq, fun hw => ?_, fun hw p hp => ?_⟩)
    · rw [cutA_all rs hw] at q
      exact q H _ rl .refl (mkT_rv hs rs)
    · have sm : Same H (upd H p (.tup (cutV vs lo hi))) := same_new hp
      exact q _ _ (rl.same sm) (.same rl sm) (mkT_rv (.inl upd_same) ((cut_rv lo hi rs).on rl (.same rl sm)))
  · split at e
    · rename_i z hz
      obtain ⟨c, e⟩ := ifs e
      cases e
      have := strA_rv r hz
      subst this
      exact .inl ⟨z, rfl, c, q H _ rl .refl (.d (.str _) fun a m => (nomatch m))⟩
    · obtain ⟨xs, hx, e⟩ := bs e
      cases e
      obtain ⟨a, vs, rfl, hs, rs⟩ := itL_rv rl r hx
      refine .inr (.inl ⟨a, vs, rfl, hs, fun p hp => ?_⟩)
      have sm : Same H (upd H p (.lst (cutV vs lo hi))) := same_new hp
      exact q _ _ (rl.same sm) (.same rl sm) (mkL_rv upd_same (fun z => rl.has z hp) ((cut_rv lo hi rs).on rl (.same rl sm)))
theorem he_sl {ml mu : MO} (p : PE X e (tSl (Fd.rSlD X.K) (rE X.K ma) (rO X.K ml) (rO X.K mu))) : HE X e (vSl ma ml mu) := pe_weak p fun σ H Q ⟨P, μ, env, h, z, h', rl, er, e, q⟩ => by
  obtain ⟨⟨x, h1⟩, e1, e⟩ := bs e
  obtain ⟨⟨lo, h2⟩, e2, e⟩ := bs e
  obtain ⟨⟨hi, h3⟩, e3, e⟩ := bs e
  obtain ⟨y, e4, e⟩ := bs e
  cases e
  refine rE_to rl er e1 fun μ1 H1 v rl1 s1 er1 v1 => rO_to rl1 er1 e2 fun μ2 H2 rl2 s2 er2 => rO_to rl2 er2 e3 fun μ3 H3 rl3 s3 er3 => ?_
  exact slF_ok rl3 (v1.on rl1 (s2.trans s3)) e4 fun H4 w rl4 s4 r4 => q μ3 H4 w rl4 (((s1.trans s2).trans s3).trans s4) r4
theorem he_slC {ml mu : MO} (p : PE X e (tSl (Fd.rSlD X.K) (rE X.K ma) (rO X.K ml) (rO X.K mu))) : HE X e (vSlC ma ml mu) := pe_weak p fun σ H Q ⟨P, μ, env, h, z, h', rl, er, e, q⟩ => by
  obtain ⟨⟨x, h1⟩, e1, e⟩ := bs e
  obtain ⟨⟨lo, h2⟩, e2, e⟩ := bs e
  obtain ⟨⟨hi, h3⟩, e3, e⟩ := bs e
  refine rE_to rl er e1 fun μ1 H1 v rl1 s1 er1 v1 => rO_to rl1 er1 e2 fun μ2 H2 rl2 s2 er2 => rO_to rl2 er2 e3 fun μ3 H3 rl3 s3 er3 => ?_
  have v3 := v1.on rl1 (s2.trans s3)
  have st := (s1.trans s2).trans s3
  dsimp only at e
  split at e
  · rename_i xs hx
    cases e
    obtain ⟨a, vs, rfl, hs, rs⟩ := itL_rv rl3 v3 hx
    refine .inr (.inl ⟨a, vs, rfl, hs, fun p hp => ?_⟩)
    obtain ⟨rl4, s4⟩ := rl3.new hp (.lst (cut_rv lo hi rs))
    exact q _ _ _ rl4 (st.trans s4) (ref_new rl3)
  · obtain ⟨y, e4, e⟩ := bs e
    cases e
    exact slF_ok rl3 v3 e4 fun H4 w rl4 s4 r4 => q μ3 H4 w rl4 (st.trans s4) r4
/-! ### one sign, chains, isinstance -/
def vUn (f : Dv → Option Dv) (m : ME) : ME := fun env h => (m env h).bind fun (x, h1) => (snap 8 h1 x).bind fun d => (f d).bind fun r => some (.d r, h1)
theorem he_un {r : V → Hp → VK → Prop} {f : Dv → Option Dv} (o : UnD X.K r f) (p : PE X e (tUn r (rE X.K ma))) : HE X e (vUn f ma) := pe_weak p fun σ H Q ⟨P, μ, env, h, z, h', rl, er, e, q⟩ => by
  obtain ⟨⟨x, h1⟩, e1, e⟩ := bs e
  obtain ⟨d, e2, e⟩ := bs e
  obtain ⟨w, e3, e⟩ := bs e
  cases e
  refine rE_to rl er e1 fun μ1 H1 v rl1 s1 er1 v1 => ?_
  obtain ⟨G, rr, _⟩ := snap_rep rl1 8 _ _ _ v1 e2
  exact o H1 v d w G Q rr e3 fun z rz => q μ1 H1 z rl1 s1 (.d rz fun a m => (nomatch m))
/-- a op b op' c -/
def vChain (f f' : Dv → Dv → Option Dv) (ma mb mc : ME) : ME := fun env h => (ma env h).bind fun (a, h1) => (mb env h1).bind fun (b, h2) => (opM true f a b h2).bind fun (r, h3) => match r with
  | .d (.bl true) => (mc env h3).bind fun (c, h4) => opM true f' b c h4
  | .d (.bl false) => some (.d (.bl false), h3)
  | _ => none
theorem chain_ok {r r' : R2} {f f' : Dv → Dv → Option Dv} (o : OpD K r true f) (o' : OpD K r' true f') {σ : L2.St} {H : Hp} {Q : VK} (h : rE K (vChain f f' ma mb mc) σ H Q) : tChain r r' (rE K ma) (rE K mb) (rE K mc) σ H Q := by
  obtain ⟨P, μ, env, h, z, h', rl, er, e, q⟩ := h
  obtain ⟨⟨x, h1⟩, e1, e⟩ := bs e
  obtain ⟨⟨y, h2⟩, e2, e⟩ := bs e
  obtain ⟨⟨w, h3⟩, e3, e⟩ := bs e
  refine rE_to rl er e1 fun μ1 H1 v rl1 s1 er1 v1 => rE_to rl1 er1 e2 fun μ2 H2 u rl2 s2 er2 v2 => ?_
  refine opM_ok o rl2 (v1.on rl1 s2) v2 e3 fun H3 t hh rl3 s3 r3 => ?_
  subst hh
  cases r3 with
  | @d t w G r n =>
    cases w <;> first | cases e | skip
    rename_i b
    cases r
    refine ⟨b, rfl, ?_⟩
    cases b with
    | false => cases e; exact q μ2 H3 _ rl3 ((s1.trans s2).trans s3) (.d (.bl _) fun a m => (nomatch m))
    | true =>
      obtain ⟨⟨cc, h4⟩, e4, e⟩ := bs (show (mc env h3).bind _ = some (z, h') from e)
      refine rE_to rl3 (er2.on rl2 s3) e4 fun μ4 H4 w' rl4 s4 er4 v4 => ?_
      exact opM_ok o' rl4 (v2.on rl2 (s3.trans s4)) v4 e fun H5 t' hh rl5 s5 r5 => by subst hh; exact q μ4 H5 t' rl5 ((((s1.trans s2).trans s3).trans s4).trans s5) r5
  | ref _ => cases e
  | tup _ _ => cases e
  | lst _ _ _ => cases e
theorem he_chain {r r' : R2} {f f' : Dv → Dv → Option Dv} (o : OpD X.K r true f) (o' : OpD X.K r' true f') (p : PE X e (tChain r r' (rE X.K ma) (rE X.K mb) (rE X.K mc))) : HE X e (vChain f f' ma mb mc) := pe_weak p fun σ H Q h => chain_ok o o' h
theorem ht_chain {r r' : R2} {f f' : Dv → Dv → Option Dv} (o : OpD X.K r true f) (o' : OpD X.K r' true f') (p : PT X e (tTest (tChain r r' (rE X.K ma) (rE X.K mb) (rE X.K mc)))) : HT X e (tvB (vChain f f' ma mb mc)) := pt_weak p fun σ H Q h => by
  obtain ⟨P, μ, env, h, z, h', rl, er, e, q⟩ := tB_ok h
  exact chain_ok o o' ⟨P, μ, env, h, z, h', rl, er, e, q⟩
def vIsi (T : String) (m : ME) : ME := fun env h => (m env h).bind fun (x, h1) => (snap 8 h1 x).bind fun d => (Fd.isT T d).bind fun b => some (.d (.bl b), h1)
theorem he_isi {T : String} (p : PE X e (tCB (Fd.rIsiD X.K) (tCons (rE X.K ma) (tCons (tC (.ty T)) tNil)))) : HE X e (vIsi T ma) := pe_weak p fun σ H Q ⟨P, μ, env, h, z, h', rl, er, e, q⟩ => by
  obtain ⟨⟨x, h1⟩, e1, e⟩ := bs e
  obtain ⟨d, e2, e⟩ := bs e
  obtain ⟨b, e3, e⟩ := bs e
  cases e
  refine rE_to rl er e1 fun μ1 H1 v rl1 s1 er1 v1 => ?_
  obtain ⟨G, rr, _⟩ := snap_rep rl1 8 _ _ _ v1 e2
  obtain ⟨n, k1, k2⟩ := Fd.isT_ty e3
  have fin := q μ1 H1 (.bl b) rl1 s1 (.d (.bl _) fun a m => (nomatch m))
  rcases rr.tyX k1 with z | ⟨rfl, z⟩
  · exact .inl ⟨v, .ty T, .type n, .type T, b, rfl, .ty T, z, k2, fin⟩
  · exact .inr ⟨v, T, b, rfl, z, k2, fin⟩
/-- a method without arguments, of what can't change -/
def vM0 (f : Dv → List Dv → Option Dv) (m : ME) : ME := fun env h => (m env h).bind fun (x, h1) => (snap 8 h1 x).bind fun d => (f d []).bind fun r => if r.pur = true then some (.d r, h1) else none
/-- a call without arguments -/
theorem he_callI0 {F : FI} {x : Str} {k j : Nat} {p : Pos} (c : Cal X.prog X.w X.K X.mg X.base k x (spI X.K 0 F)) (hr : Room j X.A) (hk : k ≤ j) (hg : Gl X x) (hdb : (x == ("__debug__" : Str)) = false := by decide) : HE X (.Call (.Name x p) [] [] pos) (vCallI F aNil) :=
  pe_weak (Fd.pe_c0 c hr hk hg hdb) fun σ H Q h => by
    have := tCall_I (E := E0) (n := 0) h alen_nil
    obtain ⟨P, μ, env, h, r, h', rl, er, e, q⟩ := this
    cases e
    exact q μ H [] rl .refl .nil
theorem he_callT0 {F : FP} {x : Str} {k j : Nat} {p : Pos} (c : Cal X.prog X.w X.K X.mg X.base k x (spP X.K 0 F)) (hr : Room j X.A) (hk : k ≤ j) (hg : Gl X x) (hdb : (x == ("__debug__" : Str)) = false := by decide) : HE X (.Call (.Name x p) [] [] pos) (vCallT F aNil) :=
  pe_weak (Fd.pe_c0 c hr hk hg hdb) fun σ H Q h => by
    have := tCall_T (E := E0) (n := 0) h alen_nil
    obtain ⟨P, μ, env, h, r, h', rl, er, e, q⟩ := this
    cases e
    exact q μ H [] rl .refl .nil
end
end Fh
namespace Fh
open PySem PySem.Spec PyProof.Rows L2 RZ
open Fd (Dv Rep Reps SqF same_new OpD CallD UnD MtD TyD PE_or PT_or PS_or Cal TqT kD pyD)
variable {P : Addr → Prop}
section
variable {X : Cx} {K : PySem.W.Frag} {a b c e tg : Expr} {es : List Expr} {pos : Pos} {ma mb mc me : ME} {ta tb : MT} {mr : MA}
/-! ### x in y -/
def inDp (neg : Bool) (d1 d2 : Dv) : Option Dv := match pyD d1, pyD d2 with
  | some p, some (.list ds) => if SeqAt.shaped p = true ∧ SeqAt.shaped (.list ds) = true then some (.bl (if neg = true then !(ds.any fun z => PyData.eqv z p) else ds.any fun z => PyData.eqv z p)) else none
  | _, _ => none
theorem opD_inDp : OpD K (rInD K) true (inDp false) := fun H x y d1 d2 d G1 G2 Q r1 r2 e q => by
  unfold inDp at e
  split at e
  · rename_i p ds h1 h2
    obtain ⟨⟨c1, c2⟩, e⟩ := ifs e
    cases e
    exact ⟨p, ds, r1.dp h1, r2.dp h2, c1, c2, q _ H [] (.refl H) (.bl _) (fun a m => (nomatch m)) fun _ _ => ⟨.nil, fun a m => (nomatch m)⟩⟩
  · cases e
theorem opD_notInDp : OpD K (rNotInD K) true (inDp true) := fun H x y d1 d2 d G1 G2 Q r1 r2 e q => by
  unfold inDp at e
  split at e
  · rename_i p ds h1 h2
    obtain ⟨⟨c1, c2⟩, e⟩ := ifs e
    cases e
    exact ⟨p, ds, r1.dp h1, r2.dp h2, c1, c2, q _ H [] (.refl H) (.bl _) (fun a m => (nomatch m)) fun _ _ => ⟨.nil, fun a m => (nomatch m)⟩⟩
  · cases e
def inA (neg : Bool) (d1 d2 : Dv) : Option Dv := (Fd.inS neg d1 d2).or ((Fd.inQ neg d1 d2).or (inDp neg d1 d2))
def rInA (K : PySem.W.Frag) : R2 := fun x y H Q => (∃ (c : Nat) (z : Str), x = .str ⟨#[c]⟩ ∧ y = .str z ∧ Q (.bl (decide (c ∈ z.cps.toList))) H) ∨ (rIn K false x y H Q ∨ rInD K x y H Q)
def rNotInA (K : PySem.W.Frag) : R2 := fun x y H Q => (∃ (c : Nat) (z : Str), x = .str ⟨#[c]⟩ ∧ y = .str z ∧ Q (.bl (!decide (c ∈ z.cps.toList))) H) ∨ (rIn K true x y H Q ∨ rNotInD K x y H Q)
theorem op_inA (hu : X.A.units + 65 < cLine) : OpR X (compareOp .In) (rInA X.K) := op_in_sign.or (op_in_seq.or (op_inD hu))
theorem op_notInA (hu : X.A.units + 65 < cLine) : OpR X (compareOp .NotIn) (rNotInA X.K) := op_notIn_sign.or (op_notIn_seq.or (op_notInD hu))
theorem opD_inA : OpD K (rInA K) true (inA false) := OpD.or Fd.opD_inS (OpD.or Fd.opD_inQ opD_inDp)
theorem opD_notInA : OpD K (rNotInA K) true (inA true) := OpD.or Fd.opD_notInS (OpD.or Fd.opD_inQ opD_notInDp)
/-! ### what is new may change from now on -/
def opT (f : Dv → Dv → Option Dv) (a b : Av) (h : AH) : Option (Av × AH) :=
  (snap 8 h a).bind fun x => (snap 8 h b).bind fun y => (f x y).bind fun d => if d.sh = true then thaw d h else none
def vOpT (f : Dv → Dv → Option Dv) (ma mb : ME) : ME := fun env h => (ma env h).bind fun (a, h1) => (mb env h1).bind fun (b, h2) => opT f a b h2
theorem he_opT {op : Operator} {r : R2} {f : Dv → Dv → Option Dv} (ho : OpR X (binaryOp op) r) (o : OpD X.K r true f) (ha : HE X a ma) (hb : HE X b mb) : HE X (.BinOp a op b pos) (vOpT f ma mb) := pe_weak (pe_op ho ha hb) fun σ H Q ⟨P, μ, env, h, z, h', rl, er, e, q⟩ => by
  obtain ⟨⟨x, h1⟩, e1, e⟩ := bs e
  obtain ⟨⟨y, h2⟩, e2, e⟩ := bs e
  obtain ⟨d1, e3, e⟩ := bs e
  obtain ⟨d2, e4, e⟩ := bs e
  obtain ⟨d, e5, e⟩ := bs e
  obtain ⟨c, e⟩ := ifs e
  refine rE_to rl er e1 fun μ1 H1 v rl1 s1 er1 v1 => rE_to rl1 er1 e2 fun μ2 H2 u rl2 s2 er2 v2 => ?_
  obtain ⟨G1, p1, _⟩ := snap_rep rl2 8 _ _ _ (v1.on rl1 s2) e3
  obtain ⟨G2, p2, _⟩ := snap_rep rl2 8 _ _ _ v2 e4
  refine o H2 v u d1 d2 d G1 G2 Q p1 p2 e5 fun w H3 Gz sm rz _ new => ?_
  obtain ⟨μ3, rl3, s3, r3⟩ := thaw_ok rl2 sm rz (fun a m => (new rfl c).2 a m) e
  exact q μ3 H3 w rl3 ((s1.trans s2).trans s3) r3
/-! ### zip, enumerate, a new dict's entries -/
def zipA (xs ys : List Av) : List Av := (xs.zip ys).map fun p => mkT [p.1, p.2]
def isTA (x : Av) : Bool := (itT x).isSome
/-- frozen alone: a list in a cell is not walked so -/
def itF (x : Av) : Option (List Av) := match x with
  | .ref _ => none
  | x => itL [] x
def iZp (ma mb : ME) : MI := fun env h => (ma env h).bind fun (x, h1) => (mb env h1).bind fun (y, h2) => match itT x, itT y with
  | some xs, some ys => some ((zipA xs ys, none), h2)
  | _, _ => (itF x).bind fun xs => (itF y).bind fun ys => some ((zipA xs ys, none), h2)
theorem itF_L {x : Av} {xs : List Av} (e : itF x = some xs) (h : AH) : itL h x = some xs := by
  cases x with
  | ref _ => cases e
  | d x => cases x <;> exact e
  | tup _ => cases e
  | lst _ => exact e
theorem zip_len {α β : Type} {xs : List α} {ys : List β} {i : Nat} (h : (xs.zip ys).length ≤ i) : xs.length ≤ i ∨ ys.length ≤ i := by
  rw [List.length_zip] at h; omega
theorem zipA_get {xs ys : List Av} {i : Nat} {x : Av} (e : (zipA xs ys)[i]? = some x) : ∃ a b, xs[i]? = some a ∧ ys[i]? = some b ∧ x = mkT [a, b] := by
  unfold zipA at e
  rw [List.getElem?_map] at e
  obtain ⟨⟨a, b⟩, h1, rfl⟩ := Option.map_eq_some_iff.mp e
  obtain ⟨h2, h3⟩ := List.getElem?_zip_eq_some.mp h1
  exact ⟨a, b, h2, h3, rfl⟩
theorem itH_zipT {μ : List Addr} {h : AH} {H : Hp} {p q : Addr} {vs us : List V} {xs ys : List Av} (rl : Rl K P μ h H) (h1 : TqT K H p vs) (r1 : RVs K H μ (Lv P μ h) vs xs) (h2 : TqT K H q us) (r2 : RVs K H μ (Lv P μ h) us ys) : ItH K P (ItzT K p q) μ h H (zipA xs ys) := fun P' μ2 h3 H2 hi rl2 s2 => by
  have k1 := (tqT_stepL rl.nt s2.sqv h1).sq
  have k2 := (tqT_stepL rl.nt s2.sqv h2).sq
  have q1 := r1.onP rl s2 hi
  have q2 := r2.onP rl s2 hi
  refine ⟨⟨vs, us, k1, k2, ?_⟩, fun i x hx => ?_⟩
  · rw [q1.len, q2.len]; unfold zipA; rw [List.length_map]; exact zip_len (Nat.le_refl _)
  · obtain ⟨a, b, g1, g2, rfl⟩ := zipA_get hx
    obtain ⟨v, w1, w2⟩ := q1.getA i a g1
    obtain ⟨u, w3, w4⟩ := q2.getA i b g2
    refine ⟨⟨vs, us, v, u, k1, k2, w1, w3⟩, fun y H3 ⟨T, x, z, e1, e2, e3, e4, e5⟩ => ?_⟩
    subst e1 e3
    have a1 := e4 vs k1; rw [w1] at a1; cases a1
    have a2 := e5 us k2; rw [w3] at a2; cases a2
    have sm : Same H2 (upd H2 T (.tup [v, u])) := same_new e2
    exact ⟨sm, mkT_rv (.inl upd_same) (.cons (w2.on rl2 (.same rl2 sm)) (.one (w4.on rl2 (.same rl2 sm))))⟩
theorem itH_zipL {μ : List Addr} {h : AH} {H : Hp} {p q : Addr} {x y : Av} {xs ys : List Av} (rl : Rl K P μ h H) (r1 : RV K H μ (Lv P μ h) (.ref p) x) (r2 : RV K H μ (Lv P μ h) (.ref q) y) (e1 : itF x = some xs) (e2 : itF y = some ys) : ItH K P (Itz K p q) μ h H (zipA xs ys) := fun P' μ2 h3 H2 hi rl2 s2 => by
  obtain ⟨p', vs, ep, k1, q1⟩ := itL_rv rl2 (r1.onP rl s2 hi) (itF_L e1 h3)
  cases ep
  obtain ⟨q', us, eq, k2, q2⟩ := itL_rv rl2 (r2.onP rl s2 hi) (itF_L e2 h3)
  cases eq
  refine ⟨⟨vs, us, k1, k2, ?_⟩, fun i x hx => ?_⟩
  · rw [q1.len, q2.len]; unfold zipA; rw [List.length_map]; exact zip_len (Nat.le_refl _)
  · obtain ⟨a, b, g1, g2, rfl⟩ := zipA_get hx
    obtain ⟨v, w1, w2⟩ := q1.getA i a g1
    obtain ⟨u, w3, w4⟩ := q2.getA i b g2
    refine ⟨⟨vs, us, v, u, k1, k2, w1, w3⟩, fun y H3 ⟨T, x, z, e1, e2, e3, e4, e5⟩ => ?_⟩
    subst e1 e3
    have a1 := e4 vs k1; rw [w1] at a1; cases a1
    have a2 := e5 us k2; rw [w3] at a2; cases a2
    have sm : Same H2 (upd H2 T (.tup [v, u])) := same_new e2
    exact ⟨sm, mkT_rv (.inl upd_same) (.cons (w2.on rl2 (.same rl2 sm)) (.one (w4.on rl2 (.same rl2 sm))))⟩
theorem hi_zip (p : PI X tg e (iZipA X.K (rA X.K (aCons ma (aCons mb aNil))))) : HI X tg e (iZp ma mb) := pi_weak p fun σ H R ⟨P, μ, env, h, items, on, h', rl, er, e, q⟩ => by
  obtain ⟨⟨x, h1⟩, e1, e⟩ := bs e
  obtain ⟨⟨y, h2⟩, e2, e⟩ := bs e
  refine rA_to rl er (r := [x, y]) (h1 := h2) (by unfold aCons; rw [e1]; show ((mb env h1).bind _).bind _ = _; rw [e2]; rfl) fun μ1 H1 vs rl1 s1 er1 v1 => ?_
  cases v1 with
  | cons r1 r2 =>
    cases r2 with
    | cons r2 r3 =>
      cases r3
      dsimp only at e
      split at e
      · rename_i xs ys hx hy
        cases e
        obtain ⟨a, vs1, rfl, k1, k2⟩ := itT_rv r1 hx
        obtain ⟨b, vs2, rfl, k3, k4⟩ := itT_rv r2 hy
        exact ⟨a, b, vs1, vs2, rfl, .inr ⟨k1.sq, k3.sq, q μ1 H1 _ rl1 s1 (itH_zipT rl1 k1 k2 k3 k4) un1_none⟩⟩
      · obtain ⟨xs, hx, e⟩ := bs e
        obtain ⟨ys, hy, e⟩ := bs e
        cases e
        obtain ⟨a, vs1, rfl, k1, k2⟩ := itL_rv rl1 r1 (itF_L hx _)
        obtain ⟨b, vs2, rfl, k3, k4⟩ := itL_rv rl1 r2 (itF_L hy _)
        exact ⟨a, b, vs1, vs2, rfl, .inl ⟨k1, k3, q μ1 H1 _ rl1 s1 (itH_zipL rl1 r1 r2 hx hy) un1_none⟩⟩
/-- a new dict's entries: it is locked for good -/
def iFz (kd : Kd) (m : ME) : MI := fun env h => (m env h).bind fun (x, h1) => match x with
  | .ref n => match h1[n]? with
    | some (.lv b) => (dtD h1 x).bind fun q => (itQ kd q).bind fun p => some ((p, none), h1.set n (.lk b))
    | _ => none
  | _ => none
theorem hi_fz {kd : Kd} (p : PI X tg e (iX kd (Fd.tFrz (rE X.K me)))) : HI X tg e (iFz kd me) := pi_weak p fun σ H R ⟨P, μ, env, h, items, on, h', rl, er, e, q⟩ => by
  obtain ⟨⟨x, h1⟩, e1, e⟩ := bs e
  dsimp only at e
  split at e
  · rename_i n
    split at e
    · rename_i b hn
      obtain ⟨dq, e2, e⟩ := bs e
      obtain ⟨its, e3, eF⟩ := bs e
      cases eF
      have body : ∀ (t : TE), (∀ Q : VK, (rE X.K me σ H fun x H1 => ∃ d u, x = .ref d ∧ H1 d = some u ∧ Mut (some u) ∧ ∀ od, Q x (upd H1 d (.frz od u))) → t σ H Q) → (rE X.K me σ H fun x H1 => ∃ d u, x = .ref d ∧ H1 d = some u ∧ Mut (some u) ∧ ∀ od, iX kd (fun _ H Q => Q x H) σ (upd H1 d (.frz od u)) R) → iX kd t σ H R := fun t ht hh => by
        cases kd <;> exact ht _ hh
      refine body _ (fun Q hQ => hQ) (rE_to rl er e1 fun μ1 H1 v rl1 s1 er1 v1 => ?_)
      obtain ⟨a, u, rfl, hm, hH, br⟩ := cell_at rl1 v1 hn
      obtain ⟨a', u', ea, hr, hu, uq⟩ := dtD_U rl1 v1 e2
      cases ea
      have huu : u' = u := by
        rcases hr with hr | ⟨o, hr⟩
        · rw [hH] at hr; cases hr; rfl
        · rw [hH] at hr; cases hr; cases br
      subst huu
      refine ⟨a, u', rfl, hH, by cases u' <;> first | exact True.intro | exact hu.elim, fun od => ?_⟩
      have hb : b.isD = true := by cases br <;> first | rfl | exact hu.elim
      obtain ⟨q1, q2, q3, q4⟩ := rl1.put hn (fun z => nomatch z) hm (nd := .lk b) (o := .frz od u') (.inr ⟨b, u', rfl, .inr ⟨hb, od, rfl⟩, br⟩)
      have hl : (h1.set n (.lk b))[n]? = some (.lk b) := List.getElem?_set_self (List.getElem?_eq_some_iff.mp hn).1
      have sp : Sp μ1 h1 H1 μ1 (h1.set n (.lk b)) (upd H1 a (.frz od u')) := ⟨List.prefix_refl _, q2, q3, fun m c y z1 z2 => q4 m c y (fun z => by subst z; rw [hn] at z1; cases z1) z1 z2⟩
      have hd : dtD (h1.set n (.lk b)) (.ref n) = some dq := (dtD_lk (rd_lv hn) (rd_lk hl)).trans e2
      refine dict_walk q1 (v1.on rl1 sp) hd upd_same (uq.on fun v y z => z.on rl1 sp) e3 (fun P' μ2 h2 H2 rl2 s2 => ?_) (fun J it => q μ1 _ J q1 (s1.trans sp) it un1_none) _ σ fun Q z => z
      obtain ⟨y1, y2⟩ := s2.lk n b a hl hm
      exact ⟨y2.trans upd_same, (dtD_lk (rd_lk hl) (rd_lk y1)).trans hd⟩
    · cases e
  · cases e
end
end Fh
namespace Fh
open PySem PySem.Spec PyProof.Rows L2 RZ
open Fd (Dv Rep Reps SqF same_new OpD CallD UnD MtD TyD PE_or PT_or PS_or Cal TqT kD pyD)
variable {P : Addr → Prop}
section
variable {X : Cx} {K : PySem.W.Frag} {a b c e tg : Expr} {es : List Expr} {pos : Pos} {ma mb mc me : ME} {ta tb : MT} {mr : MA}
def pts_weak {es : List Expr} {t t' : TT} (h : PTs X es t) (w : ∀ σ H Q, t' σ H Q → t σ H Q) : PTs X es t' := ⟨fun pins s σ H Q I q => h.run pins s σ H Q I (w σ H Q q)⟩
theorem pts_yes : PTs X [] (rT X.K tYesM) := pts_weak pts_nil fun σ H Q h => tYes_ok h
abbrev subD : Dv → Dv → Option Dv := Fd.intOp fun i j => .int (i - j)
abbrev mulA : Dv → Dv → Option Dv := Fd.mulD
theorem op_mulA : OpR X (binaryOp .Mult) (L2.rI CMulW fun i j => .int (i * j)) := op_mulW
theorem opD_mulA : OpD K (L2.rI CMulW fun i j => .int (i * j)) true mulA := Fd.opD_mulW
abbrev leA : Dv → Dv → Option Dv := Fd.intOp fun i j => .bl (decide (i ≤ j))
abbrev gtA : Dv → Dv → Option Dv := Fd.intOp fun i j => .bl (decide (j < i))
abbrev geA : Dv → Dv → Option Dv := Fd.intOp fun i j => .bl (decide (j ≤ i))
theorem op_leA (hu : X.A.units + 64 < cLine) : OpR X (compareOp .LtE) (rI0 fun i j => .bl (decide (i ≤ j))) := op_le
theorem op_gtA (hu : X.A.units + 64 < cLine) : OpR X (compareOp .Gt) (rI0 fun i j => .bl (decide (j < i))) := op_gt
theorem op_geA (hu : X.A.units + 64 < cLine) : OpR X (compareOp .GtE) (rI0 fun i j => .bl (decide (j ≤ i))) := op_ge
theorem opD_leA : OpD K (rI0 fun i j => .bl (decide (i ≤ j))) true leA := Fd.opD_le
theorem opD_gtA : OpD K (rI0 fun i j => .bl (decide (j < i))) true gtA := Fd.opD_gt
theorem opD_geA : OpD K (rI0 fun i j => .bl (decide (j ≤ i))) true geA := Fd.opD_ge
def vUpper (m : ME) : ME := fun env h => (m env h).bind fun (x, h1) => (strA x).bind fun z => if z.length ≤ 5592405 then some (.d (.str (Txt.upper z)), h1) else none
theorem he_upper (p : PE X e (tM0 (fun x xs H Q => ∃ a, x = .str a ∧ xs = [] ∧ a.length ≤ 5592405 ∧ Q (.str (Txt.upper a)) H) (rE X.K ma))) : HE X e (vUpper ma) := pe_weak p fun σ H Q ⟨P, μ, env, h, z, h', rl, er, e, q⟩ => by
  obtain ⟨⟨x, h1⟩, e1, e⟩ := bs e
  obtain ⟨zz, e2, e⟩ := bs e
  obtain ⟨c, e⟩ := ifs e
  cases e
  refine rE_to rl er e1 fun μ1 H1 v rl1 s1 er1 v1 => ?_
  have := strA_rv v1 e2
  subst this
  exact ⟨⟨zz, rfl⟩, zz, rfl, rfl, c, q μ1 H1 _ rl1 s1 (.d (.str _) fun a m => (nomatch m))⟩
def gExtend (xs ys : List Av) (h : AH) : Option (List Av × Av) := match ys with
  | [y] => (itF y).bind fun zs => if xs.length + zs.length ≤ sizeLine then some (xs ++ zs, .d .non) else none
  | _ => none
/-- x.pop(k): of a list, of a dict -/
def vPop1 (md mk : ME) : ME := fun env h => match md env h with
  | some (d, h1) => match lstM d h1 with
    | some _ => vMt gPopAt md (aCons mk aNil) env h
    | none => vDPop1 md mk env h
  | none => none
theorem he_pop1 (p1 : PE X e (tDPop1 (rE X.K ma) (rE X.K mb))) (p2 : PE X e (tBM X.K "list" rPopAt (rE X.K ma) (rA X.K (aCons mb aNil)))) : HE X e (vPop1 ma mb) := pe_weak (PE_or p1 p2) fun σ H Q ⟨P, μ, env, h, z, h', rl, er, e, q⟩ => by
  unfold vPop1 at e
  split at e
  · split at e
    · exact .inr (mt_ok mtH_popAt ⟨P, μ, env, h, z, h', rl, er, e, q⟩)
    · exact .inl (dPop1_ok ⟨P, μ, env, h, z, h', rl, er, e, q⟩)
  · cases e
/-! a, b = x, y -/
def sPar (i j : Nat) (mr : MA) : MS := fun env h => (mr env h).bind fun (xs, h1) => match xs with
  | [x, y] => some (.nx ((env.set i (some x)).set j (some y)), h1)
  | _ => none
def sPar3 (i j l : Nat) (mr : MA) : MS := fun env h => (mr env h).bind fun (xs, h1) => match xs with
  | [x, y, z] => some (.nx (((env.set i (some x)).set j (some y)).set l (some z)), h1)
  | _ => none
theorem hs_par {i j : Nat} {s : Stmt} (p : PS X s (tPar i j (rA X.K mr))) : HS X s (sPar i j mr) := ps_weak p fun D σ H ⟨P, μ, env, h, o, h', rl, er, e, q⟩ => by
  obtain ⟨⟨xs, h1⟩, e1, e⟩ := bs e
  refine rA_to rl er e1 fun μ1 H1 vs rl1 s1 er1 v1 => ?_
  dsimp only at e
  split at e
  · rename_i x y
    cases e
    cases v1 with
    | cons r1 r2 => cases r2 with
      | cons r2 r3 =>
        cases r3
        exact ⟨_, _, rfl, q μ1 H1 rl1 s1 _ ((er1.set r1).set r2)⟩
  · cases e
theorem hs_par3 {i j l : Nat} {s : Stmt} (p : PS X s (tPar3 i j l (rA X.K mr))) : HS X s (sPar3 i j l mr) := ps_weak p fun D σ H ⟨P, μ, env, h, o, h', rl, er, e, q⟩ => by
  obtain ⟨⟨xs, h1⟩, e1, e⟩ := bs e
  refine rA_to rl er e1 fun μ1 H1 vs rl1 s1 er1 v1 => ?_
  dsimp only at e
  split at e
  · rename_i x y z
    cases e
    cases v1 with
    | cons r1 r2 => cases r2 with
      | cons r2 r3 => cases r3 with
        | cons r3 r4 =>
          cases r4
          exact ⟨_, _, _, rfl, q μ1 H1 rl1 s1 _ (((er1.set r1).set r2).set r3)⟩
  · cases e
abbrev maxI (i j : Int) : Int := if j > i then j else i
abbrev minI (i j : Int) : Int := if j < i then j else i
/-! ### the law's own promise -/
theorem law_spI {F : FI} {H : Hp} {a : Addr} {ns : List Int} {E : XK} (hO : Only H) (hS : SqL K H a (ns.map V.int)) (h : ∃ h', F [.d (.frl ns)] [] = some (.d (.bl true), h')) : spI K 1 F [.ref a] H (fun v _ => v = .bl true) E := by
  have hF : SqF K H a (ns.map V.int) := by
    rcases hS with (h | ⟨o, h⟩) | h
    · rcases hO a with z | ⟨o, xs, z⟩ <;> (rw [h] at z; cases z)
    · exact .inl ⟨o, h⟩
    · exact .inr h
  obtain ⟨h', e⟩ := h
  refine ⟨fun _ => False, [], [], [.d (.frl ns)], _, h', rfl, .nil, .cons (.d (.frl hF) fun a m => (nomatch m)) .nil, e, fun μ' H' v rl s r => ?_⟩
  cases r with
  | d r n => cases r; rfl
end
end Fh
namespace Fh
open PySem PySem.Spec PyProof.Rows L2 RZ
open Fd (Dv Rep Reps kD gK pK pyD eqA ltA hnl lackD Mk StD stD stLt)
/-! ### reckoning -/
theorem gV_map {κ : Type} [DecidableEq κ] {l : List (κ × Dv)} {k : κ} : gV (l.map fun p => (p.1, Av.d p.2)) k = (gV l k).map .d := by
  induction l with
  | nil => rfl
  | cons p l ih =>
    by_cases c : p.1 = k
    · rw [List.map_cons, gV_pos (by exact c), gV_pos c]; rfl
    · rw [List.map_cons, gV_neg (by exact c), gV_neg c, ih]
theorem gV_gK {l : List (Key × Dv)} {k : Key} : gV l k = gK l k := rfl
theorem keyD_kD {k : Key} : keyD (kD k) = some k := by cases k <;> rfl
theorem keyA_kD {k : Key} : keyA (.d (kD k)) = some k := keyD_kD
theorem keyA_str {x : Str} : keyA (.d (.str x)) = some (.inr x) := rfl
theorem keyA_int {x : Int} : keyA (.d (.int x)) = some (.inl x) := rfl
theorem dtD_dct {h : AH} {l : List (Key × Dv)} : dtD h (.d (.dct l)) = some (.K (l.map fun p => (p.1, .d p.2))) := rfl
theorem dtD_dctT {h : AH} {l : List (List Key × Dv)} : dtD h (.d (.dctT l)) = some (.T (l.map fun p => (p.1, .d p.2))) := rfl
theorem getA_kD {h : AH} {l : List (Key × Dv)} {k : Key} : getA h (.d (.dct l)) (.d (kD k)) = some ((gK l k).map .d) := by
  show (keyA (.d (kD k))).map _ = _
  rw [keyA_kD]
  show some (gV _ k) = _
  rw [gV_map]; rfl
theorem getA_str {h : AH} {l : List (Key × Dv)} {x : Str} : getA h (.d (.dct l)) (.d (.str x)) = some ((gK l (.inr x)).map .d) := getA_kD (k := .inr x)
theorem itX_dct {h : AH} {l : List (Key × Dv)} : itX h (.d (.dct l)) = none := rfl
theorem ixA_dct {h : AH} {l : List (Key × Dv)} {k : Key} : ixA h (.d (.dct l)) (.d (kD k)) = (gK l k).map .d := by
  show (getA h (.d (.dct l)) (.d (kD k))).bind id = _
  rw [getA_kD]; rfl
theorem ixA_dctS {h : AH} {l : List (Key × Dv)} {x : Str} : ixA h (.d (.dct l)) (.d (.str x)) = (gK l (.inr x)).map .d := ixA_dct (k := .inr x)
theorem opM_d {nw : Bool} {f : Dv → Dv → Option Dv} {x y : Dv} {h : AH} : opM nw f (.d x) (.d y) h = (f x y).bind fun d => if (d.pur || (nw && d.sh)) = true then some (.d d, h) else none := by
  unfold opM; rw [snap_d, snap_d]; rfl
/-- a comparison's answer -/
theorem opM_bl {nw : Bool} {f : Dv → Dv → Option Dv} {x y : Dv} {h : AH} {b : Bool} (e : f x y = some (.bl b)) : opM nw f (.d x) (.d y) h = some (.d (.bl b), h) := by
  rw [opM_d, e]; rfl
theorem opM_int {nw : Bool} {f : Dv → Dv → Option Dv} {x y : Dv} {h : AH} {b : Int} (e : f x y = some (.int b)) : opM nw f (.d x) (.d y) h = some (.d (.int b), h) := by
  rw [opM_d, e]; rfl
theorem opM_str {nw : Bool} {f : Dv → Dv → Option Dv} {x y : Dv} {h : AH} {b : Str} (e : f x y = some (.str b)) : opM nw f (.d x) (.d y) h = some (.d (.str b), h) := by
  rw [opM_d, e]; rfl
theorem mkT_d1 {x : Dv} : mkT [.d x] = .d (.tup [x]) := rfl
theorem mkT_d2 {x y : Dv} : mkT [.d x, .d y] = .d (.tup [x, y]) := rfl
theorem mkT_d3 {x y z : Dv} : mkT [.d x, .d y, .d z] = .d (.tup [x, y, z]) := rfl
theorem mkT_d4 {x y z w : Dv} : mkT [.d x, .d y, .d z, .d w] = .d (.tup [x, y, z, w]) := rfl
theorem allD_map {ds : List Dv} : allD (ds.map .d) = some ds := by
  induction ds with
  | nil => rfl
  | cons d ds ih => show (allD (ds.map .d)).map _ = _; rw [ih]; rfl
theorem mkL_map {ds : List Dv} : mkL (ds.map .d) = .d (.lst ds) := by unfold mkL; rw [allD_map]
theorem mkT_map {ds : List Dv} : mkT (ds.map .d) = .d (.tup ds) := by unfold mkT; rw [allD_map]
theorem snaps_map {k : Nat} {h : AH} : ∀ {ds : List Dv}, mapO (snap k h) (ds.map .d) = some ds
  | [] => rfl
  | d :: ds => by
    rw [List.map_cons, mapO, snap_d, snaps_map]; rfl
theorem snaps_0 {k : Nat} {h : AH} : mapO (snap k h) [] = some [] := rfl
theorem snaps_d {k : Nat} {h : AH} {d : Dv} {xs : List Av} : mapO (snap k h) (.d d :: xs) = (mapO (snap k h) xs).map (d :: ·) := by
  rw [mapO, snap_d]
/-- a comprehension whose turns change nothing, over trees -/
theorem runLc_pure {env : Env} {g : MG} {t : MT} {m : ME} {h : AH} {c : Av → Bool} {f : Av → Av} : ∀ {xs : List Av}, (∀ x ∈ xs, ∃ e1, g x env h = some (e1, h) ∧ t e1 h = some (c x, h) ∧ (c x = true → m e1 h = some (f x, h))) → runLc env g t m xs h = some ((xs.filter c).map f, h)
  | [], _ => rfl
  | x :: xs, hx => by
    obtain ⟨e1, h1, h2, h3⟩ := hx x List.mem_cons_self
    have ih := runLc_pure (xs := xs) fun y hy => hx y (List.mem_cons_of_mem _ hy)
    unfold runLc
    rw [h1]; show (t e1 h).bind _ = _
    rw [h2]
    cases hc : c x with
    | false =>
      rw [List.filter_cons_of_neg (by rw [hc]; decide)]
      exact ih
    | true =>
      rw [List.filter_cons_of_pos hc]
      show (m e1 h).bind _ = _
      rw [h3 hc]
      show (runLc env g t m xs h).bind _ = _
      rw [ih]; rfl
/-- a loop by its invariant: I i env h behind i turns -/
theorem runFor_inv {g : MG} {body : MS} {xs : List Av} {I : Nat → Env → AH → Prop} (turn : ∀ i x env h, xs[i]? = some x → I i env h → ∃ e1 h1, g x env h = some (e1, h1) ∧ ∃ o h2, body e1 h1 = some (o, h2) ∧ ((∃ e2, o = .nx e2 ∨ o = .ct e2) ∧ ∀ e2, o = .nx e2 ∨ o = .ct e2 → I (i + 1) e2 h2)) {env : Env} {h : AH} (i0 : I 0 env h) :
    ∃ e' h', runFor g body xs env h = some (.nx e', h') ∧ I xs.length e' h' := by
  have gen : ∀ (n i : Nat) (env : Env) (h : AH), xs.length - i = n → i ≤ xs.length → I i env h → ∃ e' h', runFor g body (xs.drop i) env h = some (.nx e', h') ∧ I xs.length e' h' := by
    intro n
    induction n with
    | zero =>
      intro i env h hn hi ii
      have : i = xs.length := by omega
      subst this
      rw [List.drop_length]
      exact ⟨env, h, rfl, ii⟩
    | succ n ih =>
      intro i env h hn hi ii
      have hlt : i < xs.length := by omega
      rw [List.drop_eq_getElem_cons hlt]
      obtain ⟨e1, h1, k1, o, h2, k2, ⟨e2, k3⟩, k4⟩ := turn i xs[i] env h (List.getElem?_eq_getElem hlt) ii
      unfold runFor
      rw [k1]; show ∃ e' h', (body e1 h1).bind _ = _ ∧ _
      rw [k2]
      have ii2 := k4 e2 k3
      rcases k3 with k3 | k3 <;> subst k3 <;> exact ih (i + 1) e2 h2 (by omega) hlt ii2
  exact gen _ 0 env h rfl (Nat.zero_le _) i0
end Fh
namespace Fh
open PySem PySem.Spec PyProof.Rows L2 RZ
open Fd (Dv Rep Reps kD gK pK pyD eqA ltA hnl lackD Mk StD stD stLt)
/-! ### drawn numbers: the row of digits at a cell -/
structure LfS where
  a : Int
  s : Int
  c : Int
def LfS.ok (z : LfS) : Prop := 0 ≤ z.s ∧ z.s < 2147483648 ∧ 0 ≤ z.c ∧ z.c < 2 ^ 60
def LfS.bd (z : LfS) : Bd := .lst [.d (.int z.a), .d (.int z.s), .d (.int z.c)]
/-- the cell n holds such; c: at most so many numbers taken -/
def Lh (n : Nat) (k : Nat) (h : AH) : Prop := ∃ z : LfS, h[n]? = some (.lv z.bd) ∧ 0 ≤ z.s ∧ z.s < 2147483648 ∧ 0 ≤ z.c ∧ z.c ≤ k
/-- from h to h': all but the cell n stands -/
structure Ex (n : Nat) (h h' : AH) : Prop where
  kp : ∀ (i : Nat) (nd : Nd), i ≠ n → h[i]? = some nd → h'[i]? = some nd
theorem Ex.refl {n : Nat} {h : AH} : Ex n h h := ⟨fun _ _ _ e => e⟩
theorem Ex.trans {n : Nat} {h h1 h2 : AH} (a : Ex n h h1) (b : Ex n h1 h2) : Ex n h h2 := ⟨fun i nd z e => b.kp i nd z (a.kp i nd z e)⟩
theorem Ex.set {n : Nat} {h : AH} {nd : Nd} : Ex n h (h.set n nd) := ⟨fun i _ z e => by rw [List.getElem?_set_ne (Ne.symm z)]; exact e⟩
theorem Ex.app {n : Nat} {h t : AH} : Ex n h (h ++ t) := ⟨fun i _ z e => by rw [List.getElem?_append_left (List.getElem?_eq_some_iff.mp e).1]; exact e⟩
theorem set_get {h : AH} {n : Nat} {nd nd' : Nd} (e : h[n]? = some nd) : (h.set n nd')[n]? = some nd' := List.getElem?_set_self (List.getElem?_eq_some_iff.mp e).1
theorem Lh.of {n k : Nat} {h : AH} {z : LfS} (e : h[n]? = some (.lv z.bd)) (h1 : 0 ≤ z.s) (h2 : z.s < 2147483648) (h3 : 0 ≤ z.c) (h4 : z.c ≤ k) : Lh n k h := ⟨z, e, h1, h2, h3, h4⟩
theorem Lh.mono {n k j : Nat} {h : AH} (l : Lh n k h) (hk : k ≤ j) : Lh n j h := let ⟨z, e, h1, h2, h3, h4⟩ := l; ⟨z, e, h1, h2, h3, by omega⟩
theorem Lh.app {n k : Nat} {h t : AH} (l : Lh n k h) : Lh n k (h ++ t) := let ⟨z, e, r⟩ := l; ⟨z, by rw [List.getElem?_append_left (List.getElem?_eq_some_iff.mp e).1]; exact e, r⟩
theorem app_new {h : AH} {nd : Nd} : (h ++ [nd])[h.length]? = some nd := by rw [List.getElem?_append_right (Nat.le_refl _), Nat.sub_self]; rfl
theorem rd_at {h : AH} {n : Nat} {b : Bd} (e : h[n]? = some (.lv b)) : rd h n = some b := rd_lv e
theorem itL_at {h : AH} {n : Nat} {xs : List Av} (e : h[n]? = some (.lv (.lst xs))) : itL h (.ref n) = some xs := by unfold itL; simp only [rd_at e]
theorem itX_at {h : AH} {n : Nat} {xs : List Av} (e : h[n]? = some (.lv (.lst xs))) : itX h (.ref n) = some xs := by unfold itX; simp only [itT]; exact itL_at e
theorem ixA_at {h : AH} {n : Nat} {xs : List Av} {i : Int} (e : h[n]? = some (.lv (.lst xs))) : ixA h (.ref n) (.d (.int i)) = atI xs i := by unfold ixA; simp only [itX_at e, intA]; rfl
theorem putA_at {h : AH} {n : Nat} {xs : List Av} {i : Int} {j : Nat} {v : Av} (e : h[n]? = some (.lv (.lst xs))) (hj : ixN xs.length i = some j) : putA (.ref n) (.d (.int i)) v h = some (h.set n (.lv (.lst (xs.set j v)))) := by
  unfold putA; simp only [e, hj]; rfl
theorem lstM_at {h : AH} {n : Nat} {xs : List Av} (e : h[n]? = some (.lv (.lst xs))) : lstM (.ref n) h = some (n, xs) := by unfold lstM; simp only [e]
theorem dtD_at {h : AH} {n : Nat} {l : List (Key × Av)} (e : h[n]? = some (.lv (.dK l))) : dtD h (.ref n) = some (.K l) := by unfold dtD; simp only [rd_at e]
theorem zip_map {κ : Type} {l : List (κ × Dv)} : (l.map (·.1)).zip (l.map (·.2)) = l := by
  induction l with
  | nil => rfl
  | cons p l ih => rw [List.map_cons, List.map_cons, List.zip_cons_cons, ih]
theorem snap_ref_dK {h : AH} {n k : Nat} {l : List (Key × Dv)} (e : h[n]? = some (.lv (.dK (l.map fun p => (p.1, .d p.2))))) : snap (k + 1) h (.ref n) = some (.dct l) := by
  unfold snap
  simp only [rd_at e, vals_map, snaps_map, keys_map]
  show some (Dv.dct _) = _
  rw [zip_map]
theorem snap_ref_lst {h : AH} {n k : Nat} {ds : List Dv} (e : h[n]? = some (.lv (.lst (ds.map .d)))) : snap (k + 1) h (.ref n) = some (.lst ds) := by
  unfold snap
  simp only [rd_at e, snaps_map]; rfl
theorem frzs_map {k : Nat} {h : AH} : ∀ {ds : List Dv}, Dv.purs ds = true → mapO (frz k h) (ds.map .d) = some ds
  | [], _ => rfl
  | d :: ds, p => by
    have q : d.pur = true ∧ Dv.purs ds = true := Bool.and_eq_true_iff.mp p
    rw [List.map_cons, mapO, frz_d, if_pos q.1, frzs_map q.2]; rfl
theorem frz_ref_dK {h : AH} {n k : Nat} {l : List (Key × Dv)} (e : h[n]? = some (.lv (.dK (l.map fun p => (p.1, .d p.2))))) (p : Dv.purs (l.map (·.2)) = true) : frz (k + 1) h (.ref n) = some (.dct l) := by
  unfold frz
  simp only [rdl, e, vals_map, frzs_map p, keys_map]
  show some (Dv.dct _) = _
  rw [zip_map]
theorem frz_ref_lst {h : AH} {n k : Nat} {ds : List Dv} (e : h[n]? = some (.lv (.lst (ds.map .d)))) (p : Dv.purs ds = true) : frz (k + 1) h (.ref n) = some (.lst ds) := by
  unfold frz
  simp only [rdl, e, frzs_map p]; rfl
theorem frz_pur {h : AH} {k : Nat} {d : Dv} (p : d.pur = true) : frz k h (.d d) = some d := by rw [frz_d, if_pos p]
theorem pV_map {κ : Type} [DecidableEq κ] {l : List (κ × Dv)} {k : κ} {d : Dv} : pV (l.map fun p => (p.1, Av.d p.2)) k (.d d) = (pV l k d).map fun p => (p.1, .d p.2) := by
  unfold pV
  rw [List.any_map]
  by_cases c : (l.any fun p => decide (p.1 = k)) = true
  · rw [if_pos c, if_pos (by exact c), List.map_map, List.map_map]
    congr 1
    funext p
    show (if p.1 = k then _ else _) = _
    by_cases z : p.1 = k
    · rw [if_pos z]; show _ = ((if p.1 = k then (p.1, d) else p).1, Av.d (if p.1 = k then (p.1, d) else p).2); rw [if_pos z]
    · rw [if_neg z]; show _ = ((if p.1 = k then (p.1, d) else p).1, Av.d (if p.1 = k then (p.1, d) else p).2); rw [if_neg z]
  · rw [if_neg c, if_neg (by exact c), List.map_append]; rfl
theorem pV_pK {l : List (Key × Dv)} {k : Key} {d : Dv} : pV l k d = pK l k d := rfl
theorem runLc_pairs {env : Env} {a b : Nat} {t : MT} {me : ME} {h : AH} {m : List (Key × Dv)} (c : Key × Dv → Bool) (f : Key × Dv → Dv)
    (hx : ∀ p ∈ m, t ((env.set a (some (.d (kD p.1)))).set b (some (.d p.2))) h = some (c p, h) ∧ (c p = true → me ((env.set a (some (.d (kD p.1)))).set b (some (.d p.2))) h = some (.d (f p), h))) :
    runLc env (gTp 2 (gCs (gNm a) (gCs (gNm b) gNl))) t me (List.map (fun p => mkT [Av.d (kD p.fst), p.snd]) (List.map (fun p => (p.fst, Av.d p.snd)) m)) h = some (((m.filter c).map f).map .d, h) := by
  induction m with
  | nil => rfl
  | cons p m ih =>
    obtain ⟨h1, h2⟩ := hx p List.mem_cons_self
    have ih := ih fun q hq => hx q (List.mem_cons_of_mem _ hq)
    rw [List.map_cons, List.map_cons]
    unfold runLc
    have e0 : gTp 2 (gCs (gNm a) (gCs (gNm b) gNl)) (mkT [Av.d (kD p.1), Av.d p.2]) env h = some ((env.set a (some (.d (kD p.1)))).set b (some (.d p.2)), h) := rfl
    rw [e0]
    show (t _ h).bind _ = _
    rw [h1]
    cases hc : c p with
    | false =>
      rw [List.filter_cons_of_neg (by rw [hc]; decide)]
      exact ih
    | true =>
      rw [List.filter_cons_of_pos hc]
      show (me _ h).bind _ = _
      rw [h2 hc]
      show (runLc _ _ _ _ _ h).bind _ = _
      rw [ih]; rfl
theorem filter_true {α : Type} {l : List α} : l.filter (fun _ => true) = l := by
  induction l with
  | nil => rfl
  | cons a l ih => rw [List.filter_cons_of_pos rfl, ih]
/-- truths of all, of any -/
theorem blsD_map {α : Type} {f : α → Bool} {l : List α} : Fd.blsD (l.map fun x => .bl (f x)) = some (l.map f) := by
  induction l with
  | nil => rfl
  | cons a l ih => rw [List.map_cons, List.map_cons]; unfold Fd.blsD; rw [ih]; rfl
theorem quant_all {α : Type} {f : α → Bool} {l : List α} : Fd.quantD (fun bs => bs.all id) [.lst (l.map fun x => .bl (f x))] = some (.bl (l.all f)) := by
  unfold Fd.quantD; simp only [blsD_map, Option.map_some, List.all_map]; rfl
theorem quant_any {α : Type} {f : α → Bool} {l : List α} : Fd.quantD (fun bs => bs.any id) [.lst (l.map fun x => .bl (f x))] = some (.bl (l.any f)) := by
  unfold Fd.quantD; simp only [blsD_map, Option.map_some, List.any_map]; rfl
theorem le_sz {n : Nat} (h : n ≤ 100000) : n ≤ sizeLine := Nat.le_trans h (by decide)
theorem mapMap {α β γ : Type} {f : α → β} {g : β → γ} {l : List α} : (l.map f).map g = l.map fun x => g (f x) := List.map_map
/-! dict(pairs) -/
theorem pairs_of_pairs : ∀ l : List (Key × Dv), Fd.pairsOf (l.map fun p => .tup [kD p.1, p.2]) = some l
  | [] => rfl
  | p :: l => by
    rw [List.map_cons]
    unfold Fd.pairsOf
    rw [Fd.dK_kD, pairs_of_pairs l]
theorem dict_pairs {l : List (Key × Dv)} (hp : Dv.purs (l.map (·.2)) = true) (nd : (l.map (·.1)).Nodup) : Fd.dictD [.lst (l.map fun p => .tup [kD p.1, p.2])] = some (.dct l) := by
  rw [Fd.dictD_lst (pairs_of_pairs l) hp, Fd.merge_new (l := []) nd, List.nil_append]
theorem thaw_dct {l : List (Key × Dv)} {h : AH} (hp : Dv.purs (l.map (·.2)) = true) : thaw (.dct l) h = some (.ref h.length, h ++ [.lv (.dK (l.map fun p => (p.1, .d p.2)))]) := by
  unfold thaw; simp only [hp, if_true]
theorem thaw_lst {l : List Dv} {h : AH} (hp : Dv.purs l = true) : thaw (.lst l) h = some (.ref h.length, h ++ [.lv (.lst (l.map .d))]) := by
  unfold thaw; simp only [hp, if_true]
theorem cbT_dct {f : FP} {xs : List Av} {ds : List Dv} {h : AH} {l : List (Key × Dv)} (hs : mapO (snap 8 h) xs = some ds) (e : f ds = some (.dct l)) (hp : Dv.purs (l.map (·.2)) = true) : cbT f xs h = some (.ref h.length, h ++ [.lv (.dK (l.map fun p => (p.1, .d p.2)))]) := by
  unfold cbT; simp only [hs, Option.bind_some, e]
  rw [if_pos (show (Dv.dct l).sh = true from hp), thaw_dct hp]
theorem cbT_lst {f : FP} {xs : List Av} {ds : List Dv} {h : AH} {l : List Dv} (hs : mapO (snap 8 h) xs = some ds) (e : f ds = some (.lst l)) (hp : Dv.purs l = true) : cbT f xs h = some (.ref h.length, h ++ [.lv (.lst (l.map .d))]) := by
  unfold cbT; simp only [hs, Option.bind_some, e]
  rw [if_pos (show (Dv.lst l).sh = true from hp), thaw_lst hp]
theorem snaps_1 {k : Nat} {h : AH} {d : Dv} : mapO (snap k h) [.d d] = some [d] := by rw [mapO, snap_d]; rfl
theorem frz_new_dK {h : AH} {k : Nat} {l : List (Key × Dv)} (p : Dv.purs (l.map (·.2)) = true) : frz (k + 1) (h ++ [.lv (.dK (l.map fun p => (p.1, .d p.2)))]) (.ref h.length) = some (.dct l) := frz_ref_dK app_new p
theorem frz_new_lst {h : AH} {k : Nat} {l : List Dv} (p : Dv.purs l = true) : frz (k + 1) (h ++ [.lv (.lst (l.map .d))]) (.ref h.length) = some (.lst l) := frz_ref_lst app_new p
/-! ### numbers -/
theorem r_add {a b : Int} : Fd.addD (.int a) (.int b) = some (.int (a + b)) := rfl
theorem r_addS {a b : Str} (h : a.length + b.length ≤ sizeLine) : Fd.addD (.str a) (.str b) = some (.str (a ++ b)) := Fd.addD_str h
theorem r_sub {a b : Int} : subD (.int a) (.int b) = some (.int (a - b)) := rfl
theorem r_mod {a b : Int} (h : 0 < b) : Fd.modD (.int a) (.int b) = some (.int (a % b)) := Fd.intOpC_ok h
theorem r_mul {a b : Int} (h : CMulW a b) : mulA (.int a) (.int b) = some (.int (a * b)) := Fd.intOpC_ok h
theorem r_div {a b : Int} (h : CDivW a b) : Fd.fdivD (.int a) (.int b) = some (.int (a / b)) := Fd.intOpC_ok h
theorem r_pow {a b : Int} (h : CPow a b) : Fd.powD (.int a) (.int b) = some (.int (a ^ b.toNat)) := Fd.intOpC_ok h
theorem r_lt {a b : Int} : ltA (.int a) (.int b) = some (.bl (decide (a < b))) := rfl
theorem r_le {a b : Int} : leA (.int a) (.int b) = some (.bl (decide (a ≤ b))) := rfl
theorem r_gt {a b : Int} : gtA (.int a) (.int b) = some (.bl (decide (b < a))) := rfl
theorem r_ge {a b : Int} : geA (.int a) (.int b) = some (.bl (decide (b ≤ a))) := rfl
theorem r_eq {a b : Int} : eqA false (.int a) (.int b) = some (.bl (decide (a = b))) := Fd.eqA_of Fd.eqF_int
theorem r_ne {a b : Int} : eqA true (.int a) (.int b) = some (.bl (!decide (a = b))) := Fd.eqA_of Fd.eqT_int
theorem r_eq_bl {a b : Bool} : eqA false (.bl a) (.bl b) = some (.bl (decide (a = b))) := Fd.eqA_of Fd.eqF_bl
theorem r_ne_bl {a b : Bool} : eqA true (.bl a) (.bl b) = some (.bl (!decide (a = b))) := Fd.eqA_of Fd.eqT_bl
theorem r_is_bl {a b : Bool} : Fd.isD false (.bl a) (.bl b) = some (.bl (decide (a = b))) := rfl
theorem r_isnt_bl {a b : Bool} : Fd.isD true (.bl a) (.bl b) = some (.bl (!decide (a = b))) := rfl
theorem r_max {a b : Int} : Fd.minmaxD maxI [.int a, .int b] = some (.int (if b > a then b else a)) := rfl
theorem r_min {a b : Int} : Fd.minmaxD minI [.int a, .int b] = some (.int (if b < a then b else a)) := rfl
theorem r_int_bl {b : Bool} : Fd.intD [.bl b] = some (.int (if b then 1 else 0)) := rfl
theorem r_len_frl {ns : List Int} : Fd.lenD [.frl ns] = some (.int ns.length) := rfl
theorem r_len_lst {ns : List Dv} : Fd.lenD [.lst ns] = some (.int ns.length) := rfl
theorem r_len_tup {ns : List Dv} : Fd.lenD [.tup ns] = some (.int ns.length) := rfl
theorem r_pur_int {a : Int} : (Dv.int a).pur = true := rfl
theorem r_pur_bl {a : Bool} : (Dv.bl a).pur = true := rfl
theorem r_pur_str {a : Str} : (Dv.str a).pur = true := rfl
theorem r_pur_non : Dv.non.pur = true := rfl
theorem ixN_nat {n j : Nat} (hj : j < n) : ixN n (j : Int) = some j := by
  unfold ixN
  rw [if_pos (by omega), if_pos (by omega)]
  simp
theorem atI_nat {α : Type} {xs : List α} {j : Nat} (hj : j < xs.length) : atI xs (j : Int) = some xs[j] := by
  unfold atI; rw [ixN_nat hj]; exact List.getElem?_eq_getElem hj
theorem lf_big (b : Int) (h : b = 10 ^ (60 : Int).toNat * 10 ^ (60 : Int).toNat * 10 ^ (60 : Int).toNat * 10 ^ (60 : Int).toNat * 10 ^ (60 : Int).toNat * 10 ^ (60 : Int).toNat) (x : Int) : 0 < b ∧ (x % b).natAbs < 2 ^ 2000 := by
  have h1 : b = 10 ^ 360 := by rw [h]; decide +kernel
  have h2 : (0 : Int) < b := by rw [h1]; decide +kernel
  have h3 := Int.emod_nonneg x (Int.ne_of_gt h2)
  have h4 := Int.emod_lt_of_pos x h2
  have h5 : (10 : Int) ^ 360 < 2 ^ 2000 := by decide +kernel
  exact ⟨h2, by omega⟩
theorem opT_d {f : Dv → Dv → Option Dv} {x y : Dv} {h : AH} : opT f (.d x) (.d y) h = (f x y).bind fun d => if d.sh = true then thaw d h else none := by
  unfold opT; rw [snap_d, snap_d]; rfl
theorem thaw_int {a : Int} {h : AH} : thaw (.int a) h = some (.d (.int a), h) := rfl
theorem thaw_str {a : Str} {h : AH} : thaw (.str a) h = some (.d (.str a), h) := rfl
theorem thaw_bl {a : Bool} {h : AH} : thaw (.bl a) h = some (.d (.bl a), h) := rfl
theorem thaw_non {h : AH} : thaw .non h = some (.d .non, h) := rfl
theorem thaw_tup {a : List Dv} {h : AH} : thaw (.tup a) h = some (.d (.tup a), h) := rfl
theorem sh_int {a : Int} : (Dv.int a).sh = true := rfl
theorem sh_str {a : Str} : (Dv.str a).sh = true := rfl
theorem sh_bl {a : Bool} : (Dv.bl a).sh = true := rfl
end Fh
namespace Fh
open PySem PySem.Spec PyProof.Rows L2 RZ
open PySem.SeqAt
open Fd (Dv Rep Reps kD gK pK pyD eqA ltA hnl lackD Mk StD stD stLt plD okB OpD rEqA)
/-! ### == of lists, tuples, dicts at any depth: where it is true -/
def eqYs (f : Dv → Dv → Bool) : List Dv → List Dv → Bool
  | [], [] => true
  | x :: xs, y :: ys => f x y && eqYs f xs ys
  | _, _ => false
def eqYd (f : Dv → Dv → Bool) (l m : List (Key × Dv)) : Bool := (l.length == m.length) && l.all fun p => match gK m p.1 with
  | some e => f p.2 e
  | none => false
def eqZ (f : Dv → Dv → Bool) : Dv → Dv → Bool
  | .dct l, .dct m => eqYd f l m
  | .tup xs, .tup ys => eqYs f xs ys
  | .lst xs, .lst ys => eqYs f xs ys
  | _, _ => false
def eqDt (d e : Dv) : Bool := okB d && okB e && decide ((plD d).depth ≤ 40) && PyData.eqv (plD d) (plD e)
def eqY : Nat → Dv → Dv → Bool
  | 0, _, _ => false
  | n + 1, d, e => eqDt d e || eqZ (eqY n) d e
theorem eqYs_len {f : Dv → Dv → Bool} : ∀ {xs ys : List Dv}, eqYs f xs ys = true → xs.length = ys.length
  | [], [], _ => rfl
  | [], _ :: _, h => by cases h
  | _ :: _, [], h => by cases h
  | x :: xs, y :: ys, h => congrArg (· + 1) (eqYs_len (Bool.and_eq_true_iff.mp h).2)
theorem eqYs_get {f : Dv → Dv → Bool} : ∀ {xs ys : List Dv}, eqYs f xs ys = true → ∀ (j : Nat) (x y : Dv), xs[j]? = some x → ys[j]? = some y → f x y = true
  | [], _, _, j, x, y, e, _ => by simp at e
  | _ :: _, [], h, _, _, _, _, _ => by cases h
  | a :: xs, b :: ys, h, 0, x, y, e1, e2 => by
    simp at e1 e2; subst e1 e2; exact (Bool.and_eq_true_iff.mp h).1
  | a :: xs, b :: ys, h, j + 1, x, y, e1, e2 => eqYs_get (Bool.and_eq_true_iff.mp h).2 j x y (by simpa using e1) (by simpa using e2)
theorem all_true (n : Nat) : (List.range n).all (fun _ => true) = true := List.all_eq_true.mpr fun _ _ => rfl
section
variable {X : Cx} {pins : List (Addr × Obj)} {σ : L2.St} {H : Hp} {s : Shared}
theorem reps_at {K : PySem.W.Frag} {H : Hp} : ∀ {vs : List V} {ds : List Dv} {G : List Addr}, Reps K H vs ds G → ∀ (j : Nat) (v : V), vs[j]? = some v → ∃ d G1, ds[j]? = some d ∧ Rep K H v d G1
  | _, _, _, .nil, j, v, e => by simp at e
  | _, _, _, .cons h t, 0, v, e => by simp at e; subst e; exact ⟨_, _, rfl, h⟩
  | _, _, _, .cons h t, j + 1, v, e => by
    obtain ⟨d, G1, h1, h2⟩ := reps_at t j v (by simpa using e)
    exact ⟨d, G1, by simpa using h1, h2⟩
theorem reps_ln {K : PySem.W.Frag} {H : Hp} : ∀ {vs : List V} {ds : List Dv} {G : List Addr}, Reps K H vs ds G → vs.length = ds.length
  | _, _, _, .nil => rfl
  | _, _, _, .cons h t => congrArg (· + 1) (reps_ln t)
theorem vals_at {xs : List V} {us : List Value} (r : Vals xs us) (j : Nat) (u : Value) (e : us[j]? = some u) : ∃ x, xs[j]? = some x ∧ RelV x u := by
  have hj : j < xs.length := by rw [r.length]; exact (List.getElem?_eq_some_iff.mp e).1
  obtain ⟨u', h1, h2⟩ := Vals.get r (List.getElem?_eq_getElem hj)
  rw [e] at h1
  cases h1
  exact ⟨_, List.getElem?_eq_getElem hj, h2⟩
def EqF (X : Cx) (A : Around) (s : Shared) (H : Hp) (f : Dv → Dv → Bool) : Prop := ∀ (d e : Dv) (x y : V) (u v : Value) (G1 G2 : List Addr), f d e = true → Rep X.K H x d G1 → Rep X.K H y e G2 → RelV x u → RelV y v → EqP X.prog X.w A s u v true
theorem hitsP {A : Around} {f : Dv → Dv → Bool} (ih : EqF X A s H f) {ls : List (Key × V)} {m : List (Key × Dv)} {vb : List (Key × Value)} {Gm : List Addr} (rb : KV ls vb) (em : m.map (·.1) = ls.map (·.1)) (rm : Reps X.K H (ls.map (·.2)) (m.map (·.2)) Gm) :
    ∀ {ks : List (Key × V)} {va : List (Key × Value)} {l : List (Key × Dv)} {G : List Addr}, KV ks va → l.map (·.1) = ks.map (·.1) → Reps X.K H (ks.map (·.2)) (l.map (·.2)) G → (l.all fun p => match gK m p.1 with | some e => f p.2 e | none => false) = true → PySem.W.KeqHitsP X.prog X.w A s vb va true := by
  intro ks va l G ra
  unfold KV at ra
  induction ra generalizing l G with
  | nil => intro _ _ _; exact .nil
  | @cons p q ps qs h t ih2 =>
    intro e r ok
    cases l with
    | nil => cases e
    | cons x l =>
      have e1 : x.1 = p.1 := (List.cons.inj e).1
      have e2 : l.map (·.1) = ps.map (·.1) := (List.cons.inj e).2
      have r' : Reps X.K H (p.2 :: ps.map (·.2)) (x.2 :: l.map (·.2)) G := r
      rw [List.all_cons] at ok
      obtain ⟨ok1, ok2⟩ := Bool.and_eq_true_iff.mp ok
      cases r' with
      | cons hr tr =>
        obtain ⟨h1, h2⟩ := h
        have h1 : p.1 = q.1 := h1
        obtain ⟨key, v⟩ := q
        have rest := ih2 e2 tr ok2
        have kk : key = x.1 := h1.symm.trans e1.symm
        subst kk
        have rel := rb.val x.1
        rcases Fd.get_rep em rm x.1 with ⟨z1, z2⟩ | ⟨v', d', G1, z1, z2, z3, _⟩
        · rw [z2] at ok1; cases ok1
        · have rr : RelO (some v') (valueAt vb x.1) := by rw [← z1]; exact rel
          obtain ⟨y, hy, ry⟩ := rr.some_of
          rw [z2] at ok1
          exact .hit (e := true) (b := true) hy (ih _ _ _ _ _ _ _ _ ok1 hr z3 h2 ry) rest
theorem eqZ_rc (I : Inv X pins σ H s) {A : Around} (hA : A.units < cLine) {f : Dv → Dv → Bool} (ih : EqF X A.in1 s H f) {d e : Dv} {x y : V} {u v : Value} {G1 G2 : List Addr} (h : eqZ f d e = true) (r1 : Rep X.K H x d G1) (r2 : Rep X.K H y e G2) (q1 : RelV x u) (q2 : RelV y v) :
    ∃ a b, u = .ref a ∧ v = .ref b ∧ ∀ (E Q : Value → Shared → Prop), Q (.bool true) s → wpAny (model X.prog X.w) A (richCompare .Eq (.ref a) (.ref b)) Q E s := by
  unfold eqZ at h
  split at h
  · rename_i l m
    obtain ⟨h1, h2⟩ := Bool.and_eq_true_iff.mp h
    cases r1 with
    | @dct a1 ks _ g ha el rl =>
      cases r2 with
      | @dct a2 ls _ g' hb em rm =>
        refine ⟨a1, a2, q1, q2, fun E Q q => ?_⟩
        obtain ⟨_, ya, va, ra, da⟩ := dk_rd I.hok ha
        obtain ⟨_, yb, vb, rb, db⟩ := dk_rd I.hok hb
        have e : (va.length == vb.length && true) = true := by
          rw [← ra.length, ← rb.length, Fd.len_keys el, Fd.len_keys em, h1]; rfl
        exact PySem.W.rcP_dicts (knd := mixKind X.prog X.w) (r := true) ya yb da db hA (fun _ => hitsP ih rb em rm ra el rl h2) E Q (by rw [e]; exact q)
  · rename_i xs ys
    cases r1 with
    | @tup a1 vs1 _ _ ha rl =>
      cases r2 with
      | @tup a2 vs2 _ _ hb rm =>
        refine ⟨a1, a2, q1, q2, fun E Q q => ?_⟩
        obtain ⟨i1, rv1, t1, _⟩ := I.tuple ha.sq
        obtain ⟨i2, rv2, t2, _⟩ := I.tuple hb.sq
        have ln : i1.length = i2.length := by rw [← Vals.length rv1, ← Vals.length rv2, reps_ln rl, reps_ln rm]; exact eqYs_len h
        refine Fd.rcP_tups (us := i1.toArray) (vs := i2.toArray) (ev := fun _ => true) t1 t2 hA (fun j p q => ?_) E Q (by
          rw [all_true, show (i1.toArray.size == i2.toArray.size) = true from by rw [List.size_toArray, List.size_toArray, ln]; exact beq_self_eq_true _]; exact q)
        obtain ⟨v1, w1, w2⟩ := vals_at rv1 j _ (by simpa using List.getElem?_eq_getElem (l := i1) (i := j) (by simpa using p))
        obtain ⟨v2, w3, w4⟩ := vals_at rv2 j _ (by simpa using List.getElem?_eq_getElem (l := i2) (i := j) (by simpa using q))
        obtain ⟨d1, g1, k1, k2⟩ := reps_at rl j _ w1
        obtain ⟨d2, g2, k3, k4⟩ := reps_at rm j _ w3
        exact ih _ _ _ _ _ _ _ _ (eqYs_get h j _ _ k1 k3) k2 k4 w2 w4
  · rename_i xs ys
    cases r1 with
    | @lst a1 vs1 _ _ ha rl =>
      cases r2 with
      | @lst a2 vs2 _ _ hb rm =>
        refine ⟨a1, a2, q1, q2, fun E Q q => ?_⟩
        obtain ⟨i1, rv1, t1, _⟩ := I.list (.inl (.inl ha))
        obtain ⟨i2, rv2, t2, _⟩ := I.list (.inl (.inl hb))
        have ln : i1.length = i2.length := by rw [← Vals.length rv1, ← Vals.length rv2, reps_ln rl, reps_ln rm]; exact eqYs_len h
        refine rcP_lists (items := i1.toArray) (items2 := i2.toArray) (e := fun _ => true) t1.isList t2.isList (by rw [List.size_toArray, List.size_toArray, ln]) hA (fun j p q => ?_) E Q (by rw [all_true]; exact q)
        obtain ⟨v1, w1, w2⟩ := vals_at rv1 j _ (by simpa using List.getElem?_eq_getElem (l := i1) (i := j) (by simpa using p))
        obtain ⟨v2, w3, w4⟩ := vals_at rv2 j _ (by simpa using List.getElem?_eq_getElem (l := i2) (i := j) (by simpa using q))
        obtain ⟨d1, g1, k1, k2⟩ := reps_at rl j _ w1
        obtain ⟨d2, g2, k3, k4⟩ := reps_at rm j _ w3
        exact ih _ _ _ _ _ _ _ _ (eqYs_get h j _ _ k1 k3) k2 k4 w2 w4
  · cases h
theorem eqY_ok (I : Inv X pins σ H s) : ∀ (n : Nat) (A : Around), A.units + n + 41 < cLine → EqF X A s H (eqY n) := by
  intro n
  induction n with
  | zero => intro A _ d e x y u v G1 G2 h; cases h
  | succ n ih =>
    intro A hu d e x y u v G1 G2 h r1 r2 q1 q2
    rcases Bool.or_eq_true_iff.mp h with h | h
    · unfold eqDt at h
      obtain ⟨h, h4⟩ := Bool.and_eq_true_iff.mp h
      obtain ⟨h, h3⟩ := Bool.and_eq_true_iff.mp h
      obtain ⟨c1, c2⟩ := Bool.and_eq_true_iff.mp h
      obtain ⟨p1, hp1, s1⟩ := Fd.okB_ok c1
      obtain ⟨p2, hp2, s2⟩ := Fd.okB_ok c2
      have e1 : plD d = p1 := by unfold plD; rw [hp1]; rfl
      have e2 : plD e = p2 := by unfold plD; rw [hp2]; rfl
      rw [e1] at h3 h4
      rw [e2] at h4
      obtain ⟨as, k1⟩ := Dp.reads I _ x u (r1.dp hp1) q1
      obtain ⟨bs, k2⟩ := Dp.reads I _ y v (r2.dp hp2) q2
      have := (SeqAt.eqAt_reads _ _ A s u v as bs k1 k2 (SeqAt.canLay_of_shaped s1) (SeqAt.canLay_of_shaped s2) (by
        have := of_decide_eq_true h3
        have : min p1.depth p2.depth ≤ p1.depth := Nat.min_le_left _ _
        omega)).eqP (prog := X.prog) (w := X.w)
      rw [h4] at this
      exact this
    · obtain ⟨a, b, rfl, rfl, q⟩ := eqZ_rc I (by omega) (ih A.in1 (by show A.units + 1 + n + 41 < _; omega)) h r1 r2 q1 q2
      by_cases ne : a = b
      · subst ne
        intro E Q hq
        unfold eqBool
        refine wpAny_holding ?_
        refine wpAny_ite_split (fun _ => ?_) fun z => absurd (beq_self_eq_true (Value.ref a)) z
        exact wpAny_pure (M := model X.prog X.w) (E := E) hq
      · exact eqP_refs ne q
end
def rEqZ (K : PySem.W.Frag) : R2 := fun x y H Q => ∃ d e G1 G2, Rep K H x d G1 ∧ Rep K H y e G2 ∧ eqZ (eqY 8) d e = true ∧ Q (.bl true) H
theorem op_eqZ {X : Cx} (hu : X.A.units + 65 < cLine) : OpR X (compareOp .Eq) (rEqZ X.K) := by
  intro pins s σ H x y v u Q I rx ry ⟨d, e, G1, G2, r1, r2, h, q⟩
  obtain ⟨a, b, rfl, rfl, z⟩ := eqZ_rc I (A := X.A) (by omega) (eqY_ok I 8 X.A.in1 (by show X.A.units + 1 + 8 + 41 < _; omega)) h r1 r2 rx ry
  exact z X.xe _ ⟨.bl _, H, I, rfl, q⟩
def eqX (d e : Dv) : Option Dv := (eqA false d e).or (if eqZ (eqY 8) d e = true then some (.bl true) else none)
def rEqX (K : PySem.W.Frag) : R2 := fun x y H Q => rEqA K x y H Q ∨ rEqZ K x y H Q
theorem op_eqX {X : Cx} (hu : X.A.units + 65 < cLine) : OpR X (compareOp .Eq) (rEqX X.K) := (Fd.op_eqA hu).or (op_eqZ hu)
theorem opD_eqZ {K : PySem.W.Frag} : OpD K (rEqZ K) true fun d e => if eqZ (eqY 8) d e = true then some (.bl true) else none := fun H x y d1 d2 d G1 G2 Q r1 r2 e q => by
  obtain ⟨c, e⟩ := ifs e
  cases e
  exact ⟨d1, d2, G1, G2, r1, r2, c, q _ H [] (.refl H) (.bl _) (fun b k => (nomatch k)) fun _ _ => ⟨.nil, fun a m => (nomatch m)⟩⟩
theorem opD_eqX {K : PySem.W.Frag} : OpD K (rEqX K) true eqX := OpD.or Fd.opD_eqA opD_eqZ
theorem eqX_of {d e b : Dv} (h : eqA false d e = some b) : eqX d e = some b := by unfold eqX; rw [h]; rfl
theorem x_eq {a b : Int} : eqX (.int a) (.int b) = some (.bl (decide (a = b))) := eqX_of r_eq
theorem x_eq_bl {a b : Bool} : eqX (.bl a) (.bl b) = some (.bl (decide (a = b))) := eqX_of r_eq_bl
end Fh
namespace Fh
open PySem PySem.Spec PyProof.Rows L2 RZ
open Fd (Dv Rep Reps kD gK pK pyD eqA ltA hnl lackD Mk StD stD stLt plD okB OpD rEqA same_new addD)
variable {P : Addr → Prop}
section
variable {X : Cx} {K : PySem.W.Frag} {a b c e : Expr} {es : List Expr} {pos : Pos} {ma mb mc me : ME} {ta tb : MT} {mr : MA}
/-! ### list + list, of anything -/
def listT : Av → Option (List Av)
  | .d (.lst ds) => some (ds.map .d)
  | .lst xs => some xs
  | _ => none
theorem listT_rv {H : Hp} {μ : List Addr} {L : Addr → Prop} {v : V} {x : Av} {xs : List Av} (r : RV K H μ L v x) (e : listT x = some xs) : ∃ a vs, v = .ref a ∧ H a = some (.lst vs) ∧ RVs K H μ L vs xs := by
  cases r with
  | @d v x G r n =>
    cases x <;> first | cases e | skip
    cases r with
    | lst hs rs => exact ⟨_, _, rfl, hs, .of rs fun a m => n a (List.mem_cons_of_mem _ m)⟩
  | ref hm => cases e
  | tup _ _ => cases e
  | lst hs _ rs => cases e; exact ⟨_, _, rfl, hs, rs⟩
def addM (x y : Av) (h : AH) : Option (Av × AH) := match listT x, listT y with
  | some xs, some ys => if xs.length + ys.length ≤ sizeLine then some (mkL (xs ++ ys), h) else none
  | _, _ => opM true addD x y h
def vAdd (ma mb : ME) : ME := fun env h => (ma env h).bind fun (x, h1) => (mb env h1).bind fun (y, h2) => addM x y h2
theorem he_add (ha : HE X a ma) (hb : HE X b mb) : HE X (.BinOp a .Add b pos) (vAdd ma mb) := pe_weak (pe_op Fd.op_addA ha hb) fun σ H Q ⟨P, μ, env, h, z, h', rl, er, e, q⟩ => by
  obtain ⟨⟨x, h1⟩, e1, e⟩ := bs e
  obtain ⟨⟨y, h2⟩, e2, e⟩ := bs e
  refine rE_to rl er e1 fun μ1 H1 v rl1 s1 er1 v1 => rE_to rl1 er1 e2 fun μ2 H2 u rl2 s2 er2 v2 => ?_
  dsimp only at e
  unfold addM at e
  split at e
  · rename_i xs ys hx hy
    obtain ⟨c, e⟩ := ifs e
    cases e
    obtain ⟨p1, vs, rfl, k1, k2⟩ := listT_rv (v1.on rl1 s2) hx
    obtain ⟨p2, us, rfl, k3, k4⟩ := listT_rv v2 hy
    refine .inr (.inr (.inl ⟨p1, p2, vs, us, rfl, rfl, k1, k3, by rw [k2.len, k4.len]; exact c, fun p hp => ?_⟩))
    have sm : Same H2 (upd H2 p (.lst (vs ++ us))) := same_new hp
    exact q μ2 _ _ (rl2.same sm) ((s1.trans s2).trans (.same rl2 sm)) (mkL_rv upd_same (fun z => rl2.has z hp) ((k2.app k4).on rl2 (.same rl2 sm)))
  · exact opM_ok Fd.opD_add rl2 (v1.on rl1 s2) v2 e fun H3 w hh rl3 s3 rw_ => by subst hh; exact q μ2 H3 w rl3 ((s1.trans s2).trans s3) rw_
theorem addM_int {a b : Int} {h : AH} : addM (.d (.int a)) (.d (.int b)) h = some (.d (.int (a + b)), h) := by
  show opM true addD (.d (.int a)) (.d (.int b)) h = _
  rw [opM_d]; rfl
theorem addM_str {a b : Str} {h : AH} (e : a.length + b.length ≤ sizeLine) : addM (.d (.str a)) (.d (.str b)) h = some (.d (.str (a ++ b)), h) := by
  show opM true addD (.d (.str a)) (.d (.str b)) h = _
  rw [opM_d, Fd.addD_str e]; rfl
end
/-! ### loops, by what they stand for -/
theorem runFor_use {g : MG} {body : MS} {xs : List Av} {env : Env} {h : AH} {r : Option (Out × AH)} (hr : runFor g body xs env h = r) (I : Nat → Env → AH → Prop) (i0 : I 0 env h)
    (turn : ∀ i x env h, xs[i]? = some x → I i env h → ∃ e1 h1 e2 h2, g x env h = some (e1, h1) ∧ body e1 h1 = some (.nx e2, h2) ∧ I (i + 1) e2 h2) : ∃ e' h', r = some (.nx e', h') ∧ I xs.length e' h' := by
  subst hr
  exact runFor_inv (I := I) (fun i x env h hx hi => by
    obtain ⟨e1, h1, e2, h2, a1, a2, a3⟩ := turn i x env h hx hi
    exact ⟨e1, h1, a1, .nx e2, h2, a2, ⟨e2, .inl rfl⟩, fun e3 z => by rcases z with z | z <;> cases z; exact a3⟩) i0
theorem rng_len {lo : Int} {n : Nat} : (rng lo n).length = n := by unfold rng; rw [List.length_map, List.length_range]
theorem rng_get {lo : Int} {n i : Nat} {x : Av} (h : (rng lo n)[i]? = some x) : i < n ∧ x = .d (.int (lo + i)) := by
  unfold rng at h
  rw [List.getElem?_map] at h
  obtain ⟨j, h1, rfl⟩ := Option.map_eq_some_iff.mp h
  obtain ⟨h2, h3⟩ := List.getElem?_eq_some_iff.mp h1
  rw [List.getElem_range] at h3
  subst h3
  exact ⟨by simpa using h2, rfl⟩
/-- a range's numbers; its bound is told by rgO_ok -/
noncomputable def rgO (i j : Int) (h : AH) : Option ((List Av × Option Nat) × AH) := @ite _ (-(2 ^ 62) ≤ i ∧ i < 2 ^ 62 ∧ -(2 ^ 62) ≤ j ∧ j < 2 ^ 62) (Classical.propDecidable _) (some ((rng i (j - i).toNat, none), h)) none
theorem iRg1_eq {m : ME} {env : Env} {h : AH} : iRg1 m env h = (m env h).bind fun (x, h1) => (intA x).bind fun j => rgO 0 j h1 := by
  unfold iRg1 rgO
  congr 1
  funext ⟨x, h1⟩
  show (intA x).bind _ = (intA x).bind _
  congr 1
  funext j
  rw [Int.sub_zero]
  by_cases c : -(2 ^ 62) ≤ j ∧ j < 2 ^ 62
  · rw [if_pos c, if_pos ⟨by omega, by omega, c.1, c.2⟩]
  · rw [if_neg c, if_neg (fun z => c z.2.2)]
theorem iRg2_eq {m n : ME} {env : Env} {h : AH} : iRg2 m n env h = (m env h).bind fun (x, h1) => (n env h1).bind fun (y, h2) => (intA x).bind fun i => (intA y).bind fun j => rgO i j h2 := by
  unfold iRg2 rgO
  congr 1
  funext ⟨x, h1⟩
  show (n env h1).bind _ = (n env h1).bind _
  congr 1
  funext ⟨y, h2⟩
  show (intA x).bind _ = (intA x).bind _
  congr 1
  funext i
  show (intA y).bind _ = (intA y).bind _
  congr 1
  funext j
  by_cases c : -(2 ^ 62) ≤ i ∧ i < 2 ^ 62 ∧ -(2 ^ 62) ≤ j ∧ j < 2 ^ 62
  · rw [if_pos c, if_pos c]
  · rw [if_neg c, if_neg c]
theorem rgO_ok {i j : Int} {h : AH} (h1 : -(2 ^ 62) ≤ i) (h2 : i < 2 ^ 62) (h3 : -(2 ^ 62) ≤ j) (h4 : j < 2 ^ 62) : rgO i j h = some ((rng i (j - i).toNat, none), h) := if_pos ⟨h1, h2, h3, h4⟩
/-! ### the things of a list, a tuple, a text -/
def thD : Dv → Option (List Dv)
  | .lst xs => some xs
  | .tup xs => some xs
  | .str x => if x.length ≤ sizeLine then some (Fd.signsD x) else none
  | _ => none
theorem th_str {x : Str} (h : x.length ≤ sizeLine) : thD (.str x) = some (Fd.signsD x) := if_pos h
theorem th_len {d : Dv} {xs : List Dv} (h : thD d = some xs) : Fd.lenD [d] = some (.int xs.length) := by
  cases d <;> first | cases h | skip
  · rename_i z
    obtain ⟨hz, rfl⟩ := Fd.ite_some (C := z.length ≤ sizeLine) h
    rw [Fd.lenD_str hz, Fd.signs_len]
  · rfl
  · rfl
theorem th_ix {h : AH} {d : Dv} {xs : List Dv} {r : Nat} {x : Dv} (e : thD d = some xs) (hx : xs[r]? = some x) : ixA h (.d d) (.d (.int r)) = some (.d x) := by
  have hr := (List.getElem?_eq_some_iff.mp hx).1
  have hv := (List.getElem?_eq_some_iff.mp hx).2
  cases d <;> first | cases e | skip
  · rename_i z
    obtain ⟨hz, rfl⟩ := Fd.ite_some (C := z.length ≤ sizeLine) e
    have hr2 : r < z.cps.toList.length := by unfold Fd.signsD at hr; rw [List.length_map] at hr; exact hr
    show (if z.length ≤ sizeLine then (atI z.cps.toList (r : Int)).map fun c => Av.d (.str ⟨#[c]⟩) else none) = _
    rw [if_pos hz, atI_nat hr2, ← hv]
    unfold Fd.signsD
    rw [List.getElem_map]; rfl
  · show atI (xs.map Av.d) (r : Int) = _
    rw [atI_nat (by rw [List.length_map]; exact hr), List.getElem_map, hv]
  · show atI (xs.map Av.d) (r : Int) = _
    rw [atI_nat (by rw [List.length_map]; exact hr), List.getElem_map, hv]
end Fh
namespace Fh
open PySem PySem.Spec PyProof.Rows L2 RZ
open Fd (Dv Rep Reps kD gK pK pyD eqA ltA hnl lackD Mk StD stD stLt plD okB OpD rEqA same_new addD)
/-! ### cells of data -/
def dAt (h : AH) (n : Nat) (l : List (Key × Dv)) : Prop := h[n]? = some (.lv (.dK (l.map fun p => (p.1, .d p.2))))
def lAt (h : AH) (n : Nat) (ds : List Dv) : Prop := h[n]? = some (.lv (.lst (ds.map .d)))
theorem app_old {h t : AH} {i : Nat} {nd : Nd} (e : h[i]? = some nd) : (h ++ t)[i]? = some nd := by
  rw [List.getElem?_append_left (List.getElem?_eq_some_iff.mp e).1]; exact e
theorem set_old {h : AH} {i j : Nat} {nd nd' : Nd} (e : h[i]? = some nd) (ne : j ≠ i) : (h.set j nd')[i]? = some nd := by
  rw [List.getElem?_set_ne ne]; exact e
theorem dAt.new {h : AH} : dAt (h ++ [.lv (.dK [])]) h.length [] := app_new
theorem lAt.new {h : AH} : lAt (h ++ [.lv (.lst [])]) h.length [] := app_new
theorem dAt.newL {h : AH} {l : List (Key × Dv)} : dAt (h ++ [.lv (.dK (l.map fun p => (p.1, .d p.2)))]) h.length l := app_new
theorem dAt.app {h t : AH} {n : Nat} {l : List (Key × Dv)} (e : dAt h n l) : dAt (h ++ t) n l := app_old e
theorem lAt.app {h t : AH} {n : Nat} {l : List Dv} (e : lAt h n l) : lAt (h ++ t) n l := app_old e
theorem dAt.set {h : AH} {n j : Nat} {nd : Nd} {l : List (Key × Dv)} (e : dAt h n l) (ne : j ≠ n) : dAt (h.set j nd) n l := set_old e ne
theorem lAt.set {h : AH} {n j : Nat} {nd : Nd} {l : List Dv} (e : lAt h n l) (ne : j ≠ n) : lAt (h.set j nd) n l := set_old e ne
theorem dAt.lt {h : AH} {n : Nat} {l : List (Key × Dv)} (e : dAt h n l) : n < h.length := (List.getElem?_eq_some_iff.mp e).1
theorem lAt.lt {h : AH} {n : Nat} {l : List Dv} (e : lAt h n l) : n < h.length := (List.getElem?_eq_some_iff.mp e).1
theorem Lh.lt {n k : Nat} {h : AH} (l : Lh n k h) : n < h.length := let ⟨_, e, _⟩ := l; (List.getElem?_eq_some_iff.mp e).1
theorem Lh.set {n k j : Nat} {h : AH} {nd : Nd} (l : Lh n k h) (ne : j ≠ n) : Lh n k (h.set j nd) := let ⟨z, e, r⟩ := l; ⟨z, set_old e ne, r⟩
theorem Lh.ne_d {n k m : Nat} {h : AH} {l : List (Key × Dv)} (a : Lh n k h) (b : dAt h m l) : m ≠ n := fun e => by
  subst e
  obtain ⟨z, e, _⟩ := a
  rw [show h[m]? = _ from b] at e; cases e
theorem Ex.ln {n : Nat} {h g : AH} (x : Ex n h g) (l : n < g.length) : h.length ≤ g.length := by
  rcases Nat.eq_zero_or_pos h.length with z | z
  · omega
  · by_cases c : h.length - 1 = n
    · omega
    · have hk := x.kp (h.length - 1) h[h.length - 1] c (List.getElem?_eq_getElem (by omega))
      have := (List.getElem?_eq_some_iff.mp hk).1
      omega
theorem Ex.new {n j : Nat} {h g : AH} {nd : Nd} (x : Ex n h g) (hj : h.length ≤ j) : Ex n h (g.set j nd) := ⟨fun i nd z e => set_old (x.kp i nd z e) (by have := (List.getElem?_eq_some_iff.mp e).1; omega)⟩
theorem Ex.dAt {n m : Nat} {h g : AH} {l : List (Key × Dv)} (x : Ex n h g) (e : dAt h m l) (ne : m ≠ n) : Fh.dAt g m l := x.kp m _ ne e
theorem Ex.lAt {n m : Nat} {h g : AH} {l : List Dv} (x : Ex n h g) (e : lAt h m l) (ne : m ≠ n) : Fh.lAt g m l := x.kp m _ ne e
theorem Ex.unlock {n q : Nat} {h g : AH} {b : Bd} (x : Ex n (h.set q (.lk b)) g) (e : h[q]? = some (.lv b)) : Ex n h (g.set q (.lv b)) := ⟨fun i nd z hi => by
  have hq := (List.getElem?_eq_some_iff.mp e).1
  by_cases c : i = q
  · subst c
    rw [e] at hi
    cases hi
    exact set_get (x.kp i _ z (set_get e))
  · exact set_old (x.kp i nd z (set_old hi (Ne.symm c))) (Ne.symm c)⟩
theorem get_map2 {α : Type} {f : α → Dv} {l : List α} {i : Nat} {x : Av} (h : ((l.map f).map Av.d)[i]? = some x) : ∃ a, l[i]? = some a ∧ x = .d (f a) := by
  rw [List.getElem?_map, List.getElem?_map] at h
  cases e : l[i]? with
  | none => rw [e] at h; cases h
  | some a => rw [e] at h; cases h; exact ⟨a, rfl, rfl⟩
theorem get_pairs {l : List (Key × Dv)} {i : Nat} {x : Av} (h : (List.map (fun p => mkT [Av.d (kD p.fst), p.snd]) (List.map (fun p => (p.fst, Av.d p.snd)) l))[i]? = some x) : ∃ p, l[i]? = some p ∧ x = .d (.tup [kD p.1, p.2]) := by
  rw [List.getElem?_map, List.getElem?_map] at h
  cases e : l[i]? with
  | none => rw [e] at h; cases h
  | some a => rw [e] at h; cases h; exact ⟨a, rfl, rfl⟩
theorem pairs_ln {l : List (Key × Dv)} : (List.map (fun p => mkT [Av.d (kD p.fst), p.snd]) (List.map (fun p => (p.fst, Av.d p.snd)) l)).length = l.length := by rw [List.length_map, List.length_map]
theorem putA_dK {h : AH} {n : Nat} {l : List (Key × Dv)} {k : Key} {d : Dv} (e : dAt h n l) (hl : l.length ≤ 100000) : putA (.ref n) (.d (kD k)) (.d d) h = some (h.set n (.lv (.dK ((pK l k d).map fun p => (p.1, .d p.2))))) := by
  unfold putA
  simp only [show h[n]? = _ from e, keyA_kD, Option.bind_some]
  rw [if_pos (by rw [List.length_map]; exact Nat.lt_of_le_of_lt hl (by decide)), pV_map, pV_pK]
theorem dAt.put {h : AH} {n : Nat} {l m : List (Key × Dv)} (e : dAt h n l) : dAt (h.set n (.lv (.dK (m.map fun p => (p.1, .d p.2))))) n m := set_get e
theorem lAt.put {h : AH} {n : Nat} {l m : List Dv} (e : lAt h n l) : lAt (h.set n (.lv (.lst (m.map .d)))) n m := set_get e
theorem getA_at {h : AH} {n : Nat} {l : List (Key × Dv)} {k : Key} (e : dAt h n l) : getA h (.ref n) (.d (kD k)) = some ((gK l k).map .d) := by
  unfold getA
  rw [dtD_at e]
  show (keyA (.d (kD k))).map _ = _
  rw [keyA_kD]
  show some (gV _ k) = _
  rw [gV_map]; rfl
theorem ixA_dAt {h : AH} {n : Nat} {l : List (Key × Dv)} {k : Key} (e : dAt h n l) : ixA h (.ref n) (.d (kD k)) = (gK l k).map .d := by
  have e1 : itX h (.ref n) = none := by unfold itX; simp only [itT]; unfold itL; simp only [rd_at e]
  have e2 : strA (.ref n) = none := rfl
  unfold ixA
  simp only [e1, e2]
  rw [getA_at e]; rfl
theorem snap_dAt {h : AH} {n k : Nat} {l : List (Key × Dv)} (e : dAt h n l) : snap (k + 1) h (.ref n) = some (.dct l) := snap_ref_dK e
theorem snap_lAt {h : AH} {n k : Nat} {l : List Dv} (e : lAt h n l) : snap (k + 1) h (.ref n) = some (.lst l) := snap_ref_lst e
theorem dtD_lAt {h : AH} {n : Nat} {l : List Dv} (e : lAt h n l) : dtD h (.ref n) = none := by unfold dtD; simp only [rd_at e]
theorem lock_at {h : AH} {n : Nat} {b : Bd} (e : h[n]? = some (.lv b)) : lockL (.ref n) h = (h.set n (.lk b), some n) := by unfold lockL; simp only [e]
theorem unlk_at {h : AH} {n : Nat} {b : Bd} (e : h[n]? = some (.lk b)) : unlk (some n) h = h.set n (.lv b) := by unfold unlk; simp only [e]
/-! ### walks -/
def iAnyM (x : Av) (h1 : AH) : Option ((List Av × Option Nat) × AH) := match itT x with
  | some xs => some ((xs, none), h1)
  | none => match strA x with
    | some z => some ((signs z, none), h1)
    | none => (itL h1 x).bind fun xs => some ((xs, (lockL x h1).2), (lockL x h1).1)
theorem iAny_eq {m : ME} {env : Env} {h : AH} : iAny m env h = (m env h).bind fun (x, h1) => iAnyM x h1 := rfl
theorem iAnyM_lst {ds : List Dv} {h : AH} : iAnyM (.d (.lst ds)) h = some ((ds.map .d, none), h) := rfl
theorem iAnyM_frl {ns : List Int} {h : AH} : iAnyM (.d (.frl ns)) h = some ((ns.map fun n => .d (.int n), none), h) := rfl
theorem iAnyM_L {xs : List Av} {h : AH} : iAnyM (.lst xs) h = some ((xs, none), h) := rfl
theorem iAnyM_tup {ds : List Dv} {h : AH} : iAnyM (.d (.tup ds)) h = some ((ds.map .d, none), h) := rfl
theorem iAnyM_T {xs : List Av} {h : AH} : iAnyM (.tup xs) h = some ((xs, none), h) := rfl
theorem iAnyM_at {h : AH} {n : Nat} {xs : List Av} (e : h[n]? = some (.lv (.lst xs))) : iAnyM (.ref n) h = some ((xs, some n), h.set n (.lk (.lst xs))) := by
  unfold iAnyM
  simp only [itT, strA, itL_at e, lock_at e, Option.bind_some]
theorem mkL_d1 {a : Dv} : mkL [.d a] = .d (.lst [a]) := rfl
theorem mkL_d2 {a b : Dv} : mkL [.d a, .d b] = .d (.lst [a, b]) := rfl
theorem mkL_d3 {a b c : Dv} : mkL [.d a, .d b, .d c] = .d (.lst [a, b, c]) := rfl
theorem mkL_d4 {a b c d : Dv} : mkL [.d a, .d b, .d c, .d d] = .d (.lst [a, b, c, d]) := rfl
theorem mkL_d5 {a b c d e : Dv} : mkL [.d a, .d b, .d c, .d d, .d e] = .d (.lst [a, b, c, d, e]) := rfl
theorem mkL_d6 {a b c d e f : Dv} : mkL [.d a, .d b, .d c, .d d, .d e, .d f] = .d (.lst [a, b, c, d, e, f]) := rfl
theorem sz_1 : 1 ≤ sizeLine := by decide
theorem sz_2 : 2 ≤ sizeLine := by decide
theorem sz_3 : 3 ≤ sizeLine := by decide
theorem sz_4 : 4 ≤ sizeLine := by decide
theorem sz_5 : 5 ≤ sizeLine := by decide
theorem sz_6 : 6 ≤ sizeLine := by decide
theorem sz_0 : 0 ≤ sizeLine := Nat.zero_le _
theorem ix_st0 {h : AH} {n : Int} {x : Str} : ixA h (.d (stD n x)) (.d (.int 0)) = some (.d (.int n)) := rfl
theorem ix_st1 {h : AH} {n : Int} {x : Str} : ixA h (.d (stD n x)) (.d (.int 1)) = some (.d (.str x)) := rfl
theorem opM_at {nw : Bool} {f : Dv → Dv → Option Dv} {x y : Av} {d e z : Dv} {h : AH} (h1 : snap 8 h x = some d) (h2 : snap 8 h y = some e) (h3 : f d e = some z) (hp : (z.pur || (nw && z.sh)) = true) : opM nw f x y h = some (.d z, h) := by
  unfold opM
  rw [h1, h2]
  show (f d e).bind _ = _
  rw [h3]
  show (if _ then _ else _) = _
  rw [if_pos hp]
theorem opM_bl_at {nw : Bool} {f : Dv → Dv → Option Dv} {x y : Av} {d e : Dv} {b : Bool} {h : AH} (h1 : snap 8 h x = some d) (h2 : snap 8 h y = some e) (h3 : f d e = some (.bl b)) : opM nw f x y h = some (.d (.bl b), h) := opM_at h1 h2 h3 rfl
theorem runFor_use2 {g : MG} {body : MS} {xs : List Av} {env : Env} {h : AH} {r : Option (Out × AH)} (hr : runFor g body xs env h = r) (I : Nat → Env → AH → Prop) (i0 : I 0 env h)
    (turn : ∀ i x env h, xs[i]? = some x → I i env h → ∃ e1 h1, g x env h = some (e1, h1) ∧ ∃ e2 h2, body e1 h1 = some (.nx e2, h2) ∧ I (i + 1) e2 h2) : ∃ e' h', r = some (.nx e', h') ∧ I xs.length e' h' :=
  runFor_use hr I i0 fun i x env h hx hi => by
    obtain ⟨e1, h1, a1, e2, h2, a2, a3⟩ := turn i x env h hx hi
    exact ⟨e1, h1, e2, h2, a1, a2, a3⟩
theorem addM_L {xs ys : List Av} {h : AH} (e : xs.length + ys.length ≤ sizeLine) : addM (.lst xs) (.lst ys) h = some (mkL (xs ++ ys), h) := if_pos e
end Fh
namespace Fh
open PySem PySem.Spec PyProof.Rows L2 RZ
open PySem.W (AllAlike Sortable dataLe EachIs)
open Fd (Dv Rep Reps kD gK pK pyD eqA ltA hnl lackD Mk StD stD stLt plD okB OpD rEqA same_new addD CallD)
/-! ### sorted of a list of data -/
def alikeB (ps : List PyData) : Bool := ps.all fun d => ps.all fun e => PySem.W.alike d e
def tupB : PyData → Bool
  | .tuple (_ :: _) => true
  | _ => false
def atB : PyData → Bool
  | .none => false
  | .tuple _ => false
  | _ => true
def sortOk (ps : List PyData) : Bool := alikeB ps && (ps.all tupB || ps.all atB) && ps.all fun d => decide (d.depth ≤ 40)
theorem sortOk_ok {ps : List PyData} (h : sortOk ps = true) : AllAlike ps ∧ Sortable ps ∧ ∀ d ∈ ps, d.depth ≤ 40 := by
  obtain ⟨h12, h3⟩ := Bool.and_eq_true_iff.mp h
  obtain ⟨h1, h2⟩ := Bool.and_eq_true_iff.mp h12
  refine ⟨fun d hd e he => List.all_eq_true.mp (List.all_eq_true.mp h1 d hd) e he, ?_, fun d hd => of_decide_eq_true (List.all_eq_true.mp h3 d hd)⟩
  rcases Bool.or_eq_true_iff.mp h2 with h2 | h2
  · left
    intro d hd
    have := List.all_eq_true.mp h2 d hd
    unfold tupB at this
    split at this
    · exact ⟨_, _, rfl⟩
    · cases this
  · right
    intro d hd
    have := List.all_eq_true.mp h2 d hd
    refine ⟨fun z => ?_, fun xs z => ?_⟩ <;> (subst z; cases this)
def sortD (ds : List Dv) : List Dv := ds.mergeSort (dataLe false plD)
def sortA : List Dv → Option Dv
  | [.lst ds] => if (Dv.purs ds && ds.all okB && sortOk (ds.map plD)) = true then some (.lst (sortD ds)) else none
  | _ => none
def rSortA (K : PySem.W.Frag) : List V → Hp → VK → Prop := fun vs H Q => ∃ (a : Addr) (xs : List V) (ds : List Dv) (G : List Addr), vs = [.ref a] ∧ SqL K H a xs ∧ Reps K H xs ds G ∧ ds.all okB = true ∧ sortOk (ds.map plD) = true ∧
  ∀ p, H p = none → Q (.ref p) (upd H p (.lst (((xs.zip ds).mergeSort (dataLe false fun z => plD z.2)).map (·.1))))
theorem vals_each {bs : List (V × Dv)} {out : List Value} (h : EachIs (fun v (b : V × Dv) => RelV b.1 v) out bs) : Vals (bs.map (·.1)) out := by
  induction h with
  | nil => exact .nil
  | cons h t ih => exact .cons h ih
theorem reps_zip {K : PySem.W.Frag} {H : Hp} : ∀ {xs : List V} {ds : List Dv} {G : List Addr}, Reps K H xs ds G → ∀ z ∈ xs.zip ds, ∃ G1, Rep K H z.1 z.2 G1
  | _, _, _, .nil, z, hz => by cases hz
  | _, _, _, .cons h t, z, hz => by
    rw [List.zip_cons_cons] at hz
    rcases List.mem_cons.mp hz with rfl | hz
    · exact ⟨_, h⟩
    · exact reps_zip t z hz
theorem zip_get3 {α β γ : Type} {as : List α} {bs : List β} {cs : List γ} {p : α × β × γ} (h : p ∈ as.zip (bs.zip cs)) : ∃ j : Nat, as[j]? = some p.1 ∧ bs[j]? = some p.2.1 ∧ cs[j]? = some p.2.2 := by
  obtain ⟨j, hj⟩ := List.mem_iff_getElem?.mp h
  obtain ⟨h1, h2⟩ := List.getElem?_zip_eq_some.mp hj
  obtain ⟨h3, h4⟩ := List.getElem?_zip_eq_some.mp h2
  exact ⟨j, h1, h3, h4⟩
theorem call_sortA {X : Cx} (hc : X.A.units + 64 < cLine) : CallR X (.builtin "sorted") (rSortA X.K) := by
  intro pins s σ H vs us Q I r ⟨a, xs, ds, G, e0, hs, rr, ok, so, q⟩
  subst e0
  obtain ⟨its, rv, hl, hz⟩ := I.list hs
  rw [Vals.ref1 r]
  obtain ⟨al, sb, dp⟩ := sortOk_ok so
  have ln : its.length = (xs.zip ds).length := by rw [List.length_zip, ← reps_ln rr, Nat.min_self, rv.length]
  have e2 : (xs.zip ds).map (fun z => plD z.2) = ds.map plD := by
    show (xs.zip ds).map (plD ∘ Prod.snd) = _
    rw [← List.map_map, List.map_snd_zip (by rw [reps_ln rr]; exact Nat.le_refl _)]
  have me : ∀ (j : Nat) (v : V) (u : Value) (d : Dv), its[j]? = some u → xs[j]? = some v → ds[j]? = some d → RelV v u ∧ ∃ as, Reads s.heap u (plD d) as := by
    intro j v u d h1 h2 h3
    obtain ⟨u', k1, k2⟩ := Vals.get rv h2
    rw [h1] at k1; cases k1
    obtain ⟨d', G1, k3, k4⟩ := reps_at rr j v h2
    rw [h3] at k3; cases k3
    obtain ⟨p, hp, _⟩ := Fd.okB_ok (List.all_eq_true.mp ok d (List.mem_of_getElem? h3))
    have : plD d = p := by unfold plD; rw [hp]; rfl
    rw [this]
    exact ⟨k2, Dp.reads I p v u (k4.dp hp) k2⟩
  refine PySem.W.sorted_data (R := fun v (b : V × Dv) => RelV b.1 v) (enc := fun b => plD b.2) (bs := xs.zip ds) hl.isList (.of_zip ln fun p hp => ?_) (.of_zip ln fun p hp => ?_) (by rw [e2]; exact al) (by rw [e2]; exact sb) (by rw [← ln, ← rv.length]; exact hz) (fun b hb => ?_) fun out h1 h2 => ?_
  · obtain ⟨j, k1, k2, k3⟩ := zip_get3 hp
    exact (me j _ _ _ k1 k2 k3).1
  · obtain ⟨j, k1, k2, k3⟩ := zip_get3 hp
    exact (me j _ _ _ k1 k2 k3).2
  · have := dp (plD b.2) (List.mem_map.mpr ⟨b.2, (List.of_mem_zip hb).2, rfl⟩)
    show X.A.units + 2 + (plD b.2).depth < _
    omega
  · obtain ⟨ep, he'⟩ := PyProof.Rows.sortedAll_at s.heap its out.toArray
    have hlen : (((xs.zip ds).mergeSort (dataLe false fun z => plD z.2)).map (·.1)).length ≤ sizeLine := by
      rw [List.length_map, List.length_mergeSort, ← ln, ← rv.length]; exact hz
    exact ⟨.ref _, upd H (s.heap.objs.size + 1) (.lst (((xs.zip ds).mergeSort (dataLe false fun z => plD z.2)).map (·.1))), I.laid (t' := s.toks) (fun _ _ => PyProof.Rows.sortedAll_old) (Nat.le_succ _) ⟨hlen, out, ep, vals_each h2, he'⟩, rfl, q _ (I.hok.fresh (Nat.le_succ _))⟩
theorem reps_of {K : PySem.W.Frag} {H : Hp} : ∀ {bs : List (V × Dv)}, (∀ z ∈ bs, ∃ G1, Rep K H z.1 z.2 G1) → ∃ G, Reps K H (bs.map (·.1)) (bs.map (·.2)) G
  | [], _ => ⟨_, .nil⟩
  | z :: bs, h => by
    obtain ⟨G1, h1⟩ := h z List.mem_cons_self
    obtain ⟨G2, h2⟩ := reps_of fun y hy => h y (List.mem_cons_of_mem _ hy)
    exact ⟨_, .cons h1 h2⟩
theorem callD_sortA {K : PySem.W.Frag} : CallD K (rSortA K) true sortA := fun H vs ds d G Q r e q => by
  unfold sortA at e
  split at e
  · rename_i zs
    obtain ⟨v, rfl, r1⟩ := r.inv1
    obtain ⟨c, e⟩ := ifs e
    cases e
    obtain ⟨c12, c3⟩ := Bool.and_eq_true_iff.mp c
    obtain ⟨c1, c2⟩ := Bool.and_eq_true_iff.mp c12
    cases r1 with
    | @lst a xs _ g ha ra =>
      refine ⟨a, xs, zs, g, rfl, .of ha, ra, c2, c3, fun p hp => ?_⟩
      obtain ⟨G2, rs⟩ := reps_of (bs := (xs.zip zs).mergeSort (dataLe false fun z => plD z.2)) (K := K) (H := H) fun z hz => reps_zip ra z (List.mem_mergeSort.mp hz)
      have em : ((xs.zip zs).mergeSort (dataLe false fun z => plD z.2)).map (·.2) = sortD zs := by
        unfold sortD
        exact (PySem.W.sort_maps (r := dataLe false fun z : V × Dv => plD z.2) (s := dataLe false plD) Prod.snd (l := xs.zip zs) fun _ _ _ _ => rfl).trans (by rw [List.map_snd_zip (by rw [reps_ln ra]; exact Nat.le_refl _)])
      rw [em] at rs
      have pu : Dv.purs (sortD zs) = true := by
        rw [Fd.purs_all, List.all_eq_true]
        intro z hz
        rw [Fd.purs_all] at c1
        exact List.all_eq_true.mp c1 z (List.mem_mergeSort.mp hz)
      rw [rs.purG pu] at rs
      have sm : Same H (upd H p (.lst (((xs.zip zs).mergeSort (dataLe false fun z => plD z.2)).map (·.1)))) := same_new hp
      refine q _ _ [p] sm (.lst upd_same (rs.step (M := fun _ => False) (.same sm) fun _ _ z => z)) (fun b m => (List.mem_cons.mp m).elim (fun z => .inr (by rw [z]; exact hp)) fun z => (nomatch z)) fun _ _ => ?_
      exact ⟨List.nodup_cons.mpr ⟨fun m => (nomatch m), .nil⟩, fun b m => by
        rcases List.mem_cons.mp m with rfl | m
        · exact ⟨hp, _, upd_same, True.intro⟩
        · cases m⟩
  · cases e
end Fh
namespace Fh
open PySem PySem.Spec PyProof.Rows L2 RZ
open PySem.W (AllAlike Sortable dataLe EachIs)
open Fd (Dv Rep Reps kD gK pK pyD eqA ltA hnl lackD Mk StD stD stLt plD okB OpD rEqA same_new addD CallD)
/-! ### sorted(d.items()) -/
def kP : Key → PyData
  | .inl i => .int i
  | .inr x => .str x
def encP (p : Key × Dv) : PyData := .tuple [kP p.1, plD p.2]
theorem pairs_get {P : Program} {w : World} : ∀ {es : List DictEntry} {kvs : List (Key × Value)}, PySem.Pairs (mixKind P w) es kvs → ∀ (j : Nat) (e : DictEntry), es[j]? = some e → ∃ kv, kvs[j]? = some kv ∧ keyIs kv.1 e.key = true ∧ e.val = kv.2
  | _, _, .nil, j, e, h => by simp at h
  | _, _, .cons h1 h2 t, 0, e, h => by simp at h; subst h; exact ⟨_, rfl, h1, h2⟩
  | _, _, .cons h1 h2 t, j + 1, e, h => by
    obtain ⟨kv, k1, k2⟩ := pairs_get t j e (by simpa using h)
    exact ⟨kv, by simpa using k1, k2⟩
def rItemsK : V → List V → Hp → VK → Prop := fun x xs H Q => ∃ (a : Addr) (kvs : List (Key × V)), x = .ref a ∧ xs = [] ∧ Rd H a (.dK kvs) ∧ ∀ p, H p = none → Q (.ref p) (upd H p (L2.DX.itemsO p a))
section
variable {X : Cx}
theorem mt_itemsK : MtR X "dict.items" rItemsK := by
  intro pins s σ H x xs v us Q I rx rxs h
  obtain ⟨a, kvs, rfl, rfl, ha, q⟩ := h
  cases rx
  cases rxs
  obtain ⟨z, hd, vs, kv, o, es, ep, ho, hx, hdat, _⟩ := dk_rd I.hok ha
  refine _root_.DT.callItems (es := es) (ep := ep) hd ⟨o, ho, hx, hdat⟩ ?_
  have hf : H s.heap.objs.size = none := I.hok.fresh (Nat.le_refl _)
  exact ⟨.ref s.heap.objs.size, upd H s.heap.objs.size (L2.DX.itemsO s.heap.objs.size a), I.laid (t' := s.toks) (fun b u e => Heap.get?_push_of_some _ e) (Nat.le_refl _) (L2.DX.itemsO_ok (Heap.get?_push_size _ rfl)), rfl, q _ hf⟩
abbrev Bt := Addr × V × (Key × Dv)
def rSortIK (K : PySem.W.Frag) : List V → Hp → VK → Prop := fun vs H Q => ∃ (p a : Addr) (kvs : List (Key × V)) (l : List (Key × Dv)) (G : List Addr), vs = [.ref p] ∧ H p = some (L2.DX.itemsO p a) ∧ Rd H a (.dK kvs) ∧ l.map (·.1) = kvs.map (·.1) ∧ Reps K H (kvs.map (·.2)) (l.map (·.2)) G ∧
  (l.all fun p => okB p.2) = true ∧ sortOk (l.map encP) = true ∧ ∀ (H' : Hp) (la : Addr) (zs : List Bt), Same H H' → H la = none → H' la = some (.lst (zs.map fun z => V.ref z.1)) → zs.map (·.2.2) = l.mergeSort (dataLe false encP) →
    (∀ z ∈ zs, H z.1 = none ∧ H' z.1 = some (.tup [kV z.2.2.1, z.2.1]) ∧ ∃ G1, Rep K H z.2.1 z.2.2.2 G1) → Q (.ref la) H'
theorem each_refs {bs : List Bt} {out : List Value} (h : EachIs (fun v (b : Bt) => v = Value.ref b.1) out bs) : Vals (bs.map fun z => V.ref z.1) out := by
  induction h with
  | nil => exact .nil
  | cons h t ih => subst h; exact .cons rfl ih
theorem cr_sortIK (hc : X.calm = true) (hu : X.A.units + 64 < cLine) : CallR X (.builtin "sorted") (rSortIK X.K) := by
  intro pins s σ H xs us Q I r ⟨p, a, kvs, l, G, e0, hp, ha, el, rr, ok, so, q⟩
  subst e0
  obtain rfl := Vals.ref1 r
  have view : s.heap.IsItemsView p a := (show ObjOk X.prog X.w H s.heap p (L2.DX.itemsO p a) from I.hok p _ hp).1
  obtain ⟨z, hd, vs, kv, o, es, ep, ho, hx, hdat, hkeys, hpr, hnd⟩ := dk_rd I.hok ha
  have l1 : kvs.length = vs.length := Paired.length kv
  have l2 : es.size = vs.length := by rw [← Array.length_toList, hpr.length]
  have l3 : l.length = kvs.length := by rw [← List.length_map (f := (·.1)), el, List.length_map]
  have hh : X.A.handled = none := I.ok.hd hc
  obtain ⟨al, sb, dp⟩ := sortOk_ok so
  refine _root_.DT.sortedI (es := es) (ep := ep) hh view ⟨o, ho, hx, hdat⟩ (by rw [l2, ← l1]; exact z) fun h' tk as hk hlt hl hG => ?_
  have nd : as.Nodup := List.Pairwise.imp (fun h => Nat.ne_of_lt h) hG.rise
  have las : as.length = kvs.length := by omega
  -- the pairs that were made
  have pr : ∀ (j : Nat) (b : Addr) (v : V) (d : Key × Dv), as[j]? = some b → (kvs.map (·.2))[j]? = some v → l[j]? = some d → ∃ (key u : Value), keyIs d.1 key = true ∧ RelV v u ∧ (∃ G1, Rep X.K H v d.2 G1) ∧ h'.get? b = some { cls := .type "tuple", data := .seq #[key, u] } := by
    intro j b v d h1 h2 h3
    obtain ⟨en, he, hg⟩ := hG.pairs j b h1
    obtain ⟨q1, k1, k2, k3⟩ := pairs_get hpr j en (by rw [Array.getElem?_toList]; exact he)
    obtain ⟨y, m1, m2, m3⟩ := L2.DX.pget kv k1
    rw [List.getElem?_map, m1] at h2
    cases h2
    obtain ⟨d', G1, n1, n2⟩ := reps_at rr j y.2 (by rw [List.getElem?_map, m1]; rfl)
    rw [List.getElem?_map, h3] at n1
    cases n1
    have ky : d.1 = y.1 := by
      have e1 : (l.map (·.1))[j]? = some d.1 := by rw [List.getElem?_map, h3]; rfl
      rw [el, List.getElem?_map, m1] at e1
      exact (Option.some.inj e1).symm
    refine ⟨en.key, en.val, ?_, ?_, ⟨_, n2⟩, hg⟩
    · rw [ky, m2]; exact k2
    · rw [k3]; exact m3
  have hob : (h'.push { cls := .type "list", data := .seq (as.map Value.ref).toArray }).get? h'.objs.size = some (seqObj "list" (as.map Value.ref).toArray 0) := Heap.get?_push_size _ rfl
  have kb : ∀ b o, s.heap.get? b = some o → (h'.push { cls := .type "list", data := .seq (as.map Value.ref).toArray }).get? b = some o := fun b o e => Heap.get?_push_of_some _ (hk b o e)
  have ne0 : ∀ b o, h'.get? b = some o → b ≠ h'.objs.size := fun b o e => Nat.ne_of_lt (Heap.lt_size e)
  generalize hh2 : h'.push { cls := .type "list", data := .seq (as.map Value.ref).toArray } = h2 at hob kb ⊢
  have ka : ∀ b o, h'.get? b = some o → h2.get? b = some o := fun b o e => by rw [← hh2]; exact Heap.get?_push_of_some _ e
  have lb : (as.map Value.ref).length = (as.zip ((kvs.map (·.2)).zip l)).length := by
    rw [List.length_map, List.length_zip, List.length_zip, List.length_map]; omega
  have mem3 : ∀ b ∈ as.zip ((kvs.map (·.2)).zip l), ∃ j : Nat, as[j]? = some b.1 ∧ (kvs.map (·.2))[j]? = some b.2.1 ∧ l[j]? = some b.2.2 := fun b hb => zip_get3 hb
  have e2 : (as.zip ((kvs.map (·.2)).zip l)).map (fun b : Bt => encP b.2.2) = l.map encP := by
    show (as.zip ((kvs.map (·.2)).zip l)).map ((encP ∘ Prod.snd) ∘ Prod.snd) = _
    rw [← List.map_map, List.map_snd_zip (by rw [List.length_zip, List.length_map]; omega), ← List.map_map, List.map_snd_zip (by rw [List.length_map]; omega)]
  have read : ∀ b ∈ as.zip ((kvs.map (·.2)).zip l), ∃ cs, Reads h2 (.ref b.1) (encP b.2.2) cs ∧ h'.objs.size ∉ cs := by
    intro b hb
    obtain ⟨j, k1, k2, k3⟩ := mem3 b hb
    obtain ⟨key, u, m1, m2, ⟨G1, m3⟩, m4⟩ := pr j _ _ _ k1 k2 k3
    obtain ⟨p1, hp1, _⟩ := Fd.okB_ok (List.all_eq_true.mp ok b.2.2 (List.mem_of_getElem? k3))
    have e3 : plD b.2.2.2 = p1 := by unfold plD; rw [hp1]; rfl
    obtain ⟨cs, rv⟩ := Dp.reads I p1 _ u (m3.dp hp1) m2
    have rk : Reads h2 key (kP b.2.2.1) [] := by
      rcases keyIs_shape m1 with ⟨i, t, e, rfl⟩ | ⟨x, t, e, rfl⟩
      · rw [e]; exact .int i t
      · rw [e]; exact .str x t
    refine ⟨[] ++ (cs ++ []), ?_, ?_⟩
    · unfold encP
      rw [e3]
      exact Reads.tuple (ka _ _ m4) rfl rfl (.cons rk (.cons (PyProof.Rows.Reads.keeps kb rv) .nil))
    · intro hm
      rw [List.nil_append, List.append_nil] at hm
      obtain ⟨o, ho⟩ := PyProof.On.reads_mem_get rv _ hm
      exact ne0 _ _ (hk _ _ ho) rfl
  refine PySem.W.list_sort_data (s := { s with heap := h2, toks := tk }) (R := fun v (b : Bt) => v = Value.ref b.1) (enc := fun b : Bt => encP b.2.2) (bs := as.zip ((kvs.map (·.2)).zip l)) hob (.of_zip lb fun p hp => ?_) (.of_zip lb fun p hp => ?_) (by rw [e2]; exact al) (by rw [e2]; exact sb) (by rw [← lb, List.length_map, las]; exact z) (fun b hb => ?_) fun out h1 h2' => ?_
  · obtain ⟨j, hj⟩ := List.mem_iff_getElem?.mp hp
    obtain ⟨k1, k2⟩ := List.getElem?_zip_eq_some.mp hj
    obtain ⟨k3, _⟩ := List.getElem?_zip_eq_some.mp k2
    rw [List.getElem?_map, k3] at k1
    exact (Option.some.inj k1).symm
  · obtain ⟨j, hj⟩ := List.mem_iff_getElem?.mp hp
    obtain ⟨k1, k2⟩ := List.getElem?_zip_eq_some.mp hj
    obtain ⟨k3, _⟩ := List.getElem?_zip_eq_some.mp k2
    rw [List.getElem?_map, k3] at k1
    rw [← Option.some.inj k1]
    exact read p.2 (List.mem_of_getElem? k2)
  · obtain ⟨j, k1, k2, k3⟩ := mem3 b hb
    have := dp (encP b.2.2) (List.mem_map.mpr ⟨b.2.2, List.mem_of_getElem? k3, rfl⟩)
    show X.A.units + 1 + 1 + (encP b.2.2).depth < _
    omega
  · show EP X pins σ Q (.ref h'.objs.size) { s with heap := sortedHeap h2 h'.objs.size (as.map Value.ref) out.toArray, toks := tk }
    generalize hzs : (as.zip ((kvs.map (·.2)).zip l)).mergeSort (dataLe false fun b : Bt => encP b.2.2) = zs at h2'
    have mz : ∀ b ∈ zs, b ∈ as.zip ((kvs.map (·.2)).zip l) := fun b hb => by rw [← hzs] at hb; exact List.mem_mergeSort.mp hb
    have ez : zs.map (·.2.2) = l.mergeSort (dataLe false encP) := by
      rw [← hzs]
      refine (PySem.W.sort_maps (r := dataLe false fun b : Bt => encP b.2.2) (s := dataLe false encP) (fun b : Bt => b.2.2) (l := as.zip ((kvs.map (·.2)).zip l)) fun _ _ _ _ => rfl).trans ?_
      congr 1
      show (as.zip ((kvs.map (·.2)).zip l)).map (Prod.snd ∘ Prod.snd) = _
      rw [← List.map_map, List.map_snd_zip (by rw [List.length_zip, List.length_map]; omega), List.map_snd_zip (by rw [List.length_map]; omega)]
    have kF : ∀ b o, b ≠ h'.objs.size → h2.get? b = some o → (sortedHeap h2 h'.objs.size (as.map Value.ref) out.toArray).get? b = some o := fun b o hb e => (PyProof.Rows.sortedHeap_old hb (Heap.lt_size e)).trans e
    have kS : ∀ b o, s.heap.get? b = some o → (sortedHeap h2 h'.objs.size (as.map Value.ref) out.toArray).get? b = some o := fun b o e => kF b o (ne0 _ _ (hk b o e)) (kb b o e)
    obtain ⟨eF, heF⟩ := PyProof.Rows.sortedHeap_at (vs := as.map Value.ref) (out := out.toArray) hob
    have I1 : Inv X pins σ H { s with heap := sortedHeap h2 h'.objs.size (as.map Value.ref) out.toArray, toks := tk } := I.kept (t' := tk) kS
    have hn0 : H h'.objs.size = none := I.hok.fresh (Nat.le_of_lt hlt)
    have hlen : (zs.map fun z => V.ref z.1).length ≤ sizeLine := by
      rw [List.length_map, ← hzs, List.length_mergeSort, ← lb, List.length_map, las]; exact z
    have I2 : Inv X pins σ (upd H h'.objs.size (.lst (zs.map fun z => V.ref z.1))) { s with heap := sortedHeap h2 h'.objs.size (as.map Value.ref) out.toArray, toks := tk } :=
      I1.take (h' := sortedHeap h2 h'.objs.size (as.map Value.ref) out.toArray) (t' := tk) (fun b ob _ e => e) (I.fpOk (Nat.le_of_lt hlt) hn0) ⟨hlen, out, eF, each_refs h2', heF⟩
    obtain ⟨H2, I3, g, qt⟩ := L2.DX.takeT (P := fun b vs => ∃ (j : Nat) (v : V) (d : Key × Dv), as[j]? = some b ∧ (kvs.map (·.2))[j]? = some v ∧ l[j]? = some d ∧ vs = [kV d.1, v]) I as _ I2 nd fun b hb => by
      obtain ⟨j, hj⟩ := List.mem_iff_getElem?.mp hb
      have hj2 := (List.getElem?_eq_some_iff.mp hj).1
      obtain ⟨v, k2⟩ : ∃ v, (kvs.map (·.2))[j]? = some v := ⟨_, List.getElem?_eq_getElem (by rw [List.length_map]; omega)⟩
      obtain ⟨d, k3⟩ : ∃ d, l[j]? = some d := ⟨_, List.getElem?_eq_getElem (by omega)⟩
      obtain ⟨key, u, m1, m2, _, m4⟩ := pr j _ _ _ hj k2 k3
      have hbl : s.heap.objs.size ≤ b := Nat.le_of_lt (hG.above b hb)
      have rk : RelV (kV d.1) key := by
        rcases keyIs_shape m1 with ⟨i, t, e, rfl⟩ | ⟨x, t, e, rfl⟩
        · rw [e]; exact ⟨t, rfl⟩
        · rw [e]; exact ⟨t, rfl⟩
      refine ⟨hbl, ?_, [kV d.1, v], ⟨j, _, _, hj, k2, k3, rfl⟩, fun H3 => ⟨(by rw [sizeLine_eq]; show 2 ≤ 16777216; omega), [key, u], .cons rk (.cons m2 .nil), ⟨_, kF _ _ (ne0 _ _ m4) (ka _ _ m4), rfl, 0, rfl⟩⟩⟩
      rw [upd_ne (ne0 _ _ m4)]
      exact I.hok.fresh hbl
    have gr : ∀ b o, H b = some o → H2 b = some o := fun b o e => g b o (by rw [upd_ne (ne_of_none e hn0)]; exact e)
    refine ⟨.ref h'.objs.size, H2, I3, rfl, q H2 h'.objs.size zs gr hn0 (g _ _ upd_same) ez fun b hb => ?_⟩
    obtain ⟨j, k1, k2, k3⟩ := mem3 b (mz b hb)
    obtain ⟨vs2, ⟨i, v, d, j1, j2, j3, ev⟩, hH⟩ := qt b.1 (List.mem_of_getElem? k1)
    have eij : i = j := (List.getElem?_inj (List.getElem?_eq_some_iff.mp j1).1 nd).mp (j1.trans k1.symm)
    subst eij
    rw [k2] at j2; cases j2
    rw [k3] at j3; cases j3
    subst ev
    obtain ⟨_, _, _, _, m3, m4⟩ := pr i _ _ _ k1 k2 k3
    exact ⟨I.hok.fresh (Nat.le_of_lt (hG.above _ (List.mem_of_getElem? k1))), hH, m3⟩
end
end Fh
namespace Fh
open PySem PySem.Spec PyProof.Rows L2 RZ
open PySem.W (AllAlike Sortable dataLe EachIs)
open Fd (Dv Rep Reps kD gK pK pyD eqA ltA hnl lackD Mk StD stD stLt plD okB OpD rEqA same_new addD CallD)
variable {P : Addr → Prop}
section
variable {X : Cx} {K : PySem.W.Frag} {o e : Expr} {to : TE} {name : Str} {apos cpos : Pos} {id : String} {r : V → List V → Hp → VK → Prop} {ma : ME}
/-- a method without arguments of a dict, walked just now or not -/
def tDM0 (r : V → List V → Hp → VK → Prop) (to : TE) : TE := fun σ H Q => to σ H fun x H1 => (∃ (a : Addr) (kvs : List (Key × V)), x = .ref a ∧ Rd H1 a (.dK kvs)) ∧ r x [] H1 Q
theorem pe_dm0 (pa : PySem.PlainAttrs "dict") (slot : PySem.Slot "dict" name id) (hty : typeOf (.builtin id) = pure (.type "method_descriptor")) (hm : MtR X id r) (ho : PE X o to)
    (hbase : attributeBase o name X.env (eval o X.env) = eval o X.env := by rfl) (hline : (apos.endLine == cpos.line) = true := by rfl) : PE X (.Call (.Attribute o name apos) [] [] cpos) (tDM0 r to) := by
  refine ⟨fun pins s σ H Q I h => ?_⟩
  refine wpAny_Call_method0_late hbase hline (L2.thn (ho.run pins s σ H _ I h) fun v s1 ⟨x, H1, I1, r1, ⟨a, kvs, e1, e2⟩, q1⟩ => ?_)
  subst e1
  cases (show v = Value.ref a from r1)
  obtain ⟨_, _, _, _, ob, _, _, k1, k2, _⟩ := dk_rd I1.hok e2
  exact ⟨"dict", id, pa, slot, hty, ⟨ob, k1, k2.1⟩, fun b z => by cases z; exact ⟨ob, k1, k2.2.1⟩, PySem.Calls.callWith_builtin rfl (PySem.evalArgs_none (hm pins s1 σ H1 (.ref a) [] (.ref a) [] Q I1 r1 .nil q1))⟩
def sortIt : Dv → Option Dv
  | .dct l => if (Dv.purs (l.map (·.2)) && (l.all fun p => okB p.2) && sortOk (l.map encP)) = true then some (.lst ((l.mergeSort (dataLe false encP)).map fun p => .tup [kD p.1, p.2])) else none
  | _ => none
def vSrtI (m : ME) : ME := fun env h => (m env h).bind fun (x, h1) => (snap 8 h1 x).bind fun d => (sortIt d).bind fun r => some (.d r, h1)
theorem reps_bt {H H' : Hp} (sm : Same H H') : ∀ {zs : List Bt}, (∀ z ∈ zs, H' z.1 = some (.tup [kV z.2.2.1, z.2.1]) ∧ (∃ G1, Rep K H z.2.1 z.2.2.2 G1) ∧ z.2.2.2.pur = true) → Reps K H' (zs.map fun z => V.ref z.1) (zs.map fun z => .tup [kD z.2.2.1, z.2.2.2]) []
  | [], _ => .nil
  | z :: zs, h => by
    obtain ⟨h1, ⟨G1, h2⟩, h3⟩ := h z List.mem_cons_self
    have g := h2.purG h3
    subst g
    have h4 : Rep K H' z.2.1 z.2.2.2 [] := h2.step (M := fun _ => False) (.same sm) fun _ _ y => y
    exact .cons (G := []) (G' := []) (.tup (.inl h1) (.cons (G := []) (G' := []) (Fd.rep_key _) (.cons (G := []) (G' := []) h4 .nil))) (reps_bt sm fun y hy => h y (List.mem_cons_of_mem _ hy))
theorem he_srtI (p : PE X e (tCB (rSortIK X.K) (tCons (tDM0 rItemsK (rE X.K ma)) tNil))) : HE X e (vSrtI ma) := pe_weak p fun σ H Q ⟨P, μ, env, h, z, h', rl, er, e, q⟩ => by
  obtain ⟨⟨x, h1⟩, e1, e⟩ := bs e
  obtain ⟨d, e2, e⟩ := bs e
  obtain ⟨d2, e3, e⟩ := bs e
  cases e
  refine rE_to rl er e1 fun μ1 H1 v rl1 s1 er1 v1 => ?_
  obtain ⟨G, rr, _⟩ := snap_rep rl1 8 _ _ _ v1 e2
  unfold sortIt at e3
  split at e3
  · rename_i l
    obtain ⟨c, e3⟩ := ifs e3
    cases e3
    obtain ⟨c12, c3⟩ := Bool.and_eq_true_iff.mp c
    obtain ⟨c1, c2⟩ := Bool.and_eq_true_iff.mp c12
    cases rr with
    | @dct a kvs _ g ha el ra =>
      refine ⟨⟨a, kvs, rfl, ha⟩, a, kvs, rfl, rfl, ha, fun p hp => ?_⟩
      have sm1 : Same H1 (upd H1 p (L2.DX.itemsO p a)) := same_new hp
      have st : Fd.Stp (fun _ => False) H1 (upd H1 p (L2.DX.itemsO p a)) := .same sm1
      refine ⟨p, a, kvs, l, g, rfl, upd_same, Fd.rd_step ha st id, el, ra.step (M := fun _ => False) st fun _ _ y => y, c2, c3, fun H3 la zs sm hla hl ez mem => ?_⟩
      have sm2 : Same H1 H3 := fun b u hb => sm b u (sm1 b u hb)
      have hla1 : H1 la = none := by
        cases hq : H1 la with
        | none => rfl
        | some u => rw [sm1 la u hq] at hla; cases hla
      have pz : ∀ z ∈ zs, z.2.2 ∈ l := fun z hz => by
        have : z.2.2 ∈ zs.map (·.2.2) := List.mem_map.mpr ⟨z, hz, rfl⟩
        rw [ez] at this
        exact List.mem_mergeSort.mp this
      have rz : Reps X.K H3 (zs.map fun z => V.ref z.1) (zs.map fun z => .tup [kD z.2.2.1, z.2.2.2]) [] := reps_bt sm fun z hz => ⟨(mem z hz).2.1, (mem z hz).2.2, by
        rw [Fd.purs_all, List.all_map] at c1
        exact List.all_eq_true.mp c1 _ (pz z hz)⟩
      have em : (l.mergeSort (dataLe false encP)).map (fun p => Dv.tup [kD p.1, p.2]) = zs.map fun z => .tup [kD z.2.2.1, z.2.2.2] := by
        rw [← ez, List.map_map]; rfl
      refine q μ1 H3 _ (rl1.same sm2) (s1.trans (.same rl1 sm2)) (.d (G := [la]) ?_ fun x m => ?_)
      · rw [em]; exact .lst hl rz
      · rcases List.mem_cons.mp m with rfl | m
        · exact fun z => rl1.has z hla1
        · cases m
  · cases e3
theorem hs_asg0 {X : Cx} {s : Stmt} {m : ME} {g : MG} {ws : List Nat} (p : PS X s (tAsg (rE X.K m) (rG X.K ws g))) : HS X s (sAsg m g) := hs_asg (e := .Name "x" ⟨0, 0, 0, 0⟩) p
end
end Fh
namespace Fd
open PySem PySem.Spec PyProof.Rows L2 RZ
open PySem.SeqAt
/-! ### != of tuples, the items' == told within one model -/
section
variable {pg : Program} {wd : World}
theorem tupNe_in (a b : Addr) (us vs : Array Value) (n m : Nat) (da db : Option Addr) (sa sb : Array (Option Value)) (ev : Nat → Bool) :
    MeetsIn pg wd (Builtin.«tuple.__ne__» ⟨[.ref a, .ref b], []⟩)
      (fun A R s => s.heap.get? a = some { cls := .type "tuple", dict := da, data := .seq us n, slots := sa } ∧ s.heap.get? b = some { cls := .type "tuple", dict := db, data := .seq vs m, slots := sb } ∧
        (∀ j (p : j < us.size) (q : j < vs.size), EqP pg wd A.in1 s us[j] vs[j] (ev j)) ∧
        R (.ok (.ret (.bool (!((List.range (min us.size vs.size)).all ev && us.size == vs.size))))) s) := by
  intro A R s hyp
  obtain ⟨hp, g, d, tk, os⟩ := s
  obtain ⟨ea, eb, items, fin⟩ := hyp
  have sub := AutoSeq1.sub_tuple_tuple
  have len : (us.toList.zip vs.toList).length = min us.size vs.size := by simp
  wp_walk using wpAny_loadPart' ea, wpAny_loadPart' eb, wpAny_forIn_list _ (fun left b s2 => b.1 = none ∧ s2 = ⟨hp, g, d, tk, os⟩ ∧ ∃ i, left = (us.toList.zip vs.toList).drop i ∧
    R (.ok (.ret (.bool (!(((List.range (min us.size vs.size)).drop i).all ev && us.size == vs.size))))) ⟨hp, g, d, tk, os⟩) _
  case turn =>
    rintro ⟨y, x⟩ rest st s2 ⟨hb', rfl, i, at_, res⟩
    have lt : i < (us.toList.zip vs.toList).length := Nat.lt_of_not_le fun z => by
      rw [List.drop_of_length_le z] at at_; cases at_
    have lm : i < min us.size vs.size := by rw [← len]; exact lt
    have lu : i < us.size := Nat.lt_of_lt_of_le lm (Nat.min_le_left ..)
    have lv : i < vs.size := Nat.lt_of_lt_of_le lm (Nat.min_le_right ..)
    rw [List.drop_eq_getElem_cons lt] at at_
    obtain ⟨e1, e2⟩ := List.cons.inj at_
    have ey : y = us[i] := by simpa using congrArg Prod.fst e1
    have ex : x = vs[i] := by simpa using congrArg Prod.snd e1
    subst ey ex
    rw [show (List.range (min us.size vs.size)).drop i = i :: (List.range (min us.size vs.size)).drop (i + 1) by simp [List.drop_eq_getElem_cons, lm], List.all_cons] at res
    refine wpAny_bind (items i lu lv _ _ ?_)
    cases c : ev i <;> rw [c] at res <;> wp_walk
    · simpa using res
    · exact ⟨rfl, rfl, i + 1, e2, by simpa using res⟩
  case fin =>
    rintro ⟨st1, st2⟩ s2 ⟨none_, rfl, i, at_, res⟩
    have none_ : st1 = none := none_
    subst none_
    have ge : min us.size vs.size ≤ i := Nat.le_of_not_lt fun z => by
      rw [List.drop_eq_getElem_cons (by rw [len]; exact z)] at at_; cases at_
    rw [List.drop_of_length_le (by rw [List.length_range]; exact ge)] at res
    wp_walk
    simpa [Builtin.Tuple.tupleCompareSizes, bne] using res
  case h => exact ⟨rfl, rfl, 0, rfl, by simpa using fin⟩
theorem rcP_tupsNe {A : Around} {s : Shared} {a b : Addr} {us vs : Array Value} {ev : Nat → Bool} (ha : s.heap.IsTuple a us) (hb : s.heap.IsTuple b vs) (room : A.units < cLine)
    (items : ∀ j (p : j < us.size) (q : j < vs.size), EqP pg wd A.in1 s us[j] vs[j] (ev j)) (E Q : Value → Shared → Prop) (fin : Q (.bool (!((List.range (min us.size vs.size)).all ev && us.size == vs.size))) s) : wpAny (model pg wd) A (richCompare .NotEq (.ref a) (.ref b)) Q E s := by
  obtain ⟨⟨c1, d1, t1, l1⟩, o1, k1, n1, e1⟩ := ha
  obtain ⟨⟨c2, d2, t2, l2⟩, o2, k2, n2, e2⟩ := hb
  simp only at k1 e1 k2 e2
  subst k1 e1 k2 e2
  have y1 : s.TypeIs (.ref a) "tuple" := ⟨_, o1, rfl⟩
  have y2 : s.TypeIs (.ref b) "tuple" := ⟨_, o2, rfl⟩
  exact wpAny_richCompare_same_room (op := .NotEq) y1 y2 F.slot_tuple_ne (call_meetsIn F.slot_tuple_ne y1 F.entry_tuple_ne (F.args_tuple_ne_2 _ _) (tupNe_in a b us vs n1 n2 d1 d2 l1 l2 ev)
    ⟨o1, o2, items, (fun z => nomatch z), fin⟩) room
end
end Fd
namespace Fh
open PySem PySem.Spec PyProof.Rows L2 RZ
open PySem.SeqAt
open Fd (Dv Rep Reps kD gK pK pyD eqA ltA hnl lackD Mk StD stD stLt plD okB OpD rEqA rNeA CallD PE_or)
def rNeZ (K : PySem.W.Frag) : R2 := fun x y H Q => ∃ xs ys G1 G2, Rep K H x (.tup xs) G1 ∧ Rep K H y (.tup ys) G2 ∧ eqYs (eqY 8) xs ys = true ∧ Q (.bl false) H
theorem op_neZ {X : Cx} (hu : X.A.units + 65 < cLine) : OpR X (compareOp .NotEq) (rNeZ X.K) := by
  intro pins s σ H x y v u Q I rx ry ⟨xs, ys, G1, G2, r1, r2, h, q⟩
  have ih := eqY_ok I 8 X.A.in1 (by show X.A.units + 1 + 8 + 41 < _; omega)
  cases r1 with
  | @tup a1 vs1 _ _ ha rl =>
    cases r2 with
    | @tup a2 vs2 _ _ hb rm =>
      cases rx
      cases ry
      obtain ⟨i1, rv1, t1, _⟩ := I.tuple ha.sq
      obtain ⟨i2, rv2, t2, _⟩ := I.tuple hb.sq
      have ln : i1.length = i2.length := by rw [← Vals.length rv1, ← Vals.length rv2, reps_ln rl, reps_ln rm]; exact eqYs_len h
      have z : wpAny (model X.prog X.w) X.A (richCompare .NotEq (.ref a1) (.ref a2)) (EP X pins σ Q) X.xe s := Fd.rcP_tupsNe (us := i1.toArray) (vs := i2.toArray) (ev := fun _ => true) t1 t2 (by omega) (fun j p q => by
        obtain ⟨v1, w1, w2⟩ := vals_at rv1 j _ (by simpa using List.getElem?_eq_getElem (l := i1) (i := j) (by simpa using p))
        obtain ⟨v2, w3, w4⟩ := vals_at rv2 j _ (by simpa using List.getElem?_eq_getElem (l := i2) (i := j) (by simpa using q))
        obtain ⟨d1, g1, k1, k2⟩ := reps_at rl j _ w1
        obtain ⟨d2, g2, k3, k4⟩ := reps_at rm j _ w3
        exact ih _ _ _ _ _ _ _ _ (eqYs_get h j _ _ k1 k3) k2 k4 w2 w4) _ _ (by
          rw [all_true, show (i1.toArray.size == i2.toArray.size) = true from by rw [List.size_toArray, List.size_toArray, ln]; exact beq_self_eq_true _]
          exact ⟨.bl _, H, I, rfl, q⟩)
      exact z
def neZ : Dv → Dv → Option Dv
  | .tup xs, .tup ys => if eqYs (eqY 8) xs ys = true then some (.bl false) else none
  | _, _ => none
theorem opD_neZ {K : PySem.W.Frag} : OpD K (rNeZ K) true neZ := fun H x y d1 d2 d G1 G2 Q r1 r2 e q => by
  unfold neZ at e
  split at e
  · obtain ⟨c, e⟩ := ifs e
    cases e
    exact ⟨_, _, G1, G2, r1, r2, c, q _ H [] (.refl H) (.bl _) (fun b k => (nomatch k)) fun _ _ => ⟨.nil, fun a m => (nomatch m)⟩⟩
  · cases e
def neX (d e : Dv) : Option Dv := (eqA true d e).or (neZ d e)
def rNeX (K : PySem.W.Frag) : R2 := fun x y H Q => rNeA K x y H Q ∨ rNeZ K x y H Q
theorem op_neX {X : Cx} (hu : X.A.units + 65 < cLine) : OpR X (compareOp .NotEq) (rNeX X.K) := (Fd.op_neA hu).or (op_neZ hu)
theorem opD_neX {K : PySem.W.Frag} : OpD K (rNeX K) true neX := OpD.or Fd.opD_neA opD_neZ
theorem neX_of {d e b : Dv} (h : eqA true d e = some b) : neX d e = some b := by unfold neX; rw [h]; rfl
theorem x_ne {a b : Int} : neX (.int a) (.int b) = some (.bl (!decide (a = b))) := neX_of r_ne
theorem x_ne_bl {a b : Bool} : neX (.bl a) (.bl b) = some (.bl (!decide (a = b))) := neX_of r_ne_bl
variable {P : Addr → Prop}
section
variable {X : Cx} {K : PySem.W.Frag} {a b c e tg : Expr} {es : List Expr} {pos : Pos} {ma mb mc me : ME} {ta tb : MT} {mr : MA}
/-! ### x.clear() of a list, a dict -/
def vClear (m : ME) : ME := fun env h => (m env h).bind fun (x, h1) => match lstM x h1 with
  | some (n, _) => some (.d .non, h1.set n (.lv (.lst [])))
  | none => (dK_at x h1).bind fun (n, _) => some (.d .non, h1.set n (.lv (.dK [])))
theorem he_clear (p1 : PE X e (tBM0 X.K "dict" rDClear (rE X.K ma))) (p2 : PE X e (tBM0 X.K "list" rClear (rE X.K ma))) : HE X e (vClear ma) := pe_weak (PE_or p1 p2) fun σ H Q ⟨P, μ, env, h, z, h', rl, er, e, q⟩ => by
  obtain ⟨⟨x, h1⟩, e1, e⟩ := bs e
  dsimp only at e
  split at e
  · rename_i n xs e3
    cases e
    refine .inr (rE_to rl er e1 fun μ1 H1 v rl1 s1 er1 v1 => ?_)
    obtain ⟨a, vs, rfl, hn, rfl, hm, hH, rs⟩ := lstM_rv rl1 v1 e3
    refine ⟨.inl ⟨rfl, _, SqL.of hH⟩, a, vs, rfl, rfl, hH, ?_⟩
    obtain ⟨rl3, s3⟩ := rl1.wr hn hm (b' := .lst []) (.lst .nil)
    exact q μ1 _ .non rl3 (s1.trans s3) (.d .non fun a m => (nomatch m))
  · obtain ⟨⟨n, l⟩, e3, e⟩ := bs e
    cases e
    refine .inl (rE_to rl er e1 fun μ1 H1 v rl1 s1 er1 v1 => ?_)
    obtain ⟨a, ks, rfl, hn, rfl, hm, hH, ek, rs⟩ := dK_at_rv rl1 v1 e3
    refine ⟨.inr (.inr (.inl ⟨rfl, .inl ⟨_, hH⟩⟩)), a, ks, rfl, rfl, hH, ?_⟩
    obtain ⟨rl3, s3⟩ := rl1.wr hn hm (b' := .dK []) (.dK (ks := []) rfl .nil)
    exact q μ1 _ .non rl3 (s1.trans s3) (.d .non fun a m => (nomatch m))
end
end Fh
namespace PySem
open Sem (wp)
section
variable {prog : Program} {w : World} {A : Around} {E : Value → Shared → Prop} {s : Shared}
theorem fi_max_twoH {a b : Value} {Q : Value → Shared → Prop}
    (h : wpAny (model prog w) A.in1 (pyIter (.ref s.heap.objs.size)) (fun it s₂ => ∃ I fp wr G n P St H bt, it = .ref I ∧ WalksS prog w A.in1 I fp wr G n P St ∧ St 0 s₂ ∧ (∀ b ∈ fp, b < s₂.heap.objs.size) ∧ 0 < n ∧
      (∀ b o, H.get? b = some o → b ∉ wr) ∧ (∀ b o, H.get? b = some o → s₂.heap.get? b = some o) ∧ CmpIn prog w A.in1 .Gt H P bt ∧ ∀ v s', P (argBest bt (n - 1)) v → Moved wr G s₂ s' → Q v s') E
      { s with heap := s.heap.push { cls := .type "tuple", data := .seq #[a, b] } }) :
    wpAny (model prog w) A (call (.builtin "max") [a, b]) Q E s := by
  have hname : (toString "max" ++ toString ".loop" : String) = "max.loop" := by decide
  refine call_function_tree F.kind_max F.plain_max F.entry_max (F.args_max2 _ _) ?_
  show wpAny _ A.in1 (Builtin.Builtins.bindParams "max" ["key", "default"] 0 ⟨[], []⟩ >>= _) _ _ s
  refine wpAny_bind (wpAny_of_eq (show Builtin.Builtins.bindParams "max" ["key", "default"] 0 ⟨[], []⟩ = pure [none, none] from rfl) ?_)
  show wpAny _ A.in1 (newTuple [a, b] >>= _) _ _ s
  refine wpAny_bind (wpAny_newObj_type ?_)
  refine wpAny_bind (wpAny_mono h (fun it s₂ h₂ => ?_) fun _ _ e => e)
  obtain ⟨I, fp, wr, G, n, P, St, H, bt, rfl, W, hst, hfp, hn, hw, hkeep, hcmp, hQ⟩ := h₂
  refine wpAny_bind (wpAny_newObj_type ?_)
  have hSf : s₂.heap.objs.size ∉ fp := fun hm => Nat.lt_irrefl _ (hfp _ hm)
  rw [hname]
  refine wpAny_pure ⟨plainId_quiet F.plain_max_loop _, codeAny_max_loop_firstH W H hw bt hcmp s₂.heap.objs.size hSf (fresh_in hkeep) _ hn (fun b o e => Heap.get?_push_of_some _ (hkeep b o e)) (W.frame 0 s₂ _ s₂.toks hst (Nat.le_refl _) fun b _ o e => Heap.get?_push_of_some _ e) (Heap.get?_push_size _ rfl) fun v s' hP hm => ?_⟩
  exact hQ v s' hP (Moved.drop_new (tk := s₂.toks) hm (Nat.le_refl _))
open PySem.W in
theorem fi_max_two_data {a b : Value} {d e : PyData} {as bs : List Addr} {Q : Value → Shared → Prop} (hh : A.handled = none) (ra : Reads s.heap a d as) (rb : Reads s.heap b e bs) (ha : AlikeAll [d, e]) (hu : A.units + 1 + PyData.depthAll [d, e] < cLine)
    (h : ∀ h' tk, (∀ b o, s.heap.get? b = some o → h'.get? b = some o) → Q (if dataLt d e = true then b else a) { s with heap := h', toks := tk }) :
    wpAny (model prog w) A (call (.builtin "max") [a, b]) Q E s := by
  have kp : ∀ (c : Addr) (o : Obj), s.heap.get? c = some o → (s.heap.push { cls := .type "tuple", data := .seq #[a, b] }).get? c = some o := fun c o e => Heap.get?_push_of_some _ e
  have hl : (s.heap.push { cls := .type "tuple", data := .seq #[a, b] }).IsTuple s.heap.objs.size #[a, b] := ⟨_, Heap.get?_push_size _ rfl, rfl, 0, rfl⟩
  have hr : ReadsAll (s.heap.push { cls := .type "tuple", data := .seq #[a, b] }) (#[a, b] : Array Value).toList [d, e] (as ++ (bs ++ [])) := .cons (PyProof.Rows.Reads.keeps kp ra) (.cons (PyProof.Rows.Reads.keeps kp rb) .nil)
  refine fi_max_twoH (iter_tupleW (s := { s with heap := s.heap.push { cls := .type "tuple", data := .seq #[a, b] } }) (A := A.in1) hh hl fun s₂ e0 W st hfp hw hk => ?_)
  refine ⟨_, _, _, _, _, _, _, s.heap.push { cls := .type "tuple", data := .seq #[a, b] }, _, rfl, W, st, hfp, (Nat.succ_pos 1 : 0 < 2), hw, hk, cmpIn_gt (s := { s with heap := s.heap.push { cls := .type "tuple", data := .seq #[a, b] } }) (A := A.in1) hr ha (by show A.units + 1 + _ < _; exact hu), fun v s' hP m => ?_⟩
  obtain ⟨h', tk, rfl, hk'⟩ := moved_old (s := { s with heap := s.heap.push { cls := .type "tuple", data := .seq #[a, b] } }) e0 rfl m
  have ev : v = if dataLt d e = true then b else a := by
    have hP : (#[a, b] : Array Value)[argBest (fun i j => dataLt ([d, e].getD j .none) ([d, e].getD i .none)) 1]? = some v := hP
    by_cases c : dataLt d e = true
    · have e1 : argBest (fun i j => dataLt ([d, e].getD j .none) ([d, e].getD i .none)) 1 = 1 := by
        show (if dataLt d e = true then 1 else 0) = 1
        rw [if_pos c]
      rw [e1] at hP
      rw [if_pos c]
      exact (Option.some.inj hP).symm
    · have e1 : argBest (fun i j => dataLt ([d, e].getD j .none) ([d, e].getD i .none)) 1 = 0 := by
        show (if dataLt d e = true then 1 else 0) = 0
        rw [if_neg c]
      rw [e1] at hP
      rw [if_neg c]
      exact (Option.some.inj hP).symm
  subst ev
  exact h h' tk fun c o e => hk' c o (kp c o e)
end
end PySem
namespace Fh
open PySem PySem.Spec PyProof.Rows L2 RZ
open PySem.W (AllAlike Sortable dataLe EachIs AlikeAll dataLt)
open Fd (Dv Rep Reps kD gK pK pyD eqA ltA hnl lackD Mk StD stD stLt plD okB OpD rEqA rNeA CallD PE_or CallR_or same_new minmaxD tyN listD)
/-! ### max of two data -/
def mx2B : List Dv → Option Dv
  | [d, e] => if (okB d && okB e && alikeB [plD d, plD e] && (atB (plD d) || tupB (plD d)) && (atB (plD e) || tupB (plD e)) && decide ((plD d).depth ≤ 20) && decide ((plD e).depth ≤ 20) && d.pur && e.pur) = true then some (if dataLt (plD d) (plD e) = true then e else d) else none
  | _ => none
def rMx2 (K : PySem.W.Frag) : List V → Hp → VK → Prop := fun vs H Q => ∃ (x y : V) (d e : PyData), vs = [x, y] ∧ Dp K H x d ∧ Dp K H y e ∧ AlikeAll [d, e] ∧ d.depth ≤ 20 ∧ e.depth ≤ 20 ∧ Q (if dataLt d e = true then y else x) H
theorem call_mx2 {X : Cx} (hc : X.calm = true) (hu : X.A.units + 64 < cLine) : CallR X (.builtin "max") (rMx2 X.K) := by
  intro pins s σ H vs us Q I r ⟨x, y, d, e, e0, hx, hy, al, d1, d2, q⟩
  subst e0
  obtain ⟨u, w', rfl, r1, r2⟩ := vals2 r
  obtain ⟨as, k1⟩ := Dp.reads I d x u hx r1
  obtain ⟨bs, k2⟩ := Dp.reads I e y w' hy r2
  refine fi_max_two_data (I.ok.hd hc) k1 k2 al ?_ fun h' tk k => ⟨_, H, I.kept k, ?_, q⟩
  · have : PyData.depthAll [d, e] ≤ 20 := by
      show max d.depth (max e.depth 0) ≤ 20
      omega
    omega
  · by_cases c : dataLt d e = true
    · rw [if_pos c, if_pos c]; exact r2
    · rw [if_neg c, if_neg c]; exact r1
theorem callD_mx2 {K : PySem.W.Frag} : CallD K (rMx2 K) true mx2B := fun H vs ds d G Q r e q => by
  unfold mx2B at e
  split at e
  · rename_i d1 d2
    obtain ⟨c, e⟩ := ifs e
    cases e
    simp only [Bool.and_eq_true, decide_eq_true_eq] at c
    obtain ⟨⟨⟨⟨⟨⟨⟨⟨c1, c2⟩, c3⟩, c4⟩, c5⟩, c6⟩, c7⟩, c8⟩, c9⟩ := c
    cases r with
    | cons ra rt =>
      cases rt with
      | cons rb rt =>
        cases rt
        obtain ⟨p1, hp1, s1⟩ := Fd.okB_ok c1
        obtain ⟨p2, hp2, s2⟩ := Fd.okB_ok c2
        have e1 : plD d1 = p1 := by unfold plD; rw [hp1]; rfl
        have e2 : plD d2 = p2 := by unfold plD; rw [hp2]; rfl
        have nn : ∀ p : PyData, (atB p || tupB p) = true → p ≠ .none := fun p h z => by subst z; cases h
        refine ⟨_, _, plD d1, plD d2, rfl, e1 ▸ ra.dp hp1, e2 ▸ rb.dp hp2, ⟨fun x hx y hy => ?_, fun x hx => ?_⟩, c6, c7, ?_⟩
        · have h1 := List.all_eq_true.mp c3 x hx
          exact List.all_eq_true.mp h1 y hy
        · rcases List.mem_cons.mp hx with rfl | hx
          · exact nn _ c4
          · rcases List.mem_cons.mp hx with rfl | hx
            · exact nn _ c5
            · cases hx
        · by_cases c : dataLt (plD d1) (plD d2) = true
          · rw [if_pos c]; rw [if_pos c] at q
            rw [rb.purG c9] at rb
            exact q _ H [] (.refl H) rb (fun b k => (nomatch k)) fun _ _ => ⟨.nil, fun a m => (nomatch m)⟩
          · rw [if_neg c]; rw [if_neg c] at q
            rw [ra.purG c8] at ra
            exact q _ H [] (.refl H) ra (fun b k => (nomatch k)) fun _ _ => ⟨.nil, fun a m => (nomatch m)⟩
  · cases e
def maxX (ds : List Dv) : Option Dv := (minmaxD maxI ds).or (mx2B ds)
theorem call_maxX {X : Cx} (hc : X.calm = true) (hu : X.A.units + 64 < cLine) : CallR X (.builtin "max") (fun vs H Q => (∃ i j, vs = [.int i, .int j] ∧ Q (.int (maxI i j)) H) ∨ rMx2 X.K vs H Q) := CallR_or (call_max2 hc) (call_mx2 hc hu)
theorem callD_maxX {K : PySem.W.Frag} : CallD K (fun vs H Q => (∃ i j, vs = [.int i, .int j] ∧ Q (.int (maxI i j)) H) ∨ rMx2 K vs H Q) true maxX := fun H vs ds d G Q r e q => by
  unfold maxX at e
  cases h : minmaxD maxI ds with
  | some z =>
    rw [h] at e
    cases e
    exact .inl (Fd.callD_mm H vs ds d G Q r h q)
  | none =>
    rw [h] at e
    exact .inr (callD_mx2 H vs ds d G Q r e q)
/-! ### recursion: the def without fuel -/
theorem ok_none {P : Program} {w : World} {K : PySem.W.Frag} {mg : Str → Option Value} {base : Heap} {CX : CXT} {k n : Nat} {f : Addr} {fd : FuncData} {ps : List Str} : FnOk P w K mg base CX k f fd ps (spI K n fun _ _ => none) :=
  ⟨fun vs H Q E ⟨_, _, _, _, _, _, _, _, _, e, _⟩ => (nomatch e), fun A outer s H args us vs Q E hr he hb hv ⟨_, _, _, _, _, _, _, _, _, e, _⟩ => (nomatch e)⟩
/-! ### isinstance(x, (S, T)) -/
def isT2 (S T : String) (d : Dv) : Option Bool := match d with
  | .dctT _ => none
  | d => (tyN d).bind fun n => match kitB n S with
    | some true => some true
    | some false => kitB n T
    | none => none
section
variable {X : Cx} {K : PySem.W.Frag} {a b c e tg : Expr} {es : List Expr} {pos : Pos} {ma mb mc me : ME} {ta tb : MT} {mr : MA} {P : Addr → Prop}
def vIsi2 (S T : String) (m : ME) : ME := fun env h => (m env h).bind fun (x, h1) => (snap 8 h1 x).bind fun d => (isT2 S T d).bind fun b => some (.d (.bl b), h1)
theorem he_isi2 {S T : String} (p : PE X e (tCB (rIsiT X.K) (tCons (rE X.K ma) (tCons (tTup (tCons (tC (.ty S)) (tCons (tC (.ty T)) tNil))) tNil)))) : HE X e (vIsi2 S T ma) := pe_weak p fun σ H Q ⟨P, μ, env, h, z, h', rl, er, e, q⟩ => by
  obtain ⟨⟨x, h1⟩, e1, e⟩ := bs e
  obtain ⟨d, e2, e⟩ := bs e
  obtain ⟨b, e3, e⟩ := bs e
  cases e
  refine rE_to rl er e1 fun μ1 H1 v rl1 s1 er1 v1 => ?_
  obtain ⟨G, rr, _⟩ := snap_rep rl1 8 v x d v1 e2
  refine ⟨(sz_2 : 2 ≤ sizeLine), fun p hp => ?_⟩
  have sm : Same H1 (upd H1 p (.tup [.ty S, .ty T])) := same_new hp
  have rr2 := rr.step (M := fun _ => False) (.same sm) fun _ _ z => z
  have nt : ∀ l, d ≠ .dctT l := fun l z => by subst z; cases e3
  have e3' : ((tyN d).bind fun n => match kitB n S with
    | some true => some true
    | some false => kitB n T
    | none => none) = some b := by
    unfold isT2 at e3
    split at e3
    · cases e3
    · exact e3
  obtain ⟨n, k1, k2⟩ := bs e3'
  have kk : PySem.W.kitAny X.K (.type n) [.type S, .type T] = some b := by
    split at k2
    · rename_i z
      cases k2
      exact kitAny_cons (kit_ty z) (fun z => nomatch z) fun _ => rfl
    · rename_i z
      refine kitAny_cons (kit_ty z) (fun _ => ?_) (fun z => nomatch z)
      exact kitAny_cons (kit_ty k2) (fun z => by subst z; rfl) fun z => z
    · cases k2
  rcases rr2.tyX k1 with z | ⟨rfl, a0, ob, kvs, rfl, z⟩
  · refine ⟨v, p, [.ty S, .ty T], .type n, [.type S, .type T], b, rfl, upd_same, .cons (.ty S) (.cons (.ty T) .nil), z, kk, ?_⟩
    exact q μ1 _ (.bl b) (rl1.same sm) (s1.trans (Sp.same rl1 sm)) (.d (.bl b) fun a m => (nomatch m))
  · exfalso
    cases rr2 with
    | @dct a ks l g ha el rl => rcases ha with ha | ⟨o, ha⟩ <;> (rw [z] at ha; cases ha)
    | dctT e _ _ => exact nt _ rfl
    | _ => simp [tyN] at k1
end
/-! ### list(d), sorted(d) -/
def listX (ds : List Dv) : Option Dv := match ds with
  | [.dct l] => some (.lst (l.map fun p => kD p.1))
  | ds => listD ds
def rListX (K : PySem.W.Frag) : List V → Hp → VK → Prop := fun xs H Q => (∃ p ys, xs = [.ref p] ∧ (SqL K H p ys ∨ SqT K H p ys) ∧ ∀ l, H l = none → Q (.ref l) (upd H l (.lst ys))) ∨ ∃ (a : Addr) (kvs : List (Key × V)), xs = [.ref a] ∧ Rd H a (.dK kvs) ∧ ∀ p, H p = none → Q (.ref p) (upd H p (.lst (kvs.map fun kv => kV kv.1)))
theorem call_listX {X : Cx} (hc : X.calm = true) : CallR X (.type "list") (rListX X.K) := CallR_or call_list_of (call_listD hc)
theorem reps_keys {K : PySem.W.Frag} {H : Hp} : ∀ ks : List Key, Reps K H (ks.map kV) (ks.map kD) []
  | [] => .nil
  | .inl i :: ks => .cons (.int i) (reps_keys ks)
  | .inr x :: ks => .cons (.str x) (reps_keys ks)
theorem purs_keys : ∀ ks : List Key, Dv.purs (ks.map kD) = true
  | [] => rfl
  | .inl i :: ks => by show (_ && Dv.purs (ks.map kD)) = true; rw [purs_keys ks]; rfl
  | .inr x :: ks => by show (_ && Dv.purs (ks.map kD)) = true; rw [purs_keys ks]; rfl
theorem callD_listX {K : PySem.W.Frag} : CallD K (rListX K) true listX := fun H vs ds d G Q r e q => by
  unfold listX at e
  split at e
  · rename_i l
    obtain ⟨v, rfl, r1⟩ := r.inv1
    cases e
    cases r1 with
    | @dct a kvs _ g ha el rl =>
      refine .inr ⟨a, kvs, rfl, ha, fun p hp => ?_⟩
      have r2 : Reps K H (kvs.map fun kv => kV kv.1) (l.map fun p => kD p.1) [] := by
        have e1 : (kvs.map fun kv => kV kv.1) = (l.map (·.1)).map kV := by rw [el, List.map_map]; rfl
        have e2 : (l.map fun p => kD p.1) = (l.map (·.1)).map kD := by rw [List.map_map]; rfl
        rw [e1, e2]; exact reps_keys _
      obtain ⟨h1, h2, h3⟩ := Fd.new_lst hp r2
      exact q _ _ _ h2 h1 (fun b m => (List.mem_cons.mp m).elim (fun z => .inr (by rw [z]; exact hp)) fun z => (nomatch z)) fun _ hs => h3 hs
  · exact .inl (Fd.callD_list H vs ds d G Q r e q)
def strK : List Key → Option (List Str)
  | [] => some []
  | .inr x :: ks => (strK ks).map (x :: ·)
  | .inl _ :: _ => none
theorem strK_eq : ∀ {ks : List Key} {xs : List Str}, strK ks = some xs → ks = xs.map Sum.inr
  | [], xs, h => by cases h; rfl
  | .inr x :: ks, xs, h => by
    unfold strK at h
    cases e : strK ks with
    | none => rw [e] at h; cases h
    | some ys => rw [e] at h; cases h; rw [strK_eq e]; rfl
  | .inl _ :: _, _, h => by cases h
theorem strK_map (xs : List Str) : strK (xs.map Sum.inr) = some xs := by
  induction xs with
  | nil => rfl
  | cons x xs ih => show (strK (xs.map Sum.inr)).map (x :: ·) = _; rw [ih]; rfl
def leS (a b : Str) : Bool := !decide (b.cps.toList < a.cps.toList)
def ksrt (ks : List Str) : List Str := ks.mergeSort leS
theorem leS_tot (a b : Str) : (leS a b || leS b a) = true := by
  unfold leS
  by_cases c : b.cps.toList < a.cps.toList
  · have : ¬ a.cps.toList < b.cps.toList := fun z => List.lt_irrefl _ (List.lt_trans z c)
    simp [c, this]
  · simp [c]
theorem leS_trans (a b c : Str) (h1 : leS a b = true) (h2 : leS b c = true) : leS a c = true := by
  unfold leS at *
  simp only [Bool.not_eq_true', decide_eq_false_iff_not, List.not_lt] at *
  exact List.le_trans h1 h2
theorem leS_anti {a b : Str} (h1 : leS a b = true) (h2 : leS b a = true) : a = b := by
  unfold leS at *
  simp only [Bool.not_eq_true', decide_eq_false_iff_not, List.not_lt] at *
  have : a.cps.toList = b.cps.toList := List.le_antisymm h1 h2
  cases a; cases b
  simp only [Str.mk.injEq] at *
  exact Array.toList_inj.mp this
theorem risingS_pw : ∀ {xs : List Str} {p : Str}, PyProof.Rows.risingS p xs = true → (p :: xs).Pairwise fun a b => leS a b = true
  | [], p, _ => List.pairwise_singleton ..
  | x :: xs, p, h => by
    unfold PyProof.Rows.risingS at h
    obtain ⟨h1, h2⟩ := Bool.and_eq_true_iff.mp h
    have hx : leS p x = true := by
      unfold leS
      rw [← ltCps_eq]; exact h1
    have ih := risingS_pw h2
    refine List.pairwise_cons.mpr ⟨fun y hy => ?_, ih⟩
    rcases List.mem_cons.mp hy with rfl | hy
    · exact hx
    · exact leS_trans _ _ _ hx ((List.pairwise_cons.mp ih).1 y hy)
theorem sortedS_pw {xs : List Str} (h : PyProof.Rows.sortedS xs = true) : xs.Pairwise fun a b => leS a b = true := by
  cases xs with
  | nil => exact .nil
  | cons x xs => exact risingS_pw h
theorem ksrt_pw {xs : List Str} : (ksrt xs).Pairwise fun a b => leS a b = true := List.pairwise_mergeSort leS_trans leS_tot xs
theorem ksrt_uniq {xs ys : List Str} (p : ys.Perm xs) (h : ys.Pairwise fun a b => leS a b = true) : ys = ksrt xs :=
  List.Perm.eq_of_pairwise (le := fun a b => leS a b = true) (fun a b _ _ h1 h2 => leS_anti h1 h2) h ksrt_pw (p.trans (List.mergeSort_perm xs leS).symm)
def sortX (ds : List Dv) : Option Dv := match ds with
  | [.dct l] => (strK (l.map (·.1))).bind fun ks => if ks.length < 64 then some (.lst ((ksrt ks).map .str)) else none
  | ds => sortA ds
def rSortX (K : PySem.W.Frag) : List V → Hp → VK → Prop := fun xs H Q => (∃ (a : Addr) (kvs : List (Key × V)) (ks : List Str), xs = [.ref a] ∧ Rd H a (.dK kvs) ∧ kvs.map (·.1) = ks.map Sum.inr ∧ ks.length < 64 ∧
    ∀ ys p, ys.Perm ks → PyProof.Rows.sortedS ys = true → H p = none → Q (.ref p) (upd H p (.lst (ys.map V.str)))) ∨ rSortA K xs H Q
theorem call_sortX {X : Cx} (hc : X.calm = true) (hu : X.A.units + 64 < cLine) : CallR X (.builtin "sorted") (rSortX X.K) := CallR_or (call_sortedD hc) (call_sortA hu)
theorem reps_strs {K : PySem.W.Frag} {H : Hp} : ∀ ks : List Str, Reps K H (ks.map V.str) (ks.map Dv.str) []
  | [] => .nil
  | x :: ks => .cons (.str x) (reps_strs ks)
theorem callD_sortX {K : PySem.W.Frag} : CallD K (rSortX K) true sortX := fun H vs ds d G Q r e q => by
  unfold sortX at e
  split at e
  · rename_i l
    obtain ⟨ks, e1, e⟩ := bs e
    obtain ⟨c, e⟩ := ifs e
    cases e
    obtain ⟨v, rfl, r1⟩ := r.inv1
    cases r1 with
    | @dct a kvs _ g ha el rl =>
      refine .inl ⟨a, kvs, ks, rfl, ha, by rw [← el]; exact strK_eq e1, c, fun ys p pm so hp => ?_⟩
      have := ksrt_uniq pm (sortedS_pw so)
      subst this
      obtain ⟨h1, h2, h3⟩ := Fd.new_lst hp (reps_strs (K := K) (H := H) (ksrt ks))
      exact q _ _ _ h2 h1 (fun b m => (List.mem_cons.mp m).elim (fun z => .inr (by rw [z]; exact hp)) fun z => (nomatch z)) fun _ hs => h3 hs
  · exact .inr (callD_sortA H vs ds d G Q r e q)
theorem x_max {a b : Int} : maxX [.int a, .int b] = some (.int (if b > a then b else a)) := rfl
theorem x_list_lst {ds : List Dv} : listX [.lst ds] = some (.lst ds) := rfl
theorem x_list_tup {ds : List Dv} : listX [.tup ds] = some (.lst ds) := rfl
theorem x_list_dct {l : List (Key × Dv)} : listX [.dct l] = some (.lst (l.map fun p => kD p.1)) := rfl
theorem x_sort_lst {ds : List Dv} : sortX [.lst ds] = sortA [.lst ds] := rfl
theorem x_sort_dct {l : List (Key × Dv)} : sortX [.dct l] = (strK (l.map (·.1))).bind fun ks => if ks.length < 64 then some (.lst ((ksrt ks).map .str)) else none := rfl
end Fh
namespace Fh
open PySem PySem.Spec PyProof.Rows L2 RZ Fd
open Fd (Dv)
/-! ### marks -/
theorem mergeA_map : ∀ {m l : List (Key × Dv)}, mergeA (l.map fun p => (p.1, Av.d p.2)) (m.map fun p => (p.1, Av.d p.2)) = (mergeKD l m).map fun p => (p.1, Av.d p.2)
  | [], l => rfl
  | p :: m, l => by
    show mergeA (pV (l.map fun p => (p.1, Av.d p.2)) p.1 (.d p.2)) (m.map fun p => (p.1, Av.d p.2)) = (mergeKD (pK l p.1 p.2) m).map _
    rw [pV_map, pV_pK, mergeA_map]
theorem dK_at_dAt {h : AH} {n : Nat} {l : List (Key × Dv)} (e : dAt h n l) : dK_at (.ref n) h = some (n, l.map fun p => (p.1, Av.d p.2)) := by
  unfold dK_at
  simp only [show h[n]? = _ from e]
theorem gK_cons {p : Key × Dv} {l : List (Key × Dv)} {k : Key} : gK (p :: l) k = if p.1 = k then some p.2 else gK l k := by
  by_cases c : p.1 = k
  · rw [if_pos c, gK_pos c]
  · rw [if_neg c, gK_neg c]
theorem gK_none {l : List (Key × Dv)} {k : Key} (h : k ∉ l.map (·.1)) : gK l k = none := by
  induction l with
  | nil => rfl
  | cons p l ih =>
    rw [List.map_cons, List.mem_cons, not_or] at h
    rw [gK_neg (fun z => h.1 z.symm)]
    exact ih h.2
theorem gK_app {l m : List (Key × Dv)} {k : Key} : gK (l ++ m) k = (gK l k).or (gK m k) := by
  induction l with
  | nil => rfl
  | cons p l ih =>
    rw [List.cons_append, gK_cons, gK_cons]
    by_cases c : p.1 = k
    · rw [if_pos c, if_pos c]; rfl
    · rw [if_neg c, if_neg c, ih]
theorem gK_pK {l : List (Key × Dv)} {k j : Key} {d : Dv} : gK (pK l k d) j = if k = j then some d else gK l j := by
  unfold pK
  by_cases c : (l.any fun p => decide (p.1 = k)) = true
  · rw [if_pos c]
    induction l with
    | nil => cases c
    | cons p l ih =>
      rw [List.map_cons, gK_cons, gK_cons]
      by_cases c1 : p.1 = k
      · rw [if_pos c1]
        show (if p.1 = j then some d else _) = _
        by_cases c2 : k = j
        · rw [if_pos (c1.trans c2), if_pos c2]
        · rw [if_neg (fun z => c2 (c1.symm.trans z)), if_neg c2, if_neg (fun z => c2 (c1.symm.trans z))]
          by_cases c3 : (l.any fun p => decide (p.1 = k)) = true
          · rw [ih c3, if_neg c2]
          · have : l.map (fun p => if p.1 = k then (p.1, d) else p) = l := by
              rw [List.map_congr_left (g := id)]
              · exact List.map_id _
              · intro q hq
                rw [if_neg]; · rfl
                intro z
                exact c3 (List.any_eq_true.mpr ⟨q, hq, decide_eq_true z⟩)
            rw [this]
      · rw [if_neg c1]
        have c3 : (l.any fun p => decide (p.1 = k)) = true := by
          rw [List.any_cons, decide_eq_false c1] at c
          exact c
        rw [ih c3]
        by_cases c2 : p.1 = j
        · rw [if_pos c2, if_pos c2, if_neg (fun z => c1 (c2.trans z.symm))]
        · rw [if_neg c2, if_neg c2]
  · rw [if_neg c, gK_app, gK_cons]
    have n : k ∉ l.map (·.1) := fun z => c (by
      obtain ⟨p, hp, e⟩ := List.mem_map.mp z
      exact List.any_eq_true.mpr ⟨p, hp, decide_eq_true e⟩)
    by_cases c2 : k = j
    · subst c2
      rw [gK_none n, if_pos rfl, if_pos rfl]; rfl
    · rw [if_neg c2, if_neg c2, gK_nil]
      cases gK l j <;> rfl
theorem gK_merge : ∀ {m l : List (Key × Dv)} {k : Key}, (m.map (·.1)).Nodup → gK (mergeKD l m) k = (gK m k).or (gK l k)
  | [], l, k, _ => rfl
  | p :: m, l, k, h => by
    rw [List.map_cons] at h
    obtain ⟨h1, h2⟩ := List.nodup_cons.mp h
    show gK (mergeKD (pK l p.1 p.2) m) k = _
    rw [gK_merge h2, gK_pK, gK_cons]
    by_cases c : p.1 = k
    · subst c
      rw [if_pos rfl, if_pos rfl, gK_none h1]; rfl
    · rw [if_neg c, if_neg c]
theorem gK_filter {f : Key → Dv → Bool} : ∀ {m : List (Key × Dv)} {k : Key}, (m.map (·.1)).Nodup → gK (m.filter fun p => f p.1 p.2) k = (gK m k).filter (f k)
  | [], k, _ => rfl
  | p :: m, k, h => by
    rw [List.map_cons] at h
    obtain ⟨h1, h2⟩ := List.nodup_cons.mp h
    rw [List.filter_cons, gK_cons]
    by_cases c : p.1 = k
    · subst c
      rw [if_pos rfl]
      by_cases c2 : f p.1 p.2 = true
      · rw [if_pos c2, gK_pos rfl, Option.filter_some, if_pos c2]
      · rw [if_neg c2, gK_filter h2, gK_none h1, Option.filter_some, if_neg c2]; rfl
    · rw [if_neg c]
      by_cases c2 : f p.1 p.2 = true
      · rw [if_pos c2, gK_neg c, gK_filter h2]
      · rw [if_neg c2, gK_filter h2]
/-! the order of stamps -/
theorem st_iff {n m : Int} {x y : Str} : stLt (stD n x) (stD m y) = true ↔ n < m ∨ (n = m ∧ x.cps.toList < y.cps.toList) := by
  show (if n = m then (if x = y then false else decide (x.cps.toList < y.cps.toList)) else decide (n < m)) = true ↔ _
  by_cases c : n = m
  · rw [if_pos c]
    by_cases c2 : x = y
    · subst c2
      rw [if_pos rfl]
      exact ⟨fun z => (nomatch z), fun z => z.elim (fun z => by omega) fun z => absurd z.2 (List.lt_irrefl _)⟩
    · rw [if_neg c2, decide_eq_true_eq]
      exact ⟨fun z => .inr ⟨c, z⟩, fun z => z.elim (fun z => by omega) fun z => z.2⟩
  · rw [if_neg c, decide_eq_true_eq]
    exact ⟨.inl, fun z => z.elim id fun z => absurd z.1 c⟩
theorem st_irr {d : Dv} (h : StD d) : stLt d d = false := by
  obtain ⟨n, x, rfl, _⟩ := h
  rw [Bool.eq_false_iff]
  intro z
  rcases st_iff.mp z with z | z
  · omega
  · exact List.lt_irrefl _ z.2
theorem st_tr {a b c : Dv} (ha : StD a) (hb : StD b) (hc : StD c) (h1 : stLt a b = true) (h2 : stLt b c = true) : stLt a c = true := by
  obtain ⟨n, x, rfl, _⟩ := ha
  obtain ⟨m, y, rfl, _⟩ := hb
  obtain ⟨o, z, rfl, _⟩ := hc
  rw [st_iff] at *
  rcases h1 with h1 | h1 <;> rcases h2 with h2 | h2
  · exact .inl (by omega)
  · exact .inl (by omega)
  · exact .inl (by omega)
  · exact .inr ⟨h1.1.trans h2.1, List.lt_trans h1.2 h2.2⟩
theorem st_tri {a b : Dv} (ha : StD a) (hb : StD b) (h1 : stLt a b = false) (h2 : stLt b a = false) : a = b := by
  obtain ⟨n, x, rfl, _⟩ := ha
  obtain ⟨m, y, rfl, _⟩ := hb
  rw [Bool.eq_false_iff] at h1 h2
  have e : n = m := by
    have q1 : ¬ n < m := fun z => h1 (st_iff.mpr (.inl z))
    have q2 : ¬ m < n := fun z => h2 (st_iff.mpr (.inl z))
    omega
  subst e
  have k1 : ¬ x.cps.toList < y.cps.toList := fun z => h1 (st_iff.mpr (.inr ⟨rfl, z⟩))
  have k2 : ¬ y.cps.toList < x.cps.toList := fun z => h2 (st_iff.mpr (.inr ⟨rfl, z⟩))
  have k3 : x.cps.toList = y.cps.toList := List.le_antisymm (List.not_lt.mp k2) (List.not_lt.mp k1)
  have k4 : x = y := by
    cases x; cases y
    exact congrArg Str.mk (Array.toList_inj.mp k3)
  rw [k4]
theorem gK_self {l : List (Key × Dv)} (nd : (l.map (·.1)).Nodup) {p : Key × Dv} (hp : p ∈ l) : gK l p.1 = some p.2 := by
  induction l with
  | nil => cases hp
  | cons q l ih =>
    rw [List.map_cons] at nd
    obtain ⟨n1, n2⟩ := List.nodup_cons.mp nd
    rcases List.mem_cons.mp hp with rfl | hp
    · exact gK_pos rfl
    · rw [gK_neg (fun z => n1 (by rw [z]; exact List.mem_map.mpr ⟨p, hp, rfl⟩))]
      exact ih n2 hp
theorem st_eqv2 {d e : Dv} (hd : StD d) (he : StD e) : PyData.eqv (plD d) (plD e) = true ↔ d = e := by
  obtain ⟨n, x, rfl, vx⟩ := hd
  obtain ⟨m, y, rfl, vy⟩ := he
  show PyData.eqv (.tuple [.int n, .str x]) (.tuple [.int m, .str y]) = true ↔ _
  simp [PyData.eqv, PyData.eqvAll, stD]
theorem sub_len {α : Type} [DecidableEq α] : ∀ {A B : List α}, A.Nodup → (∀ x ∈ A, x ∈ B) → A.length ≤ B.length
  | [], _, _, _ => Nat.zero_le _
  | x :: A, B, h, s => by
    obtain ⟨h1, h2⟩ := List.nodup_cons.mp h
    have hx := s x List.mem_cons_self
    have := sub_len (B := B.erase x) h2 fun y hy => (List.mem_erase_of_ne (fun z => h1 (by rw [← z]; exact hy))).mpr (s y (List.mem_cons_of_mem _ hy))
    rw [List.length_erase_of_mem hx] at this
    have := List.length_pos_of_mem hx
    rw [List.length_cons]; omega
theorem sub_back {α : Type} [DecidableEq α] : ∀ {A B : List α}, A.Nodup → (∀ x ∈ A, x ∈ B) → B.length ≤ A.length → ∀ x ∈ B, x ∈ A
  | [], B, _, _, l, x, hx => by
    have := List.length_pos_of_mem hx
    rw [List.length_nil] at l; omega
  | y :: A, B, h, s, l, x, hx => by
    obtain ⟨h1, h2⟩ := List.nodup_cons.mp h
    have hy := s y List.mem_cons_self
    by_cases c : x = y
    · rw [c]; exact List.mem_cons_self
    · refine List.mem_cons_of_mem _ (sub_back (B := B.erase y) h2 (fun z hz => (List.mem_erase_of_ne (fun q => h1 (by rw [← q]; exact hz))).mpr (s z (List.mem_cons_of_mem _ hz))) ?_ x ((List.mem_erase_of_ne c).mpr hx))
      rw [List.length_erase_of_mem hy]
      rw [List.length_cons] at l; omega
theorem key_some {l : List (Key × Dv)} (h : Mk l) {k : Key} : k ∈ l.map (·.1) ↔ ∃ d, gK l k = some d := by
  constructor
  · intro hk
    obtain ⟨p, hp, rfl⟩ := List.mem_map.mp hk
    exact ⟨_, gK_self h.nd hp⟩
  · rintro ⟨d, hd⟩
    exact List.mem_map.mpr ⟨_, gK_mem hd, rfl⟩
theorem eqKD_iff {a b : List (Key × Dv)} (ha : Mk a) (hb : Mk b) : eqKD a b = true ↔ ∀ k, gK a k = gK b k := by
  have hit : ∀ p ∈ a, (hitD b p = true ↔ gK b p.1 = some p.2) := fun p hp => by
    unfold hitD
    cases hg : gK b p.1 with
    | none => exact ⟨fun z => (nomatch z), fun z => (nomatch z)⟩
    | some e => exact (st_eqv2 (ha.st p hp) (hb.get hg)).trans ⟨fun z => by rw [z], fun z => (Option.some.inj z).symm⟩
  unfold eqKD
  rw [Bool.and_eq_true, List.all_eq_true, beq_iff_eq]
  constructor
  · rintro ⟨h1, h2⟩ k
    have all : ∀ p ∈ a, gK b p.1 = some p.2 := fun p hp => (hit p hp).mp (h2 p hp)
    cases hg : gK a k with
    | some d => exact (all _ (gK_mem hg)).symm
    | none =>
      cases hb2 : gK b k with
      | none => rfl
      | some e =>
        have := sub_back (A := a.map (·.1)) (B := b.map (·.1)) ha.nd (fun x hx => by
          obtain ⟨p, hp, rfl⟩ := List.mem_map.mp hx
          exact (key_some hb).mpr ⟨_, all p hp⟩) (by rw [List.length_map, List.length_map, h1]; exact Nat.le_refl _) k ((key_some hb).mpr ⟨_, hb2⟩)
        obtain ⟨d, hd⟩ := (key_some ha).mp this
        rw [hg] at hd; cases hd
  · intro h
    refine ⟨?_, fun p hp => (hit p hp).mpr (by rw [← h]; exact gK_self ha.nd hp)⟩
    have e1 := sub_len (A := a.map (·.1)) (B := b.map (·.1)) ha.nd fun x hx => (key_some hb).mpr (by rw [← h]; exact (key_some ha).mp hx)
    have e2 := sub_len (A := b.map (·.1)) (B := a.map (·.1)) hb.nd fun x hx => (key_some ha).mpr (by rw [h]; exact (key_some hb).mp hx)
    rw [List.length_map, List.length_map] at e1 e2
    omega
/-- of two stamps the one not less -/
def jn : Option Dv → Option Dv → Option Dv
  | none, t => t
  | some s, none => some s
  | some s, some t => if stLt s t = true then some t else some s
theorem gK_tog {l m : List (Key × Dv)} (hm : Mk m) {k : Key} : gK (mergeKD l (lackD l m)) k = jn (gK l k) (gK m k) := by
  have hk := hm.lack (l := l)
  rw [gK_merge hk.nd]
  unfold lackD
  rw [gK_filter (f := fun k s => !hnl l k s) hm.nd]
  cases hg : gK m k with
  | none => cases gK l k <;> rfl
  | some t =>
    rw [Option.filter_some]
    unfold hnl
    cases hl : gK l k with
    | none => rfl
    | some s =>
      show Option.or (if (!(!stLt s t)) = true then some t else none) (some s) = if stLt s t = true then some t else some s
      cases stLt s t <;> rfl
def StO (o : Option Dv) : Prop := ∀ d, o = some d → StD d
theorem mk_StO {l : List (Key × Dv)} (h : Mk l) {k : Key} : StO (gK l k) := fun d e => h.get e
theorem jn_StO {a b : Option Dv} (ha : StO a) (hb : StO b) : StO (jn a b) := by
  intro d e
  cases a with
  | none => exact hb d e
  | some s =>
    cases b with
    | none => exact ha d e
    | some t =>
      have e : (if stLt s t = true then some t else some s) = some d := e
      split at e
      · exact hb d e
      · exact ha d e
theorem jn_none {a : Option Dv} : jn a none = a := by cases a <;> rfl
theorem jn_self {a : Option Dv} : jn a a = a := by
  cases a with
  | none => rfl
  | some s => show (if stLt s s = true then some s else some s) = _; split <;> rfl
theorem jn_comm {a b : Option Dv} (ha : StO a) (hb : StO b) : jn a b = jn b a := by
  cases a with
  | none => rw [jn_none]; rfl
  | some s =>
    cases b with
    | none => rfl
    | some t =>
      show (if stLt s t = true then some t else some s) = if stLt t s = true then some s else some t
      cases h1 : stLt s t <;> cases h2 : stLt t s
      · rw [st_tri (ha s rfl) (hb t rfl) h1 h2]
      · rfl
      · rfl
      · have := st_tr (ha s rfl) (hb t rfl) (ha s rfl) h1 h2
        rw [st_irr (ha s rfl)] at this; cases this
theorem jn_assoc {a b c : Option Dv} (ha : StO a) (hb : StO b) (hc : StO c) : jn (jn a b) c = jn a (jn b c) := by
  cases a with
  | none => rfl
  | some s =>
    cases b with
    | none => rfl
    | some t =>
      cases c with
      | none => rw [jn_none, jn_none]
      | some u =>
        have hs := ha s rfl
        have ht := hb t rfl
        have hu := hc u rfl
        show jn (if stLt s t = true then some t else some s) (some u) = jn (some s) (if stLt t u = true then some u else some t)
        cases h1 : stLt s t <;> cases h2 : stLt t u
        · show (if stLt s u = true then some u else some s) = if stLt s t = true then some t else some s
          rw [h1]
          cases h3 : stLt s u with
          | false => rfl
          | true =>
            -- s < u, not t < u, so not u behind t: u is t or before t
            cases h4 : stLt u t with
            | true => have := st_tr hs hu ht h3 h4; rw [h1] at this; cases this
            | false => have := st_tri ht hu h2 h4; subst this; rw [h3] at h1; cases h1
        · rfl
        · show (if stLt t u = true then some u else some t) = if stLt s t = true then some t else some s
          rw [h1, h2]; rfl
        · show (if stLt t u = true then some u else some t) = if stLt s u = true then some u else some s
          rw [h2, st_tr hs ht hu h1 h2]; rfl
/-- covers, by the join -/
theorem cov_iff {l m : List (Key × Dv)} (hl : Mk l) (hm : Mk m) : (m.all fun p => hnl l p.1 p.2) = true ↔ ∀ k, jn (gK l k) (gK m k) = gK l k := by
  rw [List.all_eq_true]
  constructor
  · intro h k
    cases hg : gK m k with
    | none => exact jn_none
    | some t =>
      have := h _ (gK_mem hg)
      unfold hnl at this
      cases hs : gK l k with
      | none =>
        rw [show gK l (k, t).1 = none from hs] at this; cases this
      | some s =>
        rw [show gK l (k, t).1 = some s from hs] at this
        have h2 : stLt s t = false := by simpa using this
        show (if stLt s t = true then some t else some s) = some s
        rw [h2]; rfl
  · intro h p hp
    have hg := gK_self hm.nd hp
    have := h p.1
    rw [hg] at this
    unfold hnl
    cases hs : gK l p.1 with
    | none => rw [hs] at this; cases this
    | some s =>
      rw [hs] at this
      have this : (if stLt s p.2 = true then some p.2 else some s) = some s := this
      cases h2 : stLt s p.2 with
      | false => show (!stLt s p.2) = true; rw [h2]; rfl
      | true =>
        rw [h2] at this
        have e := Option.some.inj this
        rw [e, st_irr (hl.get hs)] at h2; cases h2
def tg (l m : List (Key × Dv)) : List (Key × Dv) := mergeKD l (lackD l m)
theorem lack_ln {l m : List (Key × Dv)} : (lackD l m).length ≤ m.length := by unfold lackD; exact List.length_filter_le _ _
theorem mk_tg {l m : List (Key × Dv)} (hl : Mk l) (hm : Mk m) (hs : l.length + m.length ≤ 100000) : Mk (tg l m) := Mk.merge hl (hm.lack (l := l)) (by have := lack_ln (l := l) (m := m); omega)
theorem merge_ln : ∀ {m l : List (Key × Dv)}, (mergeKD l m).length ≤ l.length + m.length
  | [], l => Nat.le_refl _
  | p :: m, l => by
    show (mergeKD (pK l p.1 p.2) m).length ≤ _
    have h1 := merge_ln (m := m) (l := pK l p.1 p.2)
    have h2 := len_pK (l := l) (k := p.1) (d := p.2)
    rw [List.length_cons]; omega
theorem tg_ln {l m : List (Key × Dv)} : (tg l m).length ≤ l.length + m.length := by
  have h1 := merge_ln (l := l) (m := lackD l m)
  have h2 := lack_ln (l := l) (m := m)
  unfold tg; omega
theorem tog3 {a b c : List (Key × Dv)} (ha : Mk a) (hb : Mk b) (hc : Mk c) (la : a.length ≤ 1000) (lb : b.length ≤ 1000) (lc : c.length ≤ 1000) : eqKD (tg (tg a b) c) (tg a (tg c b)) = true := by
  have l1 := tg_ln (l := a) (m := b)
  have l2 := tg_ln (l := c) (m := b)
  have h1 := mk_tg ha hb (by omega)
  have h2 := mk_tg hc hb (by omega)
  refine (eqKD_iff (mk_tg h1 hc (by omega)) (mk_tg ha h2 (by omega))).mpr fun k => ?_
  unfold tg at *
  rw [gK_tog hc, gK_tog hb, gK_tog h2, gK_tog hb, jn_assoc (mk_StO ha) (mk_StO hb) (mk_StO hc), jn_comm (mk_StO hb) (mk_StO hc)]
theorem cov_tg {a b c : List (Key × Dv)} (ha : Mk a) (hb : Mk b) (hc : Mk c) (la : a.length ≤ 1000) (lb : b.length ≤ 1000) : ((a.all fun p => hnl c p.1 p.2) && (b.all fun p => hnl c p.1 p.2)) = ((tg a b).all fun p => hnl c p.1 p.2) := by
  have h1 := mk_tg ha hb (by omega)
  rw [Bool.eq_iff_iff, Bool.and_eq_true, cov_iff hc ha, cov_iff hc hb, cov_iff hc h1]
  unfold tg
  constructor
  · rintro ⟨p, q⟩ k
    rw [gK_tog hb, ← jn_assoc (mk_StO hc) (mk_StO ha) (mk_StO hb), p, q]
  · intro h
    have h : ∀ k, jn (jn (gK c k) (gK a k)) (gK b k) = gK c k := fun k => by
      rw [jn_assoc (mk_StO hc) (mk_StO ha) (mk_StO hb), ← gK_tog hb]; exact h k
    refine ⟨fun k => ?_, fun k => ?_⟩
    · have e := h k
      have e2 : jn (gK c k) (gK a k) = jn (jn (jn (gK c k) (gK a k)) (gK b k)) (gK a k) := by rw [e]
      rw [jn_assoc (jn_StO (mk_StO hc) (mk_StO ha)) (mk_StO hb) (mk_StO ha), jn_comm (mk_StO hb) (mk_StO ha), ← jn_assoc (jn_StO (mk_StO hc) (mk_StO ha)) (mk_StO ha) (mk_StO hb), jn_assoc (mk_StO hc) (mk_StO ha) (mk_StO ha), jn_self, e] at e2
      exact e2
    · have e := h k
      have e2 : jn (gK c k) (gK b k) = jn (jn (jn (gK c k) (gK a k)) (gK b k)) (gK b k) := by rw [e]
      rw [jn_assoc (jn_StO (mk_StO hc) (mk_StO ha)) (mk_StO hb) (mk_StO hb), jn_self, e] at e2
      exact e2
theorem cov_trans {a b c : List (Key × Dv)} (ha : Mk a) (hb : Mk b) (hc : Mk c) (h1 : (b.all fun p => hnl a p.1 p.2) = true) (h2 : (c.all fun p => hnl b p.1 p.2) = true) : (c.all fun p => hnl a p.1 p.2) = true := by
  rw [cov_iff ha hb] at h1
  rw [cov_iff hb hc] at h2
  refine (cov_iff ha hc).mpr fun k => ?_
  rw [← h1 k, jn_assoc (mk_StO ha) (mk_StO hb) (mk_StO hc), h2 k]
def srtD (l : List (Key × Dv)) : List (Key × Dv) := l.mergeSort (PySem.W.dataLe false encP)
theorem srt_perm {l : List (Key × Dv)} : (srtD l).Perm l := List.mergeSort_perm _ _
theorem mk_perm {l m : List (Key × Dv)} (h : Mk l) (p : m.Perm l) : Mk m := ⟨fun q hq => h.key q (p.mem_iff.mp hq), fun q hq => h.st q (p.mem_iff.mp hq), (p.map (·.1)).nodup_iff.mpr h.nd, by rw [p.length_eq]; exact h.ln⟩
theorem enc_mk {l : List (Key × Dv)} (h : Mk l) {p : Key × Dv} (hp : p ∈ l) : ∃ (x : Str) (n : Int) (y : Str), encP p = .tuple [.str x, .tuple [.int n, .str y]] := by
  obtain ⟨x, hx⟩ := h.key p hp
  obtain ⟨n, y, hy, _⟩ := h.st p hp
  refine ⟨x, n, y, ?_⟩
  unfold encP
  rw [hx, hy]; rfl
theorem sortOk_mk {l : List (Key × Dv)} (h : Mk l) : sortOk (l.map encP) = true := by
  unfold sortOk alikeB
  rw [Bool.and_eq_true, Bool.and_eq_true]
  refine ⟨⟨?_, ?_⟩, ?_⟩
  · rw [List.all_eq_true]
    intro d hd
    rw [List.all_eq_true]
    intro e he
    obtain ⟨p, hp, rfl⟩ := List.mem_map.mp hd
    obtain ⟨q, hq, rfl⟩ := List.mem_map.mp he
    obtain ⟨x, n, y, e1⟩ := enc_mk h hp
    obtain ⟨x', n', y', e2⟩ := enc_mk h hq
    rw [e1, e2]
    simp [PySem.W.alike, PySem.W.alikeAll]
  · rw [Bool.or_eq_true]
    left
    rw [List.all_eq_true]
    intro d hd
    obtain ⟨p, hp, rfl⟩ := List.mem_map.mp hd
    obtain ⟨x, n, y, e1⟩ := enc_mk h hp
    rw [e1]; rfl
  · rw [List.all_eq_true]
    intro d hd
    obtain ⟨p, hp, rfl⟩ := List.mem_map.mp hd
    obtain ⟨x, n, y, e1⟩ := enc_mk h hp
    rw [e1]
    simp [PyData.depth, PyData.depthAll]
theorem sortIt_mk {l : List (Key × Dv)} (h : Mk l) : sortIt (.dct l) = some (.lst ((srtD l).map fun p => .tup [kD p.1, p.2])) := by
  unfold sortIt
  dsimp only
  rw [if_pos]
  · rfl
  · rw [Bool.and_eq_true, Bool.and_eq_true]
    exact ⟨⟨h.pur, h.okB⟩, sortOk_mk h⟩
theorem pairs_pur {l : List (Key × Dv)} (h : Mk l) : Dv.purs (l.map fun p => .tup [kD p.1, p.2]) = true := by
  rw [Fd.purs_all, List.all_map, List.all_eq_true]
  intro p hp
  obtain ⟨x, hx⟩ := h.key p hp
  show Dv.purs [kD p.1, p.2] = true
  rw [hx]
  show (true && (p.2.pur && true)) = true
  rw [(h.st p hp).pur]; rfl
theorem st_eqv {d : Dv} (h : StD d) : PyData.eqv (plD d) (plD d) = true := by
  obtain ⟨n, x, rfl, vx⟩ := h
  exact SeqAt.eqv_refl _ (SeqAt.canLay_of_shaped (st_shaped vx))
theorem st_eqY {n : Nat} {d : Dv} (h : StD d) : eqY (n + 1) d d = true := by
  have e : eqDt d d = true := by
    unfold eqDt
    rw [st_okB h, st_eqv h]
    obtain ⟨n, x, rfl, vx⟩ := h
    rfl
  unfold eqY
  rw [e]; rfl
theorem mk_eqKD {l : List (Key × Dv)} (h : Mk l) : eqKD l l = true := by
  unfold eqKD
  rw [beq_self_eq_true, Bool.true_and, List.all_eq_true]
  intro p hp
  unfold hitD
  rw [gK_self h.nd hp]
  exact st_eqv (h.st p hp)
theorem mk_eqYd {n : Nat} {l : List (Key × Dv)} (h : Mk l) : eqYd (eqY (n + 1)) l l = true := by
  unfold eqYd
  rw [beq_self_eq_true, Bool.true_and, List.all_eq_true]
  intro p hp
  rw [gK_self h.nd hp]
  exact st_eqY (h.st p hp)
theorem x_mk {l m : List (Key × Dv)} (h1 : Mk l) (h2 : Mk m) : eqX (.dct l) (.dct m) = some (.bl (eqKD l m)) := eqX_of (eqA_mk h1 h2)
theorem x_tup2 {l m : List (Key × Dv)} (h1 : Mk l) (h2 : Mk m) : eqX (.tup [.dct l, .dct m]) (.tup [.dct l, .dct m]) = some (.bl true) := by
  unfold eqX
  rw [show eqA false (.tup [.dct l, .dct m]) (.tup [.dct l, .dct m]) = none from rfl]
  show (if _ then _ else _) = _
  have e : ∀ {l : List (Key × Dv)}, Mk l → eqY 8 (.dct l) (.dct l) = true := fun {l} h => by
    show (eqDt (.dct l) (.dct l) || eqYd (eqY 7) l l) = true
    rw [mk_eqYd h, Bool.or_true]
  rw [if_pos]
  show (eqY 8 (.dct l) (.dct l) && (eqY 8 (.dct m) (.dct m) && true)) = true
  rw [e h1, e h2]; rfl
theorem lack_cov {l m : List (Key × Dv)} : (m.all fun p => hnl l p.1 p.2) = eqKD (lackD l m) [] := by
  unfold eqKD
  rw [Bool.eq_iff_iff, List.all_eq_true]
  constructor
  · intro h
    have : lackD l m = [] := by
      unfold lackD
      rw [List.filter_eq_nil_iff]
      intro p hp
      rw [h p hp]; decide
    rw [this]; rfl
  · intro h p hp
    have h1 := (Bool.and_eq_true_iff.mp h).1
    have h2 : lackD l m = [] := List.eq_nil_of_length_eq_zero (of_decide_eq_true (by simpa using h1))
    unfold lackD at h2
    have := List.filter_eq_nil_iff.mp h2 p hp
    simpa using this
theorem gK_perm {l m : List (Key × Dv)} (h : Mk l) (p : m.Perm l) (k : Key) : gK m k = gK l k := by
  have hm := mk_perm h p
  cases hg : gK l k with
  | some d => exact gK_self hm.nd (p := (k, d)) (p.mem_iff.mpr (gK_mem hg))
  | none =>
    cases hg2 : gK m k with
    | none => rfl
    | some d =>
      have := gK_self h.nd (p := (k, d)) (p.mem_iff.mp (gK_mem hg2))
      rw [show gK l (k, d).1 = none from hg] at this; cases this
theorem eq_srt {l : List (Key × Dv)} (h : Mk l) : eqKD (srtD l) l = true := (eqKD_iff (mk_perm h srt_perm) h).mpr fun k => gK_perm h srt_perm k
end Fh
namespace Fh
open PySem PySem.Spec PyProof.Rows L2 RZ Fd
open Fd (Dv)
/-! ### words that are drawn; what a list in a cell holds, walked or not -/
/-- the words that are drawn: by the first letter and the turn -/
def sufW : List Str := ["", "zq", "x", "qqzzx"]
def wordAt (f t k : Nat) : Str := (⟨#[97 + (f + t * k) % 26]⟩ : Str) ++ sufW.getD ((f + k * k) % 4) ""
def wordsL (f t N : Nat) : List Str := (List.range N).map (wordAt f t)
def turnsW : List Nat := [1, 3, 5, 7, 9, 11]
theorem words_len {f t N : Nat} : (wordsL f t N).length = N := by unfold wordsL; rw [List.length_map, List.length_range]
theorem suf_ok (j : Nat) : (sufW.getD (j % 4) "").length ≤ 5 ∧ (sufW.getD (j % 4) "").cps.toList.all lowC = true := by
  have b2 : j % 4 < 4 := Nat.mod_lt _ (by decide)
  generalize j % 4 = j at b2
  match j, b2 with
  | 0, _ | 1, _ | 2, _ | 3, _ => exact ⟨by decide, by decide⟩
theorem wordAt_ok (f t k : Nat) : wordS (wordAt f t k) = true := by
  obtain ⟨h1, h2⟩ := suf_ok (f + k * k)
  have b1 : (f + t * k) % 26 < 26 := Nat.mod_lt _ (by decide)
  have e : (wordAt f t k).length = 1 + (sufW.getD ((f + k * k) % 4) "").length := str_add_len _ _
  refine wordS_of (by omega) (by omega) (str_add_all ?_ h2)
  show (lowC _ && true) = true
  unfold lowC
  simp; omega
theorem wordAt_inj {f t i j : Nat} (ht : t ∈ turnsW) (hi : i < 26) (hj : j < 26) (h : wordAt f t i = wordAt f t j) : i = j := by
  have e : ∀ k, (wordAt f t k).cps.toList = (97 + (f + t * k) % 26) :: (sufW.getD ((f + k * k) % 4) "").cps.toList := fun k => by
    show ((#[_] : Array Nat) ++ _).toList = _
    rw [Array.toList_append]; rfl
  have h1 := e i
  rw [h, e j] at h1
  have h2 := (List.cons.inj h1).1
  simp only [turnsW, List.mem_cons, List.not_mem_nil, or_false] at ht
  rcases ht with rfl | rfl | rfl | rfl | rfl | rfl <;> omega
theorem words_prop {f t N : Nat} (ht : t ∈ turnsW) (hN : N ≤ 26) : (∀ w ∈ wordsL f t N, wordS w = true) ∧ (wordsL f t N).Nodup := by
  refine ⟨fun w hw => ?_, ?_⟩
  · obtain ⟨k, _, rfl⟩ := List.mem_map.mp hw
    exact wordAt_ok f t k
  · refine List.pairwise_map.mpr (List.pairwise_lt_range.imp_of_mem fun ha hb hlt h => ?_)
    have := wordAt_inj ht (by have := List.mem_range.mp ha; omega) (by have := List.mem_range.mp hb; omega) h
    omega
theorem abc_at : ∀ j ∈ List.range 26, (signsD "abcdefghijklmnopqrstuvwxyz")[j]? = some (.str ⟨#[97 + j]⟩) := by
  intro j hj
  have : j < 26 := List.mem_range.mp hj
  match j, this with
  | 0, _ | 1, _ | 2, _ | 3, _ | 4, _ | 5, _ | 6, _ | 7, _ | 8, _ | 9, _ | 10, _ | 11, _ | 12, _ | 13, _ | 14, _ | 15, _ | 16, _ | 17, _ | 18, _ | 19, _ | 20, _ | 21, _ | 22, _ | 23, _ | 24, _ | 25, _ => rfl
  | n + 26, h => exact absurd h (by omega)
theorem ix_abc {h : AH} {j : Nat} (hj : j < 26) : ixA h (.d (.str "abcdefghijklmnopqrstuvwxyz")) (.d (.int j)) = some (.d (.str ⟨#[97 + j]⟩)) := th_ix (th_str (by decide +kernel)) (abc_at j (List.mem_range.mpr hj))
theorem ix_lst {h : AH} {ds : List Dv} {j : Nat} {d : Dv} (e : ds[j]? = some d) : ixA h (.d (.lst ds)) (.d (.int j)) = some (.d d) := th_ix (d := .lst ds) rfl e
theorem ix_tup {h : AH} {ds : List Dv} {j : Nat} {d : Dv} (e : ds[j]? = some d) : ixA h (.d (.tup ds)) (.d (.int j)) = some (.d d) := th_ix (d := .tup ds) rfl e
theorem ix_lAt {h : AH} {p : Nat} {ds : List Dv} {j : Nat} {d : Dv} (l : lAt h p ds) (e : ds[j]? = some d) : ixA h (.ref p) (.d (.int j)) = some (.d d) := by
  rw [ixA_at l]
  have hj := (List.getElem?_eq_some_iff.mp e).1
  rw [atI_nat (by rw [List.length_map]; exact hj), List.getElem_map]
  rw [← (List.getElem?_eq_some_iff.mp e).2]

def rAt (h : AH) (n : Nat) (ds : List Dv) : Prop := rd h n = some (.lst (ds.map .d))
theorem lAt.r {h : AH} {n : Nat} {ds : List Dv} (l : lAt h n ds) : rAt h n ds := rd_at l
theorem rAt_lk {h : AH} {n : Nat} {ds : List Dv} (l : h[n]? = some (.lk (.lst (ds.map .d)))) : rAt h n ds := rd_lk l
theorem rd_old {h h' : AH} {n : Nat} {b : Bd} (e : rd h n = some b) (s : ∀ nd, h[n]? = some nd → h'[n]? = some nd) : rd h' n = some b := by
  unfold rd at *
  cases c : h[n]? with
  | none => rw [c] at e; cases e
  | some nd => rw [s nd c]; rw [c] at e; exact e
theorem rAt.ex {m n : Nat} {h g : AH} {ds : List Dv} (x : Ex m h g) (e : rAt h n ds) (ne : n ≠ m) : rAt g n ds := rd_old e fun nd k => x.kp n nd ne k
theorem rAt.app {h t : AH} {n : Nat} {ds : List Dv} (e : rAt h n ds) : rAt (h ++ t) n ds := rd_old e fun nd k => app_old k
theorem rAt.set {h : AH} {n j : Nat} {nd : Nd} {ds : List Dv} (e : rAt h n ds) (ne : j ≠ n) : rAt (h.set j nd) n ds := rd_old e fun nd k => set_old k ne
theorem rAt.lt {h : AH} {n : Nat} {ds : List Dv} (e : rAt h n ds) : n < h.length := by
  unfold rAt rd at e
  cases c : h[n]? with
  | none => rw [c] at e; cases e
  | some nd => exact (List.getElem?_eq_some_iff.mp c).1
theorem itL_r {h : AH} {n : Nat} {ds : List Dv} (e : rAt h n ds) : itL h (.ref n) = some (ds.map .d) := by
  unfold itL; dsimp only; rw [show rd h n = _ from e]
theorem itX_r {h : AH} {n : Nat} {ds : List Dv} (e : rAt h n ds) : itX h (.ref n) = some (ds.map .d) := by
  unfold itX; exact itL_r e
theorem ix_r {h : AH} {p : Nat} {ds : List Dv} {j : Nat} {d : Dv} (l : rAt h p ds) (e : ds[j]? = some d) : ixA h (.ref p) (.d (.int j)) = some (.d d) := by
  have hj := (List.getElem?_eq_some_iff.mp e).1
  unfold ixA
  rw [itX_r l]
  show atI (ds.map Av.d) (j : Int) = _
  rw [atI_nat (by rw [List.length_map]; exact hj), List.getElem_map]
  rw [← (List.getElem?_eq_some_iff.mp e).2]
theorem snap_r {h : AH} {n k : Nat} {ds : List Dv} (e : rAt h n ds) : snap (k + 1) h (.ref n) = some (.lst ds) := by
  unfold snap
  dsimp only
  rw [show rd h n = _ from e]
  dsimp only
  rw [snaps_map]; rfl
theorem dtD_r {h : AH} {n : Nat} {ds : List Dv} (e : rAt h n ds) : dtD h (.ref n) = none := by
  unfold dtD
  dsimp only
  rw [show rd h n = _ from e]
theorem snaps_r {h : AH} {n : Nat} {ds : List Dv} (e : rAt h n ds) : mapO (snap 8 h) [.ref n] = some [.lst ds] := by
  rw [mapO, snap_r e]; rfl
/-! parts of a list -/
theorem cutA_take {α : Type} {xs : List α} {j : Nat} : cutA xs none (some (j : Int)) = xs.take j := by
  unfold cutA
  rw [HT.sIx_none, HT.sIx_nat]
  rw [List.drop_zero, Nat.sub_zero, ← List.take_take]
  rw [List.take_length]
theorem cutA_drop {α : Type} {xs : List α} {j : Nat} : cutA xs (some (j : Int)) none = xs.drop j := by
  unfold cutA
  rw [HT.sIx_none, HT.sIx_nat]
  by_cases c : j ≤ xs.length
  · rw [Nat.min_eq_left c, List.take_of_length_le (by rw [List.length_drop]; exact Nat.le_refl _)]
  · rw [List.drop_of_length_le (i := j) (by omega), Nat.min_eq_right (by omega), List.drop_length, List.take_nil]
/-! stamps of words -/
def StW (d : Dv) : Prop := ∃ (n : Int) (y : Str), d = stD n y ∧ 1 ≤ n ∧ wordS y = true
theorem StW.d {d : Dv} (h : StW d) : StD d := by
  obtain ⟨n, y, rfl, _, hy⟩ := h
  exact ⟨n, y, rfl, vS_low (wordS_le hy).2.2⟩
theorem vS_w {x : Str} (h : wordS x = true) : vS x := vS_low (wordS_le h).2.2
theorem pyD_st {n : Int} {y : Str} : pyD (stD n y) = some (.tuple [.int n, .str y]) := rfl
theorem pyDs_st : ∀ {ds : List Dv}, (∀ d ∈ ds, StD d) → ∃ ps, pyDs ds = some ps ∧ ps = ds.map plD
  | [], _ => ⟨[], rfl, rfl⟩
  | d :: ds, h => by
    obtain ⟨ps, e1, e2⟩ := pyDs_st fun x hx => h x (List.mem_cons_of_mem _ hx)
    obtain ⟨n, y, rfl, _⟩ := h d List.mem_cons_self
    refine ⟨.tuple [.int n, .str y] :: ps, ?_, by rw [e2]; rfl⟩
    show (match pyD (stD n y), pyDs ds with | some p, some qs => some (p :: qs) | _, _ => none) = _
    rw [e1]; rfl
end Fh
namespace Fh
open PySem PySem.Spec PyProof.Rows L2 RZ Fd
open Fd (Dv)
/-! ### data: ==, in, by being the same -/
mutual
def sdv : Dv → Bool
  | .non => true
  | .bl _ => false
  | .int _ => true
  | .str _ => true
  | .tup xs => sdvs xs
  | .lst xs => sdvs xs
  | .frl _ => false
  | .dct _ => false
  | .dctT _ => false
  | .obj _ _ => false
def sdvs : List Dv → Bool
  | [] => true
  | d :: ds => sdv d && sdvs ds
end
mutual
theorem eqv_sdv : ∀ {d e : Dv} {p q : PyData}, sdv d = true → sdv e = true → pyD d = some p → pyD e = some q → (PyData.eqv p q = true ↔ d = e)
  | .non, e, p, q, h1, h2, e1, e2 => by
    cases e1
    cases e <;> first | (cases h2; done) | skip
    all_goals first | (cases e2; simp [PyData.eqv]; done) | skip
    all_goals (rw [pyD] at e2; obtain ⟨z, _, rfl⟩ := Option.map_eq_some_iff.mp e2; simp [PyData.eqv])
  | .int i, e, p, q, h1, h2, e1, e2 => by
    cases e1
    cases e <;> first | (cases h2; done) | skip
    all_goals first | (cases e2; simp [PyData.eqv]; done) | skip
    all_goals (rw [pyD] at e2; obtain ⟨z, _, rfl⟩ := Option.map_eq_some_iff.mp e2; simp [PyData.eqv])
  | .str i, e, p, q, h1, h2, e1, e2 => by
    cases e1
    cases e <;> first | (cases h2; done) | skip
    all_goals first | (cases e2; simp [PyData.eqv]; done) | skip
    all_goals (rw [pyD] at e2; obtain ⟨z, _, rfl⟩ := Option.map_eq_some_iff.mp e2; simp [PyData.eqv])
  | .tup xs, e, p, q, h1, h2, e1, e2 => by
    rw [pyD] at e1
    obtain ⟨ps, hp, rfl⟩ := Option.map_eq_some_iff.mp e1
    cases e <;> first | (cases h2; done) | skip
    case tup ys =>
      rw [pyD] at e2
      obtain ⟨qs, hq, rfl⟩ := Option.map_eq_some_iff.mp e2
      rw [PyData.eqv, eqvs_sdv h1 h2 hp hq]
      exact ⟨fun z => by rw [z], fun z => by cases z; rfl⟩
    case lst ys =>
      rw [pyD] at e2
      obtain ⟨qs, hq, rfl⟩ := Option.map_eq_some_iff.mp e2
      simp [PyData.eqv]
    all_goals (cases e2; simp [PyData.eqv])
  | .lst xs, e, p, q, h1, h2, e1, e2 => by
    rw [pyD] at e1
    obtain ⟨ps, hp, rfl⟩ := Option.map_eq_some_iff.mp e1
    cases e <;> first | (cases h2; done) | skip
    case lst ys =>
      rw [pyD] at e2
      obtain ⟨qs, hq, rfl⟩ := Option.map_eq_some_iff.mp e2
      rw [PyData.eqv, eqvs_sdv h1 h2 hp hq]
      exact ⟨fun z => by rw [z], fun z => by cases z; rfl⟩
    case tup ys =>
      rw [pyD] at e2
      obtain ⟨qs, hq, rfl⟩ := Option.map_eq_some_iff.mp e2
      simp [PyData.eqv]
    all_goals (cases e2; simp [PyData.eqv])
  | .bl _, e, p, q, h1, h2, e1, e2 => nomatch h1
  | .frl _, e, p, q, h1, h2, e1, e2 => nomatch h1
  | .dct _, e, p, q, h1, h2, e1, e2 => nomatch h1
  | .dctT _, e, p, q, h1, h2, e1, e2 => nomatch h1
  | .obj _ _, e, p, q, h1, h2, e1, e2 => nomatch h1
theorem eqvs_sdv : ∀ {d e : List Dv} {p q : List PyData}, sdvs d = true → sdvs e = true → pyDs d = some p → pyDs e = some q → (PyData.eqvAll p q = true ↔ d = e)
  | [], e, p, q, h1, h2, e1, e2 => by
    cases e1
    cases e with
    | nil => cases e2; simp [PyData.eqvAll]
    | cons y ys =>
      rw [pyDs] at e2
      split at e2
      · cases e2; simp [PyData.eqvAll]
      · cases e2
  | x :: xs, e, p, q, h1, h2, e1, e2 => by
    rw [pyDs] at e1
    split at e1
    · rename_i p1 ps hp hps
      cases e1
      obtain ⟨a1, a2⟩ := Bool.and_eq_true_iff.mp h1
      cases e with
      | nil => cases e2; simp [PyData.eqvAll]
      | cons y ys =>
        rw [pyDs] at e2
        split at e2
        · rename_i q1 qs hq hqs
          cases e2
          obtain ⟨b1, b2⟩ := Bool.and_eq_true_iff.mp h2
          rw [PyData.eqvAll, Bool.and_eq_true, eqv_sdv a1 b1 hp hq, eqvs_sdv a2 b2 hps hqs]
          exact ⟨fun ⟨z1, z2⟩ => by rw [z1, z2], fun z => by cases z; exact ⟨rfl, rfl⟩⟩
        · cases e2
    · cases e1
end
/-- data such as is told by being the same -/
def okE (d : Dv) : Prop := sdv d = true ∧ okB d = true
theorem plD_of {d : Dv} (h : okB d = true) : pyD d = some (plD d) := by
  obtain ⟨p, hp, _⟩ := Fd.okB_ok h
  unfold plD; rw [hp]; rfl
theorem eqv_ok {d e : Dv} (h1 : okE d) (h2 : okE e) : PyData.eqv (plD d) (plD e) = true ↔ d = e := eqv_sdv h1.1 h2.1 (plD_of h1.2) (plD_of h2.2)
theorem sh_ok {d : Dv} (h : okB d = true) : SeqAt.shaped (plD d) = true := by
  obtain ⟨p, hp, hs⟩ := Fd.okB_ok h
  unfold plD; rw [hp]; exact hs
theorem eqP_ok {neg : Bool} {d e : Dv} (h1 : okB d = true) (h2 : okB e = true) : eqP neg d e = some (.bl (if neg then !PyData.eqv (plD d) (plD e) else PyData.eqv (plD d) (plD e))) := by
  unfold eqP
  rw [plD_of h1, plD_of h2]
  dsimp only
  rw [if_pos (by rw [sh_ok h1, sh_ok h2]; rfl)]
theorem eqA_ok {neg : Bool} {d e : Dv} (h1 : okB d = true) (h2 : okB e = true) : eqA neg d e = some (.bl (if neg then !PyData.eqv (plD d) (plD e) else PyData.eqv (plD d) (plD e))) := by
  unfold eqA; rw [eqP_ok h1 h2]; rfl
open Classical in
/-- the same? -/
noncomputable def same (d e : Dv) : Bool := decide (d = e)
theorem same_iff {d e : Dv} : same d e = true ↔ d = e := by unfold same; exact @decide_eq_true_iff _ (_)
theorem same_self {d : Dv} : same d d = true := same_iff.mpr rfl
theorem same_ne {d e : Dv} (h : d ≠ e) : same d e = false := by
  cases c : same d e with
  | false => rfl
  | true => exact absurd (same_iff.mp c) h
theorem eqv_same {d e : Dv} (h1 : okE d) (h2 : okE e) : PyData.eqv (plD d) (plD e) = same d e := by
  rw [Bool.eq_iff_iff, eqv_ok h1 h2, same_iff]
theorem x_eqE {d e : Dv} (h1 : okE d) (h2 : okE e) : eqX d e = some (.bl (same d e)) := eqX_of (by rw [eqA_ok h1.2 h2.2, eqv_same h1 h2]; rfl)
theorem x_neE {d e : Dv} (h1 : okE d) (h2 : okE e) : neX d e = some (.bl (!same d e)) := neX_of (by rw [eqA_ok h1.2 h2.2, eqv_same h1 h2]; rfl)
theorem same_str {a b : Str} : same (.str a) (.str b) = decide (a = b) := by
  rw [Bool.eq_iff_iff, same_iff, decide_eq_true_iff]
  exact ⟨fun z => by cases z; rfl, fun z => by rw [z]⟩
theorem same_int {a b : Int} : same (.int a) (.int b) = decide (a = b) := by
  rw [Bool.eq_iff_iff, same_iff, decide_eq_true_iff]
  exact ⟨fun z => by cases z; rfl, fun z => by rw [z]⟩
theorem okE_non : okE .non := ⟨rfl, rfl⟩
theorem okE_int {i : Int} : okE (.int i) := ⟨rfl, rfl⟩
theorem okE_str {x : Str} (h : vS x) : okE (.str x) := ⟨rfl, by
  show (PyData.strOk x && true) = true
  rw [vS_ok h]; rfl⟩
theorem okE_st {d : Dv} (h : StD d) : okE d := by
  obtain ⟨n, x, rfl, hx⟩ := h
  exact ⟨rfl, st_shaped hx⟩
theorem okB_bl {b : Bool} : okB (.bl b) = true := rfl
/-- rows of data: no deeper than n -/
structure okN (n : Nat) (d : Dv) : Prop where
  e : okE d
  dp : (plD d).depth ≤ n
theorem okNs {n : Nat} : ∀ {ds : List Dv}, (∀ d ∈ ds, okN n d) → sdvs ds = true ∧ ∃ ps, pyDs ds = some ps ∧ ps = ds.map plD ∧ PyData.canLayAll0 ps = true ∧ PyData.depthAll ps ≤ n
  | [], _ => ⟨rfl, [], rfl, rfl, rfl, Nat.zero_le _⟩
  | d :: ds, h => by
    obtain ⟨h1, ps, h2, h3, h4, h5⟩ := okNs fun x hx => h x (List.mem_cons_of_mem _ hx)
    have hd := h d List.mem_cons_self
    refine ⟨by rw [sdvs, hd.e.1, h1]; rfl, plD d :: ps, ?_, by rw [h3]; rfl, ?_, ?_⟩
    · rw [pyDs, plD_of hd.e.2, h2]
    · rw [PyData.canLayAll0, h4]
      have := sh_ok hd.e.2
      rw [SeqAt.shaped, Bool.and_eq_true] at this
      rw [this.1]; rfl
    · rw [PyData.depthAll]
      exact Nat.max_le.mpr ⟨hd.dp, h5⟩
theorem okN_tup {n : Nat} {ds : List Dv} (h : ∀ d ∈ ds, okN n d) (hn : n ≤ 60) : okN (n + 1) (.tup ds) := by
  obtain ⟨h1, ps, h2, h3, h4, h5⟩ := okNs h
  have e : pyD (.tup ds) = some (.tuple ps) := by rw [pyD, h2]; rfl
  have dp : (PyData.tuple ps).depth ≤ n + 1 := by rw [PyData.depth]; omega
  refine ⟨⟨by rw [sdv]; exact h1, ?_⟩, by unfold plD; rw [e]; exact dp⟩
  unfold okB
  rw [e]
  show (PyData.canLay0 _ && _) = true
  rw [PyData.canLay0, h4, Bool.true_and, decide_eq_true_eq]; omega
theorem okN_lst {n : Nat} {ds : List Dv} (h : ∀ d ∈ ds, okN n d) (hn : n ≤ 60) : okN (n + 1) (.lst ds) := by
  obtain ⟨h1, ps, h2, h3, h4, h5⟩ := okNs h
  have e : pyD (.lst ds) = some (.list ps) := by rw [pyD, h2]; rfl
  have dp : (PyData.list ps).depth ≤ n + 1 := by rw [PyData.depth]; omega
  refine ⟨⟨by rw [sdv]; exact h1, ?_⟩, by unfold plD; rw [e]; exact dp⟩
  unfold okB
  rw [e]
  show (PyData.canLay0 _ && _) = true
  rw [PyData.canLay0, h4, Bool.true_and, decide_eq_true_eq]; omega
theorem okN_int {n : Nat} {i : Int} : okN n (.int i) := ⟨okE_int, by show (PyData.int i).depth ≤ n; rw [PyData.depth]; exact Nat.zero_le _⟩
theorem okN_non {n : Nat} : okN n .non := ⟨okE_non, by show (PyData.none).depth ≤ n; rw [PyData.depth]; exact Nat.zero_le _⟩
theorem okN_str {n : Nat} {x : Str} (h : vS x) : okN n (.str x) := ⟨okE_str h, by show (PyData.str x).depth ≤ n; rw [PyData.depth]; exact Nat.zero_le _⟩
theorem okN.mono {n m : Nat} {d : Dv} (h : okN n d) (hm : n ≤ m) : okN m d := ⟨h.e, Nat.le_trans h.dp hm⟩
theorem okN_st {d : Dv} (h : StD d) : okN 1 d := by
  obtain ⟨n, x, rfl, hx⟩ := h
  refine okN_tup (n := 0) (fun d hd => ?_) (by decide)
  rcases List.mem_cons.mp hd with rfl | hd
  · exact okN_int
  · rcases List.mem_cons.mp hd with rfl | hd
    · exact okN_str hx
    · cases hd
/-- x in a list of data -/
theorem in_dat {neg : Bool} {n : Nat} {d : Dv} {ds : List Dv} (hd : okN n d) (hs : ∀ e ∈ ds, okN n e) (hn : n ≤ 60) (h1 : inS neg d (.lst ds) = none) (h2 : inQ neg d (.lst ds) = none) : ∃ b : Bool, inA neg d (.lst ds) = some (.bl (if neg = true then !b else b)) ∧ (b = true ↔ d ∈ ds) := by
  have hl := okN_lst hs hn
  obtain ⟨_, ps, e2, e3, _, _⟩ := okNs hs
  refine ⟨ps.any fun z => PyData.eqv z (plD d), ?_, ?_⟩
  · unfold inA
    rw [h1, h2]
    show inDp neg d (.lst ds) = _
    unfold inDp
    have el : pyD (.lst ds) = some (.list ps) := by rw [pyD, e2]; rfl
    rw [plD_of hd.e.2, el]
    dsimp only
    have s2 : SeqAt.shaped (.list ps) = true := by
      have := sh_ok hl.e.2
      unfold plD at this
      rw [el] at this
      exact this
    rw [if_pos ⟨sh_ok hd.e.2, s2⟩]
  · rw [e3, List.any_map, List.any_eq_true]
    constructor
    · rintro ⟨x, hx, h⟩
      rw [← (eqv_ok (hs x hx).e hd.e).mp h]; exact hx
    · intro h
      exact ⟨d, h, (eqv_ok hd.e hd.e).mpr rfl⟩
theorem in_st {neg : Bool} {d : Dv} {ds : List Dv} (hd : StD d) (hs : ∀ e ∈ ds, StD e) : ∃ b : Bool, inA neg d (.lst ds) = some (.bl (if neg = true then !b else b)) ∧ (b = true ↔ d ∈ ds) := by
  refine in_dat (okN_st hd) (fun e he => okN_st (hs e he)) (by decide) ?_ ?_ <;> (obtain ⟨n, x, rfl, _⟩ := hd; rfl)
theorem dtD_lst0 {h : AH} {ds : List Dv} : dtD h (.d (.lst ds)) = none := rfl
theorem dtD_tup0 {h : AH} {ds : List Dv} : dtD h (.d (.tup ds)) = none := rfl
theorem dtD_str0 {h : AH} {x : Str} : dtD h (.d (.str x)) = none := rfl
end Fh
namespace Fh
open PySem PySem.Spec PyProof.Rows L2 RZ Fd
open Fd (Dv)
theorem runLc_use {env : Env} {g : MG} {t : MT} {m : ME} : ∀ {xs : List Av} {h : AH} {r : Option (List Av × AH)}, runLc env g t m xs h = r → ∀ (I : Nat → AH → List Av → Prop) (ys0 : List Av), I 0 h ys0 →
    (∀ i x h ys, xs[i]? = some x → I i h ys → ∃ e1 h1, g x env h = some (e1, h1) ∧ ((∃ h2, t e1 h1 = some (false, h2) ∧ I (i + 1) h2 ys) ∨ (∃ h2, t e1 h1 = some (true, h2) ∧ ∃ y h3, m e1 h2 = some (y, h3) ∧ I (i + 1) h3 (ys ++ [y])))) →
    ∃ ys h', r = some (ys, h') ∧ I xs.length h' (ys0 ++ ys)
  | [], h, r, hr, I, ys0, i0, turn => ⟨[], h, hr.symm, by rw [List.append_nil]; exact i0⟩
  | x :: xs, h, r, hr, I, ys0, i0, turn => by
    obtain ⟨e1, h1, g1, z⟩ := turn 0 x h ys0 rfl i0
    have hr2 : ((g x env h).bind fun (env1, h1) => (t env1 h1).bind fun (b, h2) => if b = true then
      (m env1 h2).bind fun (y, h3) => (runLc env g t m xs h3).bind fun (ys, h4) => some (y :: ys, h4)
      else runLc env g t m xs h2) = r := hr
    rw [g1] at hr2
    rcases z with ⟨h2, t1, i1⟩ | ⟨h2, t1, y, h3, m1, i1⟩
    · have hr3 : ((t e1 h1).bind fun (b, h2) => if b = true then
        (m e1 h2).bind fun (y, h3) => (runLc env g t m xs h3).bind fun (ys, h4) => some (y :: ys, h4)
        else runLc env g t m xs h2) = r := hr2
      rw [t1] at hr3
      have hr4 : runLc env g t m xs h2 = r := hr3
      exact runLc_use hr4 (fun i => I (i + 1)) ys0 i1 fun i x h ys hx hi => turn (i + 1) x h ys hx hi
    · have hr3 : ((t e1 h1).bind fun (b, h2) => if b = true then
        (m e1 h2).bind fun (y, h3) => (runLc env g t m xs h3).bind fun (ys, h4) => some (y :: ys, h4)
        else runLc env g t m xs h2) = r := hr2
      rw [t1] at hr3
      have hr4 : ((m e1 h2).bind fun (y, h3) => (runLc env g t m xs h3).bind fun (ys, h4) => some (y :: ys, h4)) = r := hr3
      rw [m1] at hr4
      have hr5 : ((runLc env g t m xs h3).bind fun (ys, h4) => some (y :: ys, h4)) = r := hr4
      obtain ⟨ys, h', e, j⟩ := runLc_use (rfl : runLc env g t m xs h3 = _) (fun i => I (i + 1)) (ys0 ++ [y]) i1 fun i x h ys hx hi => turn (i + 1) x h ys hx hi
      rw [e] at hr5
      refine ⟨y :: ys, h', hr5.symm, ?_⟩
      rw [List.append_assoc] at j
      exact j
theorem relock {h : AH} {q : Nat} {b : Bd} (e : h[q]? = some (.lv b)) : (h.set q (.lk b)).set q (.lv b) = h := by
  rw [List.set_set]
  obtain ⟨h1, h2⟩ := List.getElem?_eq_some_iff.mp e
  rw [← h2]
  exact List.set_getElem_self h1
/-- a stamp of a word, its number not above M -/
def StM (M : Int) (d : Dv) : Prop := ∃ (n : Int) (y : Str), d = stD n y ∧ 1 ≤ n ∧ n ≤ M ∧ wordS y = true
theorem StM.w {M : Int} {d : Dv} (h : StM M d) : StW d := by
  obtain ⟨n, y, e, h1, _, h2⟩ := h
  exact ⟨n, y, e, h1, h2⟩
theorem StM.mono {M N : Int} {d : Dv} (h : StM M d) (hm : M ≤ N) : StM N d := by
  obtain ⟨n, y, e, h1, h3, h2⟩ := h
  exact ⟨n, y, e, h1, Int.le_trans h3 hm, h2⟩
theorem pK_mem {l : List (Key × Dv)} {k : Key} {d : Dv} {p : Key × Dv} (h : p ∈ pK l k d) : p = (k, d) ∨ p ∈ l := by
  unfold pK at h
  split at h
  · obtain ⟨q, hq, e⟩ := List.mem_map.mp h
    split at e
    · rename_i c
      left; rw [← e, c]
    · right; rw [← e]; exact hq
  · rcases List.mem_append.mp h with h | h
    · exact .inr h
    · rcases List.mem_cons.mp h with h | h
      · exact .inl h
      · cases h
theorem x_ne_str {a b : Str} (ha : vS a) (hb : vS b) : neX (.str a) (.str b) = some (.bl (!decide (a = b))) := by
  rw [x_neE (okE_str ha) (okE_str hb), same_str]
theorem x_eq_str {a b : Str} (ha : vS a) (hb : vS b) : eqX (.str a) (.str b) = some (.bl (decide (a = b))) := by
  rw [x_eqE (okE_str ha) (okE_str hb), same_str]
theorem x_max_st {d e : Dv} (hd : StD d) (he : StD e) : ∃ z, maxX [d, e] = some z ∧ (z = d ∨ z = e) := by
  obtain ⟨n, x, rfl, hx⟩ := hd
  obtain ⟨m, y, rfl, hy⟩ := he
  refine ⟨if PySem.W.dataLt (plD (stD n x)) (plD (stD m y)) = true then stD m y else stD n x, ?_, ?_⟩
  · unfold maxX
    rw [show minmaxD maxI [stD n x, stD m y] = none from rfl]
    show mx2B [stD n x, stD m y] = _
    unfold mx2B
    dsimp only
    rw [if_pos]
    have k1 : okB (stD n x) = true := st_shaped hx
    have k2 : okB (stD m y) = true := st_shaped hy
    rw [k1, k2]
    rfl
  · split
    · exact .inr rfl
    · exact .inl rfl
theorem lAt_new {h : AH} {ds : List Dv} : lAt (h ++ [.lv (.lst (ds.map .d))]) h.length ds := app_new
theorem r_addT {a b : List Dv} (h : a.length + b.length ≤ sizeLine) : addD (.tup a) (.tup b) = some (.tup (a ++ b)) := by
  show (if a.length + b.length ≤ sizeLine then some (Dv.tup (a ++ b)) else none) = _
  rw [if_pos h]
theorem r_addL {a b : List Dv} (h : a.length + b.length ≤ sizeLine) : addD (.lst a) (.lst b) = some (.lst (a ++ b)) := by
  show (if a.length + b.length ≤ sizeLine then some (Dv.lst (a ++ b)) else none) = _
  rw [if_pos h]
theorem map_of_get {α β : Type} {f : α → β} {l : List α} {i : Nat} {y : β} (h : (l.map f)[i]? = some y) : ∃ x, l[i]? = some x ∧ y = f x := by
  rw [List.getElem?_map] at h
  obtain ⟨x, hx, e⟩ := Option.map_eq_some_iff.mp h
  exact ⟨x, hx, e.symm⟩
end Fh
namespace Fh
open PySem PySem.Spec PyProof.Rows L2 RZ
open Fd (Dv Rep Reps kD gK pK pyD eqA ltA hnl lackD Mk StD stD stLt plD okB OpD rEqA same_new addD PE_or)
variable {P : Addr → Prop}
section
variable {X : Cx} {K : PySem.W.Frag} {a b c e : Expr} {es : List Expr} {pos : Pos} {ma mb mc me : ME} {ta tb : MT} {mr : MA}
/-! ### list + list, cells too -/
def listH (h : AH) (x : Av) : Option (List Av) := match x with
  | .ref n => match rd h n with
    | some (.lst xs) => some xs
    | _ => none
  | x => listT x
theorem listH_rv {H : Hp} {μ : List Addr} {h : AH} {v : V} {x : Av} {xs : List Av} (rl : Rl K P μ h H) (r : RV K H μ (Lv P μ h) v x) (e : listH h x = some xs) : ∃ a vs, v = .ref a ∧ H a = some (.lst vs) ∧ RVs K H μ (Lv P μ h) vs xs := by
  cases x with
  | ref n =>
    unfold listH at e
    dsimp only at e
    split at e
    · rename_i ys hr
      cases e
      obtain ⟨a, u, hm, _, br, hu⟩ := rl.rd hr
      cases r with
      | ref hm2 =>
        rw [hm] at hm2
        cases hm2
        cases br with
        | lst rs =>
          rcases hu with hu | hu
          · exact ⟨_, _, rfl, hu, rs⟩
          · cases hu
    · cases e
  | d x => exact listT_rv r e
  | tup x => exact listT_rv r e
  | lst x => exact listT_rv r e
def addH (x y : Av) (h : AH) : Option (Av × AH) := match listH h x, listH h y with
  | some xs, some ys => if xs.length + ys.length ≤ sizeLine then some (mkL (xs ++ ys), h) else none
  | _, _ => opM true addD x y h
def vAddH (ma mb : ME) : ME := fun env h => (ma env h).bind fun (x, h1) => (mb env h1).bind fun (y, h2) => addH x y h2
theorem he_addH (ha : HE X a ma) (hb : HE X b mb) : HE X (.BinOp a .Add b pos) (vAddH ma mb) := pe_weak (pe_op Fd.op_addA ha hb) fun σ H Q ⟨P, μ, env, h, z, h', rl, er, e, q⟩ => by
  obtain ⟨⟨x, h1⟩, e1, e⟩ := bs e
  obtain ⟨⟨y, h2⟩, e2, e⟩ := bs e
  refine rE_to rl er e1 fun μ1 H1 v rl1 s1 er1 v1 => rE_to rl1 er1 e2 fun μ2 H2 u rl2 s2 er2 v2 => ?_
  dsimp only at e
  unfold addH at e
  split at e
  · rename_i xs ys hx hy
    obtain ⟨c, e⟩ := ifs e
    cases e
    obtain ⟨p1, vs, rfl, k1, k2⟩ := listH_rv rl2 (v1.on rl1 s2) hx
    obtain ⟨p2, us, rfl, k3, k4⟩ := listH_rv rl2 v2 hy
    refine .inr (.inr (.inl ⟨p1, p2, vs, us, rfl, rfl, k1, k3, by rw [k2.len, k4.len]; exact c, fun p hp => ?_⟩))
    have sm : Same H2 (upd H2 p (.lst (vs ++ us))) := same_new hp
    exact q μ2 _ _ (rl2.same sm) ((s1.trans s2).trans (.same rl2 sm)) (mkL_rv upd_same (fun z => rl2.has z hp) ((k2.app k4).on rl2 (.same rl2 sm)))
  · exact opM_ok Fd.opD_add rl2 (v1.on rl1 s2) v2 e fun H3 w hh rl3 s3 rw_ => by subst hh; exact q μ2 H3 w rl3 ((s1.trans s2).trans s3) rw_
/-- .. a list in a cell -/
def vAddC (ma mb : ME) : ME := fun env h => (ma env h).bind fun (x, h1) => (mb env h1).bind fun (y, h2) => (listH h2 x).bind fun xs => (listH h2 y).bind fun ys => if xs.length + ys.length ≤ sizeLine then some (.ref h2.length, h2 ++ [.lv (.lst (xs ++ ys))]) else none
theorem he_addC (ha : HE X a ma) (hb : HE X b mb) : HE X (.BinOp a .Add b pos) (vAddC ma mb) := pe_weak (pe_op Fd.op_addA ha hb) fun σ H Q ⟨P, μ, env, h, z, h', rl, er, e, q⟩ => by
  obtain ⟨⟨x, h1⟩, e1, e⟩ := bs e
  obtain ⟨⟨y, h2⟩, e2, e⟩ := bs e
  refine rE_to rl er e1 fun μ1 H1 v rl1 s1 er1 v1 => rE_to rl1 er1 e2 fun μ2 H2 u rl2 s2 er2 v2 => ?_
  obtain ⟨xs, hx, e⟩ := bs e
  obtain ⟨ys, hy, e⟩ := bs e
  obtain ⟨c, e⟩ := ifs e
  cases e
  obtain ⟨p1, vs, rfl, k1, k2⟩ := listH_rv rl2 (v1.on rl1 s2) hx
  obtain ⟨p2, us, rfl, k3, k4⟩ := listH_rv rl2 v2 hy
  refine .inr (.inr (.inl ⟨p1, p2, vs, us, rfl, rfl, k1, k3, by rw [k2.len, k4.len]; exact c, fun p hp => ?_⟩))
  obtain ⟨rl3, s3⟩ := rl2.new hp (b := .lst (xs ++ ys)) (.lst (k2.app k4))
  exact q _ _ _ rl3 ((s1.trans s2).trans s3) (ref_new rl2)
end
theorem addH_int {a b : Int} {h : AH} : addH (.d (.int a)) (.d (.int b)) h = some (.d (.int (a + b)), h) := by
  show opM true addD (.d (.int a)) (.d (.int b)) h = _
  rw [opM_d]; rfl
theorem addH_str {a b : Str} {h : AH} (e : a.length + b.length ≤ sizeLine) : addH (.d (.str a)) (.d (.str b)) h = some (.d (.str (a ++ b)), h) := by
  show opM true addD (.d (.str a)) (.d (.str b)) h = _
  rw [opM_d, Fd.addD_str e]; rfl
theorem addH_strO {a b : Str} {h : AH} : addH (.d (.str a)) (.d (.str b)) h = opM true addD (.d (.str a)) (.d (.str b)) h := rfl
theorem addH_tup {a b : List Dv} {h : AH} : addH (.d (.tup a)) (.d (.tup b)) h = opM true addD (.d (.tup a)) (.d (.tup b)) h := rfl
theorem listH_d {h : AH} {ds : List Dv} : listH h (.d (.lst ds)) = some (ds.map .d) := rfl
theorem listH_l {h : AH} {xs : List Av} : listH h (.lst xs) = some xs := rfl
theorem listH_r {h : AH} {n : Nat} {xs : List Av} (e : rd h n = some (.lst xs)) : listH h (.ref n) = some xs := by
  unfold listH; dsimp only; rw [e]
theorem addH_L {x y : Av} {xs ys : List Av} {h : AH} (h1 : listH h x = some xs) (h2 : listH h y = some ys) (e : xs.length + ys.length ≤ sizeLine) : addH x y h = some (mkL (xs ++ ys), h) := by
  unfold addH
  rw [h1, h2]
  dsimp only
  rw [if_pos e]
end Fh
namespace Fh
open PySem PySem.Spec PyProof.Rows L2 RZ Fd
open Fd (Dv)
/-! ### comprehensions over data, that change nothing -/
theorem runLc_nm {env : Env} {i : Nat} {t : MT} {me : ME} {h : AH} : ∀ {ds : List Dv} (c : Dv → Bool) (f : Dv → Dv), (∀ d ∈ ds, t (env.set i (some (.d d))) h = some (c d, h) ∧ (c d = true → me (env.set i (some (.d d))) h = some (.d (f d), h))) →
    runLc env (gNm i) t me (ds.map Av.d) h = some (((ds.filter c).map f).map Av.d, h)
  | [], c, f, hx => rfl
  | d :: ds, c, f, hx => by
    have ih := runLc_nm (ds := ds) c f fun x hm => hx x (List.mem_cons_of_mem _ hm)
    obtain ⟨h1, h2⟩ := hx d List.mem_cons_self
    show ((t (env.set i (some (.d d))) h).bind fun (b, h2) => if b = true then
      (me (env.set i (some (.d d))) h2).bind fun (y, h3) => (runLc env (gNm i) t me (ds.map Av.d) h3).bind fun (ys, h4) => some (y :: ys, h4)
      else runLc env (gNm i) t me (ds.map Av.d) h2) = _
    rw [h1]
    cases hc : c d with
    | true =>
      show ((me (env.set i (some (.d d))) h).bind fun (y, h3) => (runLc env (gNm i) t me (ds.map Av.d) h3).bind fun (ys, h4) => some (y :: ys, h4)) = _
      rw [h2 hc]
      show ((runLc env (gNm i) t me (ds.map Av.d) h).bind fun (ys, h4) => some (Av.d (f d) :: ys, h4)) = _
      rw [ih, List.filter_cons, if_pos hc]; rfl
    | false =>
      show runLc env (gNm i) t me (ds.map Av.d) h = _
      rw [ih, List.filter_cons, if_neg (by rw [hc]; exact Bool.false_ne_true)]
theorem runLc_nm1 {env : Env} {i : Nat} {me : ME} {h : AH} {ds : List Dv} (f : Dv → Dv) (hx : ∀ d ∈ ds, me (env.set i (some (.d d))) h = some (.d (f d), h)) :
    runLc env (gNm i) tYesM me (ds.map Av.d) h = some ((ds.map f).map Av.d, h) := by
  rw [runLc_nm (fun _ => true) f fun d hd => ⟨rfl, fun _ => hx d hd⟩, filter_true]
theorem zipA_d {xs ys : List Dv} : zipA (xs.map Av.d) (ys.map Av.d) = ((xs.zip ys).map fun p => Dv.tup [p.1, p.2]).map Av.d := by
  unfold zipA
  rw [List.zip_map, List.map_map, List.map_map]
  refine List.map_congr_left fun p _ => ?_
  show mkT [.d p.1, .d p.2] = _
  rw [mkT_d2]; rfl
theorem runLc_zip1 {env : Env} {a b : Nat} {me : ME} {h : AH} : ∀ {ps : List (Dv × Dv)} (f : Dv × Dv → Dv), (∀ p ∈ ps, me ((env.set a (some (.d p.1))).set b (some (.d p.2))) h = some (.d (f p), h)) →
    runLc env (gTp 2 (gCs (gNm a) (gCs (gNm b) gNl))) tYesM me ((ps.map fun p => Dv.tup [p.1, p.2]).map Av.d) h = some ((ps.map f).map Av.d, h)
  | [], f, hx => rfl
  | p :: ps, f, hx => by
    have ih := runLc_zip1 (ps := ps) f fun x hm => hx x (List.mem_cons_of_mem _ hm)
    have h2 := hx p List.mem_cons_self
    show ((me ((env.set a (some (.d p.1))).set b (some (.d p.2))) h).bind fun (y, h3) => (runLc env (gTp 2 (gCs (gNm a) (gCs (gNm b) gNl))) tYesM me ((ps.map fun p => Dv.tup [p.1, p.2]).map Av.d) h3).bind fun (ys, h4) => some (y :: ys, h4)) = _
    rw [h2]
    show ((runLc env (gTp 2 (gCs (gNm a) (gCs (gNm b) gNl))) tYesM me ((ps.map fun p => Dv.tup [p.1, p.2]).map Av.d) h).bind fun (ys, h4) => some (Av.d (f p) :: ys, h4)) = _
    rw [ih]; rfl
theorem mk_bls {α : Type} {f : α → Bool} {l : List α} : mkL ((l.map fun x => Dv.bl (f x)).map Av.d) = .d (.lst (l.map fun x => .bl (f x))) := mkL_map
/-! ### words and stamps among any data -/
mutual
def gd : Dv → Bool
  | .str x => decide (x.length ≤ 100000)
  | .tup xs => gds xs && decide (xs.length ≤ 100000)
  | .obj _ _ => false
  | _ => true
def gds : List Dv → Bool
  | [] => true
  | d :: ds => gd d && gds ds
end
theorem gds_all : ∀ {ds : List Dv}, gds ds = true → ∀ d ∈ ds, gd d = true
  | d :: ds, h, x, hx => by
    obtain ⟨h1, h2⟩ := Bool.and_eq_true_iff.mp h
    rcases List.mem_cons.mp hx with rfl | hx
    · exact h1
    · exact gds_all h2 x hx
theorem gds_of : ∀ {ds : List Dv}, (∀ d ∈ ds, gd d = true) → gds ds = true
  | [], _ => rfl
  | d :: ds, h => by
    rw [gds, h d List.mem_cons_self, gds_of fun x hx => h x (List.mem_cons_of_mem _ hx)]; rfl
theorem gd_nobj {d : Dv} (h : gd d = true) : nobj d = true := by
  cases d <;> first | rfl | cases h
def wholeB : Dv → Bool
  | .int _ => true
  | _ => false
def numB : Dv → Bool
  | .int n => decide (1 ≤ n)
  | _ => false
def stampB : Dv → Bool
  | .tup [a, b] => numB a && wordB b
  | _ => false
def entryB : Dv → Bool
  | .tup [a, b] => wordB a && stampB b
  | _ => false
def fstS : Dv → Str
  | .tup (.str x :: _) => x
  | _ => ""
def sndD : Dv → Dv
  | .tup [_, b] => b
  | _ => .non
def ltS (x y : Str) : Bool := decide (x.cps.toList < y.cps.toList)
def riseB (xs : List Dv) : Bool := (xs.zip (xs.drop 1)).all fun p => ltS (fstS p.1) (fstS p.2)
def entriesB : Dv → Bool
  | .tup xs => xs.all entryB && riseB xs
  | _ => false
def writeB : Dv → Bool
  | .tup [s, .str k, v, .tup xs] => stampB s && (wordS k && (wholeB v && (entriesB (.tup xs) && xs.all fun e => !decide (fstS e = k) && stLt (sndD e) s)))
  | _ => false
theorem wordB_str {d : Dv} (h : wordB d = true) : ∃ x, d = .str x ∧ wordS x = true := by
  cases d <;> first | cases h | exact ⟨_, rfl, h⟩
theorem stampB_st {d : Dv} (h : stampB d = true) : StW d := by
  unfold stampB at h
  split at h
  · rename_i a b
    obtain ⟨h1, h2⟩ := Bool.and_eq_true_iff.mp h
    obtain ⟨y, rfl, hy⟩ := wordB_str h2
    cases a <;> first | cases h1 | skip
    rename_i n
    exact ⟨n, y, rfl, of_decide_eq_true h1, hy⟩
  · cases h
theorem stampB_of {d : Dv} (h : StW d) : stampB d = true := by
  obtain ⟨n, y, rfl, h1, h2⟩ := h
  show (decide (1 ≤ n) && wordS y) = true
  rw [decide_eq_true h1, h2]; rfl
theorem entryB_iff {d : Dv} : entryB d = true ↔ ∃ x s, d = .tup [.str x, s] ∧ wordS x = true ∧ StW s := by
  constructor
  · intro h
    unfold entryB at h
    split at h
    · obtain ⟨h1, h2⟩ := Bool.and_eq_true_iff.mp h
      obtain ⟨y, rfl, hy⟩ := wordB_str h1
      exact ⟨y, _, rfl, hy, stampB_st h2⟩
    · cases h
  · rintro ⟨x, s, rfl, hx, hs⟩
    show (wordS x && stampB s) = true
    rw [hx, stampB_of hs]; rfl
/-! ### isinstance -/
theorem kb_NoneType_str : kitB "NoneType" "str" = some false := by rfl
theorem ist_str_non : isT "str" .non = some false := kb_NoneType_str
theorem kb_bool_str : kitB "bool" "str" = some false := by rfl
theorem ist_str_bl {b : Bool} : isT "str" (.bl b) = some false := kb_bool_str
theorem kb_int_str : kitB "int" "str" = some false := by rfl
theorem ist_str_int {i : Int} : isT "str" (.int i) = some false := kb_int_str
theorem kb_str_str : kitB "str" "str" = some true := by rfl
theorem ist_str_str {x : Str} : isT "str" (.str x) = some true := kb_str_str
theorem kb_tuple_str : kitB "tuple" "str" = some false := by rfl
theorem ist_str_tup {xs : List Dv} : isT "str" (.tup xs) = some false := kb_tuple_str
theorem kb_list_str : kitB "list" "str" = some false := by rfl
theorem ist_str_lst {xs : List Dv} : isT "str" (.lst xs) = some false := kb_list_str
theorem ist_str_frl {ns : List Int} : isT "str" (.frl ns) = some false := kb_list_str
theorem kb_dict_str : kitB "dict" "str" = some false := by rfl
theorem ist_str_dct {l : List (Key × Dv)} : isT "str" (.dct l) = some false := kb_dict_str
theorem ist_str_dctT {l : List (List Key × Dv)} : isT "str" (.dctT l) = some false := kb_dict_str
theorem kb_NoneType_int : kitB "NoneType" "int" = some false := by rfl
theorem ist_int_non : isT "int" .non = some false := kb_NoneType_int
theorem kb_bool_int : kitB "bool" "int" = some true := by rfl
theorem ist_int_bl {b : Bool} : isT "int" (.bl b) = some true := kb_bool_int
theorem kb_int_int : kitB "int" "int" = some true := by rfl
theorem ist_int_int {i : Int} : isT "int" (.int i) = some true := kb_int_int
theorem kb_str_int : kitB "str" "int" = some false := by rfl
theorem ist_int_str {x : Str} : isT "int" (.str x) = some false := kb_str_int
theorem kb_tuple_int : kitB "tuple" "int" = some false := by rfl
theorem ist_int_tup {xs : List Dv} : isT "int" (.tup xs) = some false := kb_tuple_int
theorem kb_list_int : kitB "list" "int" = some false := by rfl
theorem ist_int_lst {xs : List Dv} : isT "int" (.lst xs) = some false := kb_list_int
theorem ist_int_frl {ns : List Int} : isT "int" (.frl ns) = some false := kb_list_int
theorem kb_dict_int : kitB "dict" "int" = some false := by rfl
theorem ist_int_dct {l : List (Key × Dv)} : isT "int" (.dct l) = some false := kb_dict_int
theorem ist_int_dctT {l : List (List Key × Dv)} : isT "int" (.dctT l) = some false := kb_dict_int
theorem kb_NoneType_bool : kitB "NoneType" "bool" = some false := by rfl
theorem ist_bool_non : isT "bool" .non = some false := kb_NoneType_bool
theorem kb_bool_bool : kitB "bool" "bool" = some true := by rfl
theorem ist_bool_bl {b : Bool} : isT "bool" (.bl b) = some true := kb_bool_bool
theorem kb_int_bool : kitB "int" "bool" = some false := by rfl
theorem ist_bool_int {i : Int} : isT "bool" (.int i) = some false := kb_int_bool
theorem kb_str_bool : kitB "str" "bool" = some false := by rfl
theorem ist_bool_str {x : Str} : isT "bool" (.str x) = some false := kb_str_bool
theorem kb_tuple_bool : kitB "tuple" "bool" = some false := by rfl
theorem ist_bool_tup {xs : List Dv} : isT "bool" (.tup xs) = some false := kb_tuple_bool
theorem kb_list_bool : kitB "list" "bool" = some false := by rfl
theorem ist_bool_lst {xs : List Dv} : isT "bool" (.lst xs) = some false := kb_list_bool
theorem ist_bool_frl {ns : List Int} : isT "bool" (.frl ns) = some false := kb_list_bool
theorem kb_dict_bool : kitB "dict" "bool" = some false := by rfl
theorem ist_bool_dct {l : List (Key × Dv)} : isT "bool" (.dct l) = some false := kb_dict_bool
theorem ist_bool_dctT {l : List (List Key × Dv)} : isT "bool" (.dctT l) = some false := kb_dict_bool
theorem kb_NoneType_tuple : kitB "NoneType" "tuple" = some false := by rfl
theorem ist_tuple_non : isT "tuple" .non = some false := kb_NoneType_tuple
theorem kb_bool_tuple : kitB "bool" "tuple" = some false := by rfl
theorem ist_tuple_bl {b : Bool} : isT "tuple" (.bl b) = some false := kb_bool_tuple
theorem kb_int_tuple : kitB "int" "tuple" = some false := by rfl
theorem ist_tuple_int {i : Int} : isT "tuple" (.int i) = some false := kb_int_tuple
theorem kb_str_tuple : kitB "str" "tuple" = some false := by rfl
theorem ist_tuple_str {x : Str} : isT "tuple" (.str x) = some false := kb_str_tuple
theorem kb_tuple_tuple : kitB "tuple" "tuple" = some true := by rfl
theorem ist_tuple_tup {xs : List Dv} : isT "tuple" (.tup xs) = some true := kb_tuple_tuple
theorem kb_list_tuple : kitB "list" "tuple" = some false := by rfl
theorem ist_tuple_lst {xs : List Dv} : isT "tuple" (.lst xs) = some false := kb_list_tuple
theorem ist_tuple_frl {ns : List Int} : isT "tuple" (.frl ns) = some false := kb_list_tuple
theorem kb_dict_tuple : kitB "dict" "tuple" = some false := by rfl
theorem ist_tuple_dct {l : List (Key × Dv)} : isT "tuple" (.dct l) = some false := kb_dict_tuple
theorem ist_tuple_dctT {l : List (List Key × Dv)} : isT "tuple" (.dctT l) = some false := kb_dict_tuple
theorem kb_NoneType_dict : kitB "NoneType" "dict" = some false := by rfl
theorem ist_dict_non : isT "dict" .non = some false := kb_NoneType_dict
theorem kb_bool_dict : kitB "bool" "dict" = some false := by rfl
theorem ist_dict_bl {b : Bool} : isT "dict" (.bl b) = some false := kb_bool_dict
theorem kb_int_dict : kitB "int" "dict" = some false := by rfl
theorem ist_dict_int {i : Int} : isT "dict" (.int i) = some false := kb_int_dict
theorem kb_str_dict : kitB "str" "dict" = some false := by rfl
theorem ist_dict_str {x : Str} : isT "dict" (.str x) = some false := kb_str_dict
theorem kb_tuple_dict : kitB "tuple" "dict" = some false := by rfl
theorem ist_dict_tup {xs : List Dv} : isT "dict" (.tup xs) = some false := kb_tuple_dict
theorem kb_list_dict : kitB "list" "dict" = some false := by rfl
theorem ist_dict_lst {xs : List Dv} : isT "dict" (.lst xs) = some false := kb_list_dict
theorem ist_dict_frl {ns : List Int} : isT "dict" (.frl ns) = some false := kb_list_dict
theorem kb_dict_dict : kitB "dict" "dict" = some true := by rfl
theorem ist_dict_dct {l : List (Key × Dv)} : isT "dict" (.dct l) = some true := kb_dict_dict
theorem ist_dict_dctT {l : List (List Key × Dv)} : isT "dict" (.dctT l) = some true := kb_dict_dict
theorem kb_NoneType_list : kitB "NoneType" "list" = some false := by rfl
theorem ist_list_non : isT "list" .non = some false := kb_NoneType_list
theorem kb_bool_list : kitB "bool" "list" = some false := by rfl
theorem ist_list_bl {b : Bool} : isT "list" (.bl b) = some false := kb_bool_list
theorem kb_int_list : kitB "int" "list" = some false := by rfl
theorem ist_list_int {i : Int} : isT "list" (.int i) = some false := kb_int_list
theorem kb_str_list : kitB "str" "list" = some false := by rfl
theorem ist_list_str {x : Str} : isT "list" (.str x) = some false := kb_str_list
theorem kb_tuple_list : kitB "tuple" "list" = some false := by rfl
theorem ist_list_tup {xs : List Dv} : isT "list" (.tup xs) = some false := kb_tuple_list
theorem kb_list_list : kitB "list" "list" = some true := by rfl
theorem ist_list_lst {xs : List Dv} : isT "list" (.lst xs) = some true := kb_list_list
theorem ist_list_frl {ns : List Int} : isT "list" (.frl ns) = some true := kb_list_list
theorem kb_dict_list : kitB "dict" "list" = some false := by rfl
theorem ist_list_dct {l : List (Key × Dv)} : isT "list" (.dct l) = some false := kb_dict_list
theorem ist_list_dctT {l : List (List Key × Dv)} : isT "list" (.dctT l) = some false := kb_dict_list
theorem c_0 : ((0 : Nat) : Int) = 0 := rfl
theorem c_1 : ((1 : Nat) : Int) = 1 := rfl
theorem c_2 : ((2 : Nat) : Int) = 2 := rfl
theorem c_3 : ((3 : Nat) : Int) = 3 := rfl
theorem c_4 : ((4 : Nat) : Int) = 4 := rfl
theorem c_5 : ((5 : Nat) : Int) = 5 := rfl
theorem c_6 : ((6 : Nat) : Int) = 6 := rfl
theorem c_7 : ((7 : Nat) : Int) = 7 := rfl
theorem c_8 : ((8 : Nat) : Int) = 8 := rfl
theorem c_9 : ((9 : Nat) : Int) = 9 := rfl
theorem sz_7 : 7 ≤ sizeLine := le_sz (by decide)
theorem sz_8 : 8 ≤ sizeLine := le_sz (by decide)
theorem sz_9 : 9 ≤ sizeLine := le_sz (by decide)
theorem sz_10 : 10 ≤ sizeLine := le_sz (by decide)
theorem sz_11 : 11 ≤ sizeLine := le_sz (by decide)
theorem sz_12 : 12 ≤ sizeLine := le_sz (by decide)
theorem sz_13 : 13 ≤ sizeLine := le_sz (by decide)
theorem sz_14 : 14 ≤ sizeLine := le_sz (by decide)
theorem sz_15 : 15 ≤ sizeLine := le_sz (by decide)
theorem sz_16 : 16 ≤ sizeLine := le_sz (by decide)
theorem sz_17 : 17 ≤ sizeLine := le_sz (by decide)
theorem sz_18 : 18 ≤ sizeLine := le_sz (by decide)
theorem sz_19 : 19 ≤ sizeLine := le_sz (by decide)
theorem sz_20 : 20 ≤ sizeLine := le_sz (by decide)
theorem sz_21 : 21 ≤ sizeLine := le_sz (by decide)
theorem sz_22 : 22 ≤ sizeLine := le_sz (by decide)
theorem sz_23 : 23 ≤ sizeLine := le_sz (by decide)
theorem sz_24 : 24 ≤ sizeLine := le_sz (by decide)
theorem sz_25 : 25 ≤ sizeLine := le_sz (by decide)
theorem sz_26 : 26 ≤ sizeLine := le_sz (by decide)
theorem sz_27 : 27 ≤ sizeLine := le_sz (by decide)
theorem sz_28 : 28 ≤ sizeLine := le_sz (by decide)
theorem sz_29 : 29 ≤ sizeLine := le_sz (by decide)
theorem sz_30 : 30 ≤ sizeLine := le_sz (by decide)
theorem sz_31 : 31 ≤ sizeLine := le_sz (by decide)
theorem sz_32 : 32 ≤ sizeLine := le_sz (by decide)
theorem sz_33 : 33 ≤ sizeLine := le_sz (by decide)
theorem sz_34 : 34 ≤ sizeLine := le_sz (by decide)
theorem sz_35 : 35 ≤ sizeLine := le_sz (by decide)
theorem sz_36 : 36 ≤ sizeLine := le_sz (by decide)
theorem sz_37 : 37 ≤ sizeLine := le_sz (by decide)
theorem sz_38 : 38 ≤ sizeLine := le_sz (by decide)
theorem sz_39 : 39 ≤ sizeLine := le_sz (by decide)
theorem sz_40 : 40 ≤ sizeLine := le_sz (by decide)
theorem sz_41 : 41 ≤ sizeLine := le_sz (by decide)
theorem sz_42 : 42 ≤ sizeLine := le_sz (by decide)
theorem sz_43 : 43 ≤ sizeLine := le_sz (by decide)
theorem sz_44 : 44 ≤ sizeLine := le_sz (by decide)
theorem sz_45 : 45 ≤ sizeLine := le_sz (by decide)
theorem sz_46 : 46 ≤ sizeLine := le_sz (by decide)
theorem sz_47 : 47 ≤ sizeLine := le_sz (by decide)
theorem sz_48 : 48 ≤ sizeLine := le_sz (by decide)
theorem sz_49 : 49 ≤ sizeLine := le_sz (by decide)
theorem sz_50 : 50 ≤ sizeLine := le_sz (by decide)
theorem sz_51 : 51 ≤ sizeLine := le_sz (by decide)
theorem sz_52 : 52 ≤ sizeLine := le_sz (by decide)
theorem sz_53 : 53 ≤ sizeLine := le_sz (by decide)
theorem sz_54 : 54 ≤ sizeLine := le_sz (by decide)
theorem sz_55 : 55 ≤ sizeLine := le_sz (by decide)
theorem sz_56 : 56 ≤ sizeLine := le_sz (by decide)
theorem sz_57 : 57 ≤ sizeLine := le_sz (by decide)
theorem sz_58 : 58 ≤ sizeLine := le_sz (by decide)
theorem sz_59 : 59 ≤ sizeLine := le_sz (by decide)
theorem sz_60 : 60 ≤ sizeLine := le_sz (by decide)
theorem addH_ll {xs : List Av} {ds : List Dv} {h : AH} : addH (.lst xs) (.d (.lst ds)) h = if xs.length + (ds.map Av.d).length ≤ sizeLine then some (mkL (xs ++ ds.map Av.d), h) else none := rfl
theorem addH_lL {xs ys : List Av} {h : AH} : addH (.lst xs) (.lst ys) h = if xs.length + ys.length ≤ sizeLine then some (mkL (xs ++ ys), h) else none := rfl
theorem r_neg {i : Int} : negD (.int i) = some (.int (-i)) := rfl
end Fh
namespace Fh
open PySem PySem.Spec PyProof.Rows L2 RZ Fd
open Fd (Dv)
/-! ### what is sorted rises -/
theorem ltS_irr {x : Str} : ltS x x = false := decide_eq_false (List.lt_irrefl _)
theorem ltS_tr {x y z : Str} (h1 : ltS x y = true) (h2 : ltS y z = true) : ltS x z = true := decide_eq_true (List.lt_trans (of_decide_eq_true h1) (of_decide_eq_true h2))
theorem ltS_tri {x y : Str} (ne : x ≠ y) (h : ltS y x = false) : ltS x y = true := by
  cases c : ltS x y with
  | true => rfl
  | false => exact absurd (leS_anti (a := x) (b := y) (by unfold leS; unfold ltS at h; rw [h]; rfl) (by unfold leS; unfold ltS at c; rw [c]; rfl)) ne
theorem lex_one {a b : List Nat} : PyProof.Rows.lexLt PyProof.Rows.itemOrd [.inr a] [.inr b] = decide (a < b) := by
  unfold PyProof.Rows.lexLt
  simp [PyProof.Rows.itemOrd, PyProof.Rows.itemLt, PyProof.Rows.strKind, PyProof.Rows.lexLt]
theorem enc_lt {x y : Str} {d e : Dv} (ne : x ≠ y) : PySem.W.dataLt (encP (.inr x, d)) (encP (.inr y, e)) = ltS x y := by
  have ne' : (Sum.inr x.cps.toList : Int ⊕ List Nat) ≠ .inr y.cps.toList := fun z => ne (PySem.W.str_of_cps (Sum.inr.inj z))
  show PyProof.Rows.lexLt PyProof.Rows.itemOrd ([.inl 1] ++ (.inr x.cps.toList :: _)) ([.inl 1] ++ (.inr y.cps.toList :: _)) = _
  rw [PySem.W.lex_pre, PySem.W.lex_atom ne', lex_one]; rfl
def Ris (a b : Dv) : Prop := ltS (fstS a) (fstS b) = true
theorem riseB_pw : ∀ {xs : List Dv}, riseB xs = true ↔ xs.Pairwise Ris
  | [] => ⟨fun _ => .nil, fun _ => rfl⟩
  | [x] => ⟨fun _ => List.pairwise_singleton .., fun _ => rfl⟩
  | x :: y :: l => by
    have e : riseB (x :: y :: l) = (ltS (fstS x) (fstS y) && riseB (y :: l)) := rfl
    rw [e, Bool.and_eq_true, riseB_pw (xs := y :: l)]
    constructor
    · rintro ⟨h1, h2⟩
      refine List.pairwise_cons.mpr ⟨fun z hz => ?_, h2⟩
      rcases List.mem_cons.mp hz with rfl | hz
      · exact h1
      · exact ltS_tr h1 ((List.pairwise_cons.mp h2).1 z hz)
    · intro h
      exact ⟨(List.pairwise_cons.mp h).1 y List.mem_cons_self, (List.pairwise_cons.mp h).2⟩
theorem rise_twice {a b : List Dv} {x : Dv} (ha : x ∈ a) (hb : x ∈ b) : riseB (a ++ b) = false := by
  cases c : riseB (a ++ b) with
  | false => rfl
  | true =>
    have h := (List.pairwise_append.mp (riseB_pw.mp c)).2.2 x ha x hb
    unfold Ris at h
    rw [ltS_irr] at h; cases h
theorem rise_turn {a b : List Dv} {x y : Dv} (h : riseB (a ++ b) = true) (ha : x ∈ a) (hb : y ∈ b) : riseB (b ++ a) = false := by
  cases c : riseB (b ++ a) with
  | false => rfl
  | true =>
    have h1 := (List.pairwise_append.mp (riseB_pw.mp c)).2.2 y hb x ha
    have h2 := (List.pairwise_append.mp (riseB_pw.mp h)).2.2 x ha y hb
    have := ltS_tr h1 h2
    rw [ltS_irr] at this; cases this
def pairD (p : Key × Dv) : Dv := .tup [kD p.1, p.2]
theorem rise_srt {m : List (Key × Dv)} (h : Mk m) : riseB ((srtD m).map pairD) = true := by
  refine riseB_pw.mpr (List.pairwise_map.mpr ?_)
  have p1 : (srtD m).Pairwise fun a b => PySem.W.dataLe false encP a b = true := PySem.W.sort_pairwise (PySem.W.sortLe_total _ _ _) m
  have p2 : (srtD m).Pairwise fun a b => a.1 ≠ b.1 := List.pairwise_map.mp (mk_perm h srt_perm).nd
  refine (p1.and p2).imp_of_mem fun {a b} ha hb ⟨h1, h2⟩ => ?_
  obtain ⟨x, hx⟩ := h.key a (srt_perm.mem_iff.mp ha)
  obtain ⟨y, hy⟩ := h.key b (srt_perm.mem_iff.mp hb)
  obtain ⟨a1, a2⟩ := a
  obtain ⟨b1, b2⟩ := b
  dsimp only at hx hy h2
  subst hx hy
  have ne : x ≠ y := fun z => h2 (by rw [z])
  have h1 : (!PySem.W.dataLt (encP (.inr y, b2)) (encP (.inr x, a2))) = true := h1
  rw [enc_lt (Ne.symm ne), Bool.not_eq_true'] at h1
  exact ltS_tri ne h1
end Fh
namespace Fh
open PySem PySem.Spec PyProof.Rows L2 RZ
open Fd (Dv Rep Reps OpD same_new PE_or CallD)
variable {P : Addr → Prop}
/-! ### instances -/
def insH (h : AH) (x : Av) : Option (Nat × Str × List (Str × Av)) := match x with
  | .ref n => match rd h n with
    | some (.ins C es) => some (n, C, es)
    | _ => none
  | _ => none
def insW (h : AH) (x : Av) : Option (Nat × Str × List (Str × Av)) := match x with
  | .ref n => match h[n]? with
    | some (.lv (.ins C es)) => some (n, C, es)
    | _ => none
  | _ => none
def pF (f : Str) (y : Av) : List (Str × Av) → List (Str × Av)
  | [] => [(f, y)]
  | (g, x) :: r => if g = f then (g, y) :: r else (g, x) :: pF f y r
section
variable {K : PySem.W.Frag} {H : Hp} {μ : List Addr} {h : AH} {L : Addr → Prop}
theorem look_rv {f : Str} : ∀ {es : List (Str × Av)} {fs : List (Str × V)}, es.map (·.1) = fs.map (·.1) → RVs K H μ L (fs.map (·.2)) (es.map (·.2)) → (es.lookup f = none ∧ fs.lookup f = none) ∨ ∃ y v, es.lookup f = some y ∧ fs.lookup f = some v ∧ RV K H μ L v y
  | [], [], _, _ => .inl ⟨rfl, rfl⟩
  | [], _ :: _, e, _ => by cases e
  | _ :: _, [], e, _ => by cases e
  | (g, y) :: es, (g', v) :: fs, e, r => by
    have e1 : g = g' := (List.cons.inj e).1
    have e2 : es.map (·.1) = fs.map (·.1) := (List.cons.inj e).2
    subst e1
    cases r with
    | cons hr tr =>
      by_cases c : f = g
      · subst c
        refine .inr ⟨y, v, ?_, ?_, hr⟩ <;> simp [List.lookup]
      · have c' : (f == g) = false := beq_eq_false_iff_ne.mpr c
        rcases look_rv (f := f) e2 tr with ⟨h1, h2⟩ | ⟨y', v', h1, h2, h3⟩
        · exact .inl ⟨by simp [List.lookup, c', h1], by simp [List.lookup, c', h2]⟩
        · exact .inr ⟨y', v', by simp [List.lookup, c', h1], by simp [List.lookup, c', h2], h3⟩
theorem pF_rv {f : Str} {y : Av} {v : V} (q : RV K H μ L v y) : ∀ {es : List (Str × Av)} {fs : List (Str × V)}, es.map (·.1) = fs.map (·.1) → RVs K H μ L (fs.map (·.2)) (es.map (·.2)) → (pF f y es).map (·.1) = (putF f v fs).map (·.1) ∧ RVs K H μ L ((putF f v fs).map (·.2)) ((pF f y es).map (·.2))
  | [], [], _, _ => ⟨rfl, .cons q .nil⟩
  | [], _ :: _, e, _ => by cases e
  | _ :: _, [], e, _ => by cases e
  | (g, z) :: es, (g', w) :: fs, e, r => by
    have e1 : g = g' := (List.cons.inj e).1
    have e2 : es.map (·.1) = fs.map (·.1) := (List.cons.inj e).2
    subst e1
    cases r with
    | cons hr tr =>
      obtain ⟨h1, h2⟩ := pF_rv (f := f) q e2 tr
      unfold pF putF
      by_cases c : g = f
      · rw [if_pos c, if_pos c]
        exact ⟨by rw [List.map_cons, List.map_cons, e2], .cons q tr⟩
      · rw [if_neg c, if_neg c]
        exact ⟨by rw [List.map_cons, List.map_cons, h1], .cons hr h2⟩
theorem insH_rv {v : V} {x : Av} {n : Nat} {C : Str} {es : List (Str × Av)} (rl : Rl K P μ h H) (r : RV K H μ (Lv P μ h) v x) (e : insH h x = some (n, C, es)) : ∃ a dx fs, v = .ref a ∧ H a = some (.ins (He.ga K C) dx fs) ∧ es.map (·.1) = fs.map (·.1) ∧ RVs K H μ (Lv P μ h) (fs.map (·.2)) (es.map (·.2)) := by
  unfold insH at e
  split at e
  · split at e
    · rename_i n' C' es' hr
      cases e
      obtain ⟨a, u, hm, _, br, hu⟩ := rl.rd hr
      cases r with
      | ref hm2 =>
        rw [hm] at hm2
        cases hm2
        cases br with
        | ins hC e1 rs =>
          subst hC
          rcases hu with hu | hu
          · exact ⟨_, _, _, rfl, hu, e1, rs⟩
          · cases hu
    · cases e
  · cases e
theorem insW_rv {v : V} {x : Av} {n : Nat} {C : Str} {es : List (Str × Av)} (rl : Rl K P μ h H) (r : RV K H μ (Lv P μ h) v x) (e : insW h x = some (n, C, es)) : ∃ a dx fs, h[n]? = some (.lv (.ins C es)) ∧ v = .ref a ∧ μ[n]? = some a ∧ H a = some (.ins (He.ga K C) dx fs) ∧ es.map (·.1) = fs.map (·.1) ∧ RVs K H μ (Lv P μ h) (fs.map (·.2)) (es.map (·.2)) := by
  unfold insW at e
  split at e
  · split at e
    · rename_i n' C' es' hr
      cases e
      obtain ⟨a, u, rfl, hm, hu, br⟩ := cell_at rl r hr
      cases br with
      | ins hC e1 rs =>
        subst hC
        exact ⟨_, _, _, hr, rfl, hm, hu, e1, rs⟩
    · cases e
  · cases e
end
section
variable {X : Cx} {K : PySem.W.Frag} {a b o e value : Expr} {es : List Expr} {pos : Pos} {ma mb mo mv mx me : ME} {mr : MA} {c f m : Str}
/-- e.f -/
def vFld (c f : Str) (m : ME) : ME := fun env h => (m env h).bind fun (x, h1) => (insH h1 x).bind fun (_, C, es) => if C = c then (es.lookup f).bind fun y => some (y, h1) else none
theorem he_fld (hc : Cls X.K (He.ga X.K c)) (hn : NoAttr X.K (He.ga X.K c) f) (p : PE X e (tFld X.K (rE X.K ma) f)) : HE X e (vFld c f ma) := pe_weak p fun σ H Q ⟨P, μ, env, h, z, h', rl, er, e, q⟩ => by
  obtain ⟨⟨x, h1⟩, e1, e⟩ := bs e
  obtain ⟨⟨n, C, es⟩, e2, e⟩ := bs e
  obtain ⟨hC, e⟩ := ifs e
  obtain ⟨y, e3, e⟩ := bs e
  cases e
  subst hC
  refine rE_to rl er e1 fun μ1 H1 v rl1 s1 er1 v1 => ?_
  obtain ⟨a, dx, fs, rfl, hH, ek, rs⟩ := insH_rv rl1 v1 e2
  rcases look_rv (f := f) ek rs with ⟨k1, _⟩ | ⟨y', v', k1, k2, k3⟩
  · rw [e3] at k1; cases k1
  · rw [e3] at k1; cases k1
    exact ⟨a, _, dx, fs, v', rfl, hH, hc, hn, k2, q μ1 H1 v' rl1 s1 k3⟩
/-- e.f = value -/
def sFldS (c f : Str) (mv mx : ME) : MS := fun env h => (mv env h).bind fun (v, h1) => (mx env h1).bind fun (x, h2) => (insW h2 x).bind fun (n, C, es) => if C = c ∧ es.length < 1000 then some (.nx env, h2.set n (.lv (.ins C (pF f v es)))) else none
theorem hs_fld {s : Stmt} (hc : Cls X.K (He.ga X.K c)) (hn : NoAttr X.K (He.ga X.K c) f) (p : PS X s (sFld X.K (rE X.K mx) (rE X.K mv) f)) : HS X s (sFldS c f mv mx) := ps_weak p fun D σ H ⟨P, μ, env, h, out, h', rl, er, e, q⟩ => by
  obtain ⟨⟨v, h1⟩, e1, e⟩ := bs e
  obtain ⟨⟨x, h2⟩, e2, e⟩ := bs e
  obtain ⟨⟨n, C, es⟩, e3, e⟩ := bs e
  obtain ⟨⟨hC, hl⟩, e⟩ := ifs e
  cases e
  subst hC
  refine rE_to rl er e1 fun μ1 H1 w rl1 s1 er1 v1 => rE_to rl1 er1 e2 fun μ2 H2 u rl2 s2 er2 v2 => ?_
  obtain ⟨a, dx, fs, hnn, rfl, hm, hH, ek, rs⟩ := insW_rv rl2 v2 e3
  have v1' := v1.on rl1 s2
  obtain ⟨k1, k2⟩ := pF_rv (f := f) v1' ek rs
  obtain ⟨rl3, s3⟩ := rl2.wr hnn hm (b' := .ins C (pF f v es)) (.ins (dx := dx) (fs := putF f w fs) rfl k1 k2)
  refine ⟨a, _, dx, fs, rfl, hH, hc, hn, ?_, ?_⟩
  · have := congrArg List.length ek
    rw [List.length_map, List.length_map] at this
    omega
  · exact q μ2 _ rl3 ((s1.trans s2).trans s3) σ (er2.on rl2 s3)
/-- what a call of a method needs -/
structure CalM (P : Program) (w : World) (K : PySem.W.Frag) (mg : Str → Option Value) (base : Heap) (k : Nat) (c m : Str) (sp : L2.Sp) : Prop where
  ex : ∃ (fd : FuncData) (ps : List Str), FnOk P w K mg base CX0 k (He.ma K (He.ga K c) m) fd ps sp ∧ Cls K (He.ga K c) ∧ Meth K (He.ga K c) m (He.ma K (He.ga K c) m) ∧ Binds K fd ps []
/-- what the making of an instance needs -/
structure CalN (P : Program) (w : World) (K : PySem.W.Frag) (mg : Str → Option Value) (base : Heap) (k : Nat) (c : Str) (sp : L2.Sp) : Prop where
  ex : ∃ (fd : FuncData) (ps : List Str), FnOk P w K mg base CX0 k (He.ma K (He.ga K c) "__init__") fd ps sp ∧ L2.Mk K (He.ga K c) (He.ma K (He.ga K c) "__init__") ∧ Binds K fd ps [] ∧ mg c = some (.ref (He.ga K c))
def vMeth (c m : Str) (F : FI) (mo : ME) (mr : MA) : ME := fun env h => (mo env h).bind fun (x, h1) => (insH h1 x).bind fun (_, C, es) => if C = c ∧ es.lookup m = none then (mr env h1).bind fun (ys, h2) => F (x :: ys) h2 else none
theorem tMeth_ok {F : FI} {σ : L2.St} {H : Hp} {Q : VK} {n : Nat} (hn : ALen mr n) (h : rE K (vMeth c m F mo mr) σ H Q) : tMeth (He.ga K c) m (spI K (n + 1) F) [] E0 (rE K mo) (rA K mr) σ H Q := by
  obtain ⟨P, μ, env, h, z, h', rl, er, e, q⟩ := h
  obtain ⟨⟨x, h1⟩, e1, e⟩ := bs e
  obtain ⟨⟨n', C, es⟩, e2, e⟩ := bs e
  obtain ⟨⟨hC, hl⟩, e4⟩ := ifs e
  obtain ⟨⟨ys, h2⟩, e3, e5⟩ := bs e4
  subst hC
  refine rE_to rl er e1 fun μ1 H1 v rl1 s1 er1 v1 => ?_
  obtain ⟨a, dx, fs, rfl, hH, ek, rs⟩ := insH_rv rl1 v1 e2
  refine ⟨a, dx, fs, rfl, hH, ?_, ?_⟩
  · rcases look_rv (f := m) ek rs with ⟨_, k2⟩ | ⟨y', v', k1, _⟩
    · exact k2
    · rw [hl] at k1; cases k1
  · refine rA_to rl1 er1 e3 fun μ2 H2 vs rl2 s2 er2 v2 => ?_
    have ln := hn _ _ _ _ e3
    refine ⟨P, μ2, h2, x :: ys, z, h', ?_, rl2, ?_, e5, fun μ' H' w rl3 s3 rw_ => q μ' H' w rl3 ((s1.trans s2).trans s3) rw_⟩
    · rw [List.append_nil, List.length_cons, v2.len, ln]
    · rw [List.append_nil]
      exact .cons (v1.on rl1 s2) v2
theorem he_meth {F : FI} {apos : Pos} {k j n : Nat} {pl : Sem Bool} (cm : CalM X.prog X.w X.K X.mg X.base k c m (spI X.K (n + 1) F)) (hr : Room j X.A) (hk : k ≤ j) (he : HE X o mo) (ha : HA X (e :: es) mr) (hn : ALen mr n)
    (hst : starEach (e :: es) X.env = (false, eval e X.env) :: starEach es X.env := by rfl) (hpl : (backTo pos (starEach es X.env)).any (·.1) = false := by rfl)
    (ht : eval (.Call (.Attribute o m apos) (e :: es) [] pos) X.env = (do
      let ov ← eval o X.env
      standAt apos.atName
      let (f, first) ← holding [ov] (getMethod ov m pl)
      callWith pos f first (backTo pos (starEach (e :: es) X.env)) (backToKw pos (keywordEach [] X.env))) := by rfl) : HE X (.Call (.Attribute o m apos) (e :: es) [] pos) (vMeth c m F mo mr) := by
  obtain ⟨fd, ps, Fn, cl, hm, b⟩ := cm.ex
  exact pe_weak (pe_meth (E := E0) he cl hm (Fn.mono hk) hr b .nil pass0 ha hst hpl ht) fun σ H Q h => tMeth_ok hn h
theorem he_meth0 {F : FI} {apos : Pos} {k j : Nat} {pl : Sem Bool} (cm : CalM X.prog X.w X.K X.mg X.base k c m (spI X.K 1 F)) (hr : Room j X.A) (hk : k ≤ j) (he : HE X o mo)
    (ht : eval (.Call (.Attribute o m apos) [] [] pos) X.env = (do
      let ov ← eval o X.env
      standAt apos.atName
      let (f, first) ← holding [ov] (getMethod ov m pl)
      callWith pos f first (backTo pos (starEach [] X.env)) (backToKw pos (keywordEach [] X.env))) := by rfl) : HE X (.Call (.Attribute o m apos) [] [] pos) (vMeth c m F mo aNil) := by
  obtain ⟨fd, ps, Fn, cl, hm, b⟩ := cm.ex
  refine pe_weak (pe_meth0 (E := E0) he cl hm (Fn.mono hk) hr b .nil pass0 ht) fun σ H Q h => ?_
  obtain ⟨P, μ, env, h, z, h', rl, er, e, q⟩ := h
  obtain ⟨⟨x, h1⟩, e1, e⟩ := bs e
  obtain ⟨⟨n', C, es⟩, e2, e⟩ := bs e
  obtain ⟨⟨hC, hl⟩, e4⟩ := ifs e
  have e5 : F [x] h1 = some (z, h') := e4
  subst hC
  refine rE_to rl er e1 fun μ1 H1 v rl1 s1 er1 v1 => ?_
  obtain ⟨a, dx, fs, rfl, hH, ek, rs⟩ := insH_rv rl1 v1 e2
  refine ⟨a, dx, fs, rfl, hH, ?_, ?_⟩
  · rcases look_rv (f := m) ek rs with ⟨_, k2⟩ | ⟨y', v', k1, _⟩
    · exact k2
    · rw [hl] at k1; cases k1
  · exact ⟨P, μ1, h1, [x], z, h', rfl, rl1, .cons v1 .nil, e5, fun μ' H' w rl3 s3 rw_ => q μ' H' w rl3 (s1.trans s3) rw_⟩
/-- C(..) -/
def vMake (c : Str) (F : FI) (mr : MA) : ME := fun env h => (mr env h).bind fun (ys, h1) => (F (.ref h1.length :: ys) (h1 ++ [.lv (.ins c [])])).bind fun (r, h2) => match r with
  | .d .non => some (.ref h1.length, h2)
  | _ => none
theorem tMake_core {F : FI} {H1 : Hp} {Q : VK} {n : Nat} {P : Addr → Prop} {μ1 : List Addr} {h1 h' : AH} {vs : List V} {ys : List Av} {z : Av} (rl1 : Rl K P μ1 h1 H1) (v1 : RVs K H1 μ1 (Lv P μ1 h1) vs ys) (ln : ys.length = n)
    (e : ((F (.ref h1.length :: ys) (h1 ++ [.lv (.ins c [])])).bind fun (r, h2) => match r with
      | .d .non => some (.ref h1.length, h2)
      | _ => none) = some (z, h')) (q : ∀ μ' H' v, Rl K P μ' h' H' → Sp μ1 h1 H1 μ' h' H' → RV K H' μ' (Lv P μ' h') v z → Q v H') :
    ∀ x dx, H1 x = none → H1 dx = none → dx ≠ x → spI K (n + 1) F (.ref x :: vs) (upd (upd H1 dx (.own x)) x (.ins (He.ga K c) dx [])) (fun v H2 => v = .non ∧ Q (.ref x) H2) E0 := by
  intro x dx hx hdx ne
  obtain ⟨⟨r, h2⟩, e1, e2⟩ := bs e
  have sm : Same H1 (upd H1 dx (.own x)) := same_new hdx
  have rl2 := rl1.same sm
  have v2 := v1.on rl1 (.same rl1 sm)
  have hx2 : upd H1 dx (.own x) x = none := by rw [upd_ne (Ne.symm ne)]; exact hx
  obtain ⟨rl3, s3⟩ := rl2.new hx2 (o := .ins (He.ga K c) dx []) (b := .ins c []) (.ins rfl rfl .nil)
  dsimp only at e2
  split at e2
  · cases e2
    refine ⟨P, μ1 ++ [x], h1 ++ [.lv (.ins c [])], .ref h1.length :: ys, .d .non, h', ?_, rl3, .cons (ref_new rl2) (v2.on rl2 s3), e1, fun μ' H' w rl4 s4 rw_ => ?_⟩
    · rw [List.length_cons, v1.len, ln]
    · have s5 : Sp μ1 h1 H1 μ' h' H' := ((Sp.same rl1 sm).trans s3).trans s4
      refine ⟨?_, q μ' H' _ rl4 s5 ((ref_new (μ := μ1) (p := x) rl2).on rl3 s4)⟩
      cases rw_ with
      | d r _ => cases r; rfl
  · cases e2
theorem he_make {F : FI} {k j n : Nat} {p : Pos} (cn : CalN X.prog X.w X.K X.mg X.base k c (spI X.K (n + 1) F)) (hr : Room (j + 1) X.A) (hk : k ≤ j) (hg : Gl X c) (ha : HA X (e :: es) mr) (hn : ALen mr n)
    (hdb : (c == ("__debug__" : Str)) = false := by decide) (he : starEach (e :: es) X.env = (false, eval e X.env) :: starEach es X.env := by rfl) (hpl : (backTo pos (starEach es X.env)).any (·.1) = false := by rfl) : HE X (.Call (.Name c p) (e :: es) [] pos) (vMake c F mr) := by
  obtain ⟨fd, ps, Fn, M, b, hm⟩ := cn.ex
  refine pe_weak (pe_make (E := E0) M (Fn.mono hk) hr hg hm b .nil pass0 ha hdb he hpl) fun σ H Q ⟨P, μ, env, h, z, h', rl, er, e, q⟩ => ?_
  obtain ⟨⟨ys, h1⟩, e1, e⟩ := bs e
  refine rA_to rl er e1 fun μ1 H1 vs rl1 s1 er1 v1 => ?_
  rw [List.append_nil]
  exact tMake_core rl1 v1 (hn _ _ _ _ e1) e fun μ' H' v a b c => q μ' H' v a (s1.trans b) c
theorem he_make0 {F : FI} {k j : Nat} {p : Pos} (cn : CalN X.prog X.w X.K X.mg X.base k c (spI X.K 1 F)) (hr : Room (j + 1) X.A) (hk : k ≤ j) (hg : Gl X c)
    (hdb : (c == ("__debug__" : Str)) = false := by decide) : HE X (.Call (.Name c p) [] [] pos) (vMake c F aNil) := by
  obtain ⟨fd, ps, Fn, M, b, hm⟩ := cn.ex
  refine pe_weak (pe_make0 (E := E0) M (Fn.mono hk) hr hg hm b .nil pass0 hdb) fun σ H Q ⟨P, μ, env, h, z, h', rl, er, e, q⟩ => ?_
  exact tMake_core (n := 0) (vs := []) (ys := []) rl .nil rfl e q
theorem pth_fld {t : TE} {m : ME} (pt : Pth K t m) (hc : Cls K (He.ga K c)) (hn : NoAttr K (He.ga K c) f) : Pth K (tFld K t f) (vFld c f m) := fun P μ env h σ H x h' rl er e => by
  obtain ⟨⟨y, h1⟩, e1, e⟩ := bs e
  obtain ⟨⟨n, C, es⟩, e2, e⟩ := bs e
  obtain ⟨hC, e4⟩ := ifs e
  obtain ⟨z, e3, e5⟩ := bs e4
  cases e5
  subst hC
  obtain ⟨hh, v, rv, k⟩ := pt P μ env h σ H y h' rl er e1
  subst hh
  obtain ⟨a, dx, fs, rfl, hH, ek, rs⟩ := insH_rv rl rv e2
  rcases look_rv (f := f) ek rs with ⟨k1, _⟩ | ⟨y', v', k1, k2, k3⟩
  · rw [e3] at k1; cases k1
  · rw [e3] at k1; cases k1
    refine ⟨rfl, v', k3, fun H2 sw Q hq => k H2 sw _ ⟨a, _, dx, fs, v', rfl, ?_, hc, hn, k2, hq⟩⟩
    rcases sw a with w | ⟨u, od, hu, hu2, _⟩
    · rw [w]; exact hH
    · rw [hH] at hu2; cases hu2; cases hu
end
end Fh
namespace Fh
open PySem PySem.Spec PyProof.Rows L2 RZ Fd
open Fd (Dv Mk)
/-! ### writes; frames; instances in cells -/
/-- a row: stamp, key, value -/
structure Rw where
  n : Int
  y : Str
  key : Str
  v : Int
def Rw.st (r : Rw) : Dv := stD r.n r.y
def Rw.d (r : Rw) : Dv := .tup [r.st, .str r.key, .int r.v]
def Rw.ok (M : Int) (r : Rw) : Prop := 1 ≤ r.n ∧ r.n ≤ M ∧ wordS r.y = true ∧ wordS r.key = true ∧ r.v.natAbs < 2 ^ 62
theorem Rw.ok.sm {M : Int} {r : Rw} (h : r.ok M) : StM M r.st := ⟨r.n, r.y, rfl, h.1, h.2.1, h.2.2.1⟩
/-- what may be after a write -/
structure Af (M : Int) (r : Rw) (m : List (Key × Dv)) : Prop where
  mks : Mk m
  ln : m.length ≤ 6
  en : ∀ p ∈ m, ∃ x, p.1 = .inr x ∧ wordS x = true ∧ x ≠ r.key ∧ StM M p.2 ∧ stLt p.2 r.st = true
theorem Af.put {M : Int} {r : Rw} {m : List (Key × Dv)} {x : Str} {d : Dv} {j : Nat} (h : Af M r m) (hj : (pK m (.inr x) d).length ≤ 6) (hx : wordS x = true) (nx : x ≠ r.key) (hd : StM M d) (lt : stLt d r.st = true) : Af M r (pK m (.inr x) d) := by
  refine ⟨h.mks.put hd.w.d (by have := h.ln; omega), hj, fun p hp => ?_⟩
  rcases pK_mem hp with rfl | hp
  · exact ⟨x, rfl, hx, nx, hd, lt⟩
  · exact h.en p hp
abbrev Wr := Rw × List (Key × Dv)
def afD (m : List (Key × Dv)) : Dv := .tup ((srtD m).map fun p => .tup [kD p.1, p.2])
def wrD (w : Wr) : Dv := .tup [w.1.st, .str w.1.key, .int w.1.v, afD w.2]
theorem Rw.ok.mono {M N : Int} {r : Rw} (h : r.ok M) (hm : M ≤ N) : r.ok N := ⟨h.1, Int.le_trans h.2.1 hm, h.2.2⟩
theorem mk_app {M : Int} {r : Rw} {m : List (Key × Dv)} (ok : r.ok M) (af : Af M r m) : Mk (srtD m ++ [(Sum.inr r.key, r.st)]) ∧ Mk ((Sum.inr r.key, r.st) :: srtD m) := by
  have hm := mk_perm af.mks srt_perm
  have ln : (srtD m).length ≤ 6 := by rw [srt_perm.length_eq]; exact af.ln
  have nk : Sum.inr r.key ∉ (srtD m).map (·.1) := fun h => by
    obtain ⟨p, hp, e⟩ := List.mem_map.mp h
    obtain ⟨x, e1, _, ne, _⟩ := af.en p (srt_perm.mem_iff.mp hp)
    rw [e1] at e
    exact ne (Sum.inr.inj e)
  have pm : ((Sum.inr r.key, r.st) :: srtD m).Perm (srtD m ++ [((Sum.inr r.key : Key), r.st)]) := (List.perm_append_singleton _ _).symm
  have m2 : Mk ((Sum.inr r.key, r.st) :: srtD m) := by
    refine ⟨fun p hp => ?_, fun p hp => ?_, ?_, by rw [List.length_cons]; omega⟩
    · rcases List.mem_cons.mp hp with rfl | hp
      · exact ⟨_, rfl⟩
      · exact hm.key p hp
    · rcases List.mem_cons.mp hp with rfl | hp
      · exact ok.sm.w.d
      · exact hm.st p hp
    · rw [List.map_cons]
      exact List.nodup_cons.mpr ⟨nk, hm.nd⟩
  exact ⟨mk_perm m2 pm.symm, m2⟩
theorem keysS : ∀ {l : List (Key × Dv)}, (∀ p ∈ l, ∃ x, p.1 = .inr x) → ∃ ks : List Str, l.map (·.1) = ks.map Sum.inr
  | [], _ => ⟨[], rfl⟩
  | p :: l, h => by
    obtain ⟨ks, e⟩ := keysS fun q hq => h q (List.mem_cons_of_mem _ hq)
    obtain ⟨x, hx⟩ := h p List.mem_cons_self
    exact ⟨x :: ks, by rw [List.map_cons, e, hx]; rfl⟩
theorem inr_perm {xs ys : List Str} (h : (xs.map (Sum.inr : Str → Key)).Perm (ys.map Sum.inr)) : xs.Perm ys := by
  have := h.filterMap (fun k : Key => match k with | .inr x => some x | .inl _ => none)
  rw [List.filterMap_map, List.filterMap_map] at this
  have e : ∀ zs : List Str, List.filterMap ((fun k : Key => match k with | .inr x => some x | .inl _ => none) ∘ Sum.inr) zs = zs := fun zs => by
    rw [show ((fun k : Key => match k with | .inr x => some x | .inl _ => none) ∘ (Sum.inr : Str → Key)) = some from rfl, List.filterMap_some]
  rw [e, e] at this
  exact this
theorem bS {α β : Type} {x : α} {f : α → Option β} : (some x).bind f = f x := Eq.trans (Option.bind_some x f) rfl
theorem dV_map {κ : Type} [DecidableEq κ] {l : List (κ × Dv)} {k : κ} : dV (l.map fun p => (p.1, Av.d p.2)) k = (dV l k).map fun p => (p.1, Av.d p.2) := by
  unfold dV
  rw [List.filter_map]; rfl
/-- what stands, stands -/
def Kp (h g : AH) : Prop := ∀ (i : Nat) (nd : Nd), h[i]? = some nd → g[i]? = some nd
theorem Kp.refl {h : AH} : Kp h h := fun _ _ e => e
theorem Kp.trans {a b c : AH} (x : Kp a b) (y : Kp b c) : Kp a c := fun i nd e => y i nd (x i nd e)
theorem Kp.app {h t : AH} : Kp h (h ++ t) := fun _ _ e => app_old e
theorem Kp.new {h g : AH} {j : Nat} {nd : Nd} (x : Kp h g) (hj : h.length ≤ j) : Kp h (g.set j nd) := fun i nd' e => set_old (x i nd' e) (by have := (List.getElem?_eq_some_iff.mp e).1; omega)
theorem Kp.d {h g : AH} {n : Nat} {l : List (Key × Dv)} (x : Kp h g) (e : dAt h n l) : dAt g n l := x _ _ e
theorem Kp.l {h g : AH} {n : Nat} {l : List Dv} (x : Kp h g) (e : lAt h n l) : lAt g n l := x _ _ e
theorem Kp.lh {h g : AH} {n k : Nat} (x : Kp h g) (e : Lh n k h) : Lh n k g := by
  obtain ⟨z, h1, h2⟩ := e
  exact ⟨z, x _ _ h1, h2⟩
theorem Kp.ln {h g : AH} (x : Kp h g) : h.length ≤ g.length := by
  cases c : h.length with
  | zero => exact Nat.zero_le _
  | succ n =>
    have e : h[n]? = some h[n] := List.getElem?_eq_getElem (by omega)
    have := (List.getElem?_eq_some_iff.mp (x n _ e)).1
    omega
theorem insH_at {h : AH} {n : Nat} {C : Str} {es : List (Str × Av)} (e : h[n]? = some (.lv (.ins C es))) : insH h (.ref n) = some (n, C, es) := by
  unfold insH; dsimp only; rw [rd_at e]
theorem insW_at {h : AH} {n : Nat} {C : Str} {es : List (Str × Av)} (e : h[n]? = some (.lv (.ins C es))) : insW h (.ref n) = some (n, C, es) := by
  unfold insW; dsimp only; rw [e]
theorem in_tup {neg : Bool} {x : Str} {ks : List Str} : inQ neg (.str x) (.tup (ks.map .str)) = some (.bl (if neg then !decide (x ∈ ks) else decide (x ∈ ks))) := in_strs
theorem in_as {x : Str} {ks : List Str} : inA false (.str x) (.tup (ks.map .str)) = some (.bl (decide (x ∈ ks))) := by
  unfold inA
  rw [show inS false (.str x) (.tup (ks.map .str)) = none from rfl, in_tup]; rfl
end Fh
/-! tuples whose object is known: tuple(xs) of a list of tuples, dict(t) of such a one -/
namespace Fh
open PySem PySem.Spec PyProof.Rows L2 RZ
open Fd (Dv Rep Reps same_new PlT TqT kD pairsOf pairs_rep mergeKD merge_rep Mu)
section
variable {X : Cx}
theorem pick_list {α : Type} {P : Nat → α → Prop} : ∀ (n : Nat), (∀ j, j < n → ∃ z, P j z) → ∃ l : List α, l.length = n ∧ ∀ j z, l[j]? = some z → P j z
  | 0, _ => ⟨[], rfl, fun j z e => by simp at e⟩
  | n + 1, h => by
    obtain ⟨l, h1, h2⟩ := pick_list n fun j hj => h j (by omega)
    obtain ⟨z, hz⟩ := h n (by omega)
    refine ⟨l ++ [z], by rw [List.length_append, h1]; rfl, fun j y e => ?_⟩
    by_cases c : j < n
    · rw [List.getElem?_append_left (by omega)] at e
      exact h2 j y e
    · have hj := (List.getElem?_eq_some_iff.mp e).1
      rw [List.length_append, h1] at hj
      have hj : j = n := by have : j < n + 1 := hj; omega
      subst hj
      rw [List.getElem?_append_right (by omega), h1, Nat.sub_self] at e
      cases e; exact hz
def rTupP (K : PySem.W.Frag) : List V → Hp → VK → Prop := fun xs H Q => ∃ (p : Addr) (ys : List V), xs = [.ref p] ∧ SqL K H p ys ∧ ∀ l o, H l = none → o.dict = none → Q (.ref l) (upd H l (.frz o (.tup ys)))
theorem call_tupP : CallR X (.type "tuple") (rTupP X.K) := by
  intro pins s σ H xs us Q I r h
  obtain ⟨p, ys, rfl, hq, q⟩ := h
  obtain ⟨u, rfl, rx⟩ := vals1 r
  cases rx
  obtain ⟨its, r', pl, hz⟩ := I.list hq
  have hlen := r'.length
  refine call_tuple_list pl.isList (fun h' kp => ?_) (by simp only [List.size_toArray] <;> omega)
  have I1 : Inv X pins σ H { s with heap := h' } := I.kept (t' := s.toks) kp
  have I2 : Inv X pins σ (upd H h'.objs.size (.frz { cls := .type "tuple", data := .seq its.toArray } (.tup ys))) { s with heap := h'.push { cls := .type "tuple", data := .seq its.toArray } } :=
    I1.laid (t' := s.toks) (fun b o e => Heap.get?_push_of_some _ e) (Nat.le_refl _) (show ObjOk X.prog X.w _ _ _ (.frz _ (.tup ys)) from ⟨Heap.get?_push_size _ rfl, hz, its, r', IsTup.new _ _⟩)
  exact ⟨.ref h'.objs.size, _, I2, rfl, q _ _ (I1.hok.fresh (Nat.le_refl _)) rfl⟩
def rDictP (K : PySem.W.Frag) : List V → Hp → VK → Prop := fun xs H Q => ∃ (a : Addr) (ps : List Addr) (kvs : List (Key × V)), xs = [.ref a] ∧ PlT H a (ps.map V.ref) ∧ Paired (fun p kv => SqT K H p [kV kv.1, kv.2]) ps kvs ∧ ∀ p, H p = none → Q (.ref p) (upd H p (.dK (mergeK [] kvs)))
theorem call_dictPt (hcalm : X.calm = true) : CallR X (.type "dict") (rDictP X.K) := by
  intro pins s σ H xs us Q I r q
  obtain ⟨a, ps, kvs, ex, ⟨o, ho, hd, _⟩, hp, q⟩ := q
  subst ex
  obtain ⟨u, eu, rx⟩ := vals1 r
  subst eu
  cases rx
  obtain ⟨hget, hz, its, rv, ob, e2, hc, n, hdat⟩ := I.hok _ _ ho
  rw [hget] at e2
  cases e2
  have ei := refs_at rv
  subst ei
  rw [List.length_map] at hz
  obtain ⟨prs, rel, hl, hpr⟩ := pairs_of I hp
  obtain ⟨kys, k1, k2⟩ := pick_list (P := fun j (z : Value × Value) => ∃ (k : Key) (b : Addr), prs[j]? = some (k, z.2) ∧ ps[j]? = some b ∧ IsTup s.heap b #[z.1, z.2] ∧ keyIs k z.1 = true) prs.length fun j hj => by
    obtain ⟨b, u, e1, e2, e3⟩ := hpr j prs[j] (List.getElem?_eq_getElem hj)
    exact ⟨(u, prs[j].2), prs[j].1, b, List.getElem?_eq_getElem hj, e1, e2, e3⟩
  have pit : PairItems s.heap (ps.map Value.ref).toArray (fun j => (ps[j]?).getD 0) kys := by
    refine ⟨by rw [List.size_toArray, List.length_map, k1, hl], fun j k v e => ?_⟩
    obtain ⟨k', b, e1, e2, e3, e4⟩ := k2 j _ e
    refine ⟨by simp [e2], .inl ?_⟩
    dsimp only
    rw [e2]
    obtain ⟨o', h1, h2, n', h3⟩ := e3
    exact ⟨o', h1, h2, n', h3⟩
  have hav : PairsHave (mixKind X.prog X.w) kys.length (PairRel kys) prs := by
    refine ⟨k1.symm, fun i key v e => ?_⟩
    obtain ⟨k', b, e1, e2, e3, e4⟩ := k2 i _ e
    exact ⟨k', e1, e4⟩
  refine PySem.call_dict_pairs (knd := mixKind X.prog X.w) (PairArg.tuple _ (ps.map Value.ref).toArray (fun j => (ps[j]?).getD 0) kys) (I.ok.hd hcalm) ⟨⟨o, n, hget, hc, hd, hdat⟩, pit⟩ hav (by rw [k1, hl]; exact hz) fun h' tk hd' k => ?_
  have hm : (s.heap.objs.size == sysModules) = false := beq_eq_false_iff_ne.mpr (Nat.ne_of_gt I.big)
  have hlen : (mergeK [] kvs).length ≤ sizeLine := by
    refine Nat.le_trans (length_mergeK kvs []) ?_
    rw [List.length_nil, Nat.zero_add, rel.length, hl]
    exact hz
  exact ⟨.ref s.heap.objs.size, upd H s.heap.objs.size (.dK (mergeK [] kvs)), I.laid (t' := tk) (fun b o e => k b o List.not_mem_nil e) (Nat.le_refl _) (show ObjOk X.prog X.w _ _ _ (.dK (mergeK [] kvs)) from ⟨hlen, hm, merged [] prs, KV.merge rel .nil, hd'⟩), rfl, q _ (I.hok.fresh (Nat.le_refl _))⟩
def allT (ds : List Dv) : Bool := ds.all fun d => match d with | .tup _ => true | _ => false
theorem reps_refs {K : PySem.W.Frag} {H : Hp} : ∀ {vs : List V} {ds : List Dv} {G : List Addr}, Reps K H vs ds G → allT ds = true → ∃ ps : List Addr, vs = ps.map V.ref
  | _, _, _, .nil, _ => ⟨[], rfl⟩
  | _, _, _, .cons h r, e => by
    unfold allT at e
    rw [List.all_cons, Bool.and_eq_true] at e
    obtain ⟨ps, hp⟩ := reps_refs r e.2
    cases h with
    | tup _ _ => exact ⟨_ :: ps, by rw [hp]; rfl⟩
    | _ => cases e.1
def vTupP (mr : MA) : ME := fun env h => (mr env h).bind fun (xs, h1) => (mapO (snap 8 h1) xs).bind fun ds => match ds with
  | [.lst es] => if (allT es && Dv.purs es) = true then some (.tup (es.map .d), h1) else none
  | _ => none
theorem he_tupP (p : PE X e (tCB (rTupP X.K) (rA X.K mr))) : HE X e (vTupP mr) := pe_weak p fun σ H Q h => by
  obtain ⟨P, μ, env, h, z, h', rl, er, e, q⟩ := h
  obtain ⟨⟨xs, h1⟩, e1, e⟩ := bs e
  obtain ⟨ds, e2, e⟩ := bs e
  split at e
  · rename_i es
    obtain ⟨c, e⟩ := ifs e
    cases e
    rw [Bool.and_eq_true] at c
    refine rA_to rl er e1 fun μ1 H1 vs rl1 s1 er1 v1 => ?_
    obtain ⟨G, rr, _⟩ := mapO_rep (fun _ => True) (fun v x d => snap_rep rl1 8 v x d) v1 e2
    obtain ⟨v, rfl, r1⟩ := rr.inv1
    cases r1 with
    | @lst a xs' _ g ha ra =>
      refine ⟨a, xs', rfl, SqL.of ha, fun l o hl ho => ?_⟩
      obtain ⟨ps, hps⟩ := reps_refs ra c.1
      have sm : Same H1 (upd H1 l (.frz o (.tup xs'))) := same_new hl
      have pl : PlT (upd H1 l (.frz o (.tup xs'))) l xs' := ⟨o, upd_same, ho, ps, hps⟩
      have ra2 := ra.step (M := fun _ => False) (.same sm) fun _ _ z => z
      have hg := ra.purG c.2
      subst hg
      exact q μ1 _ _ (rl1.same sm) (s1.trans (.same rl1 sm)) (.tup ⟨pl.tq, fun _ _ => pl⟩ (.of ra2 fun a m => nomatch m))
  · cases e
def vDictP (mr : MA) : ME := fun env h => (mr env h).bind fun (xs, h1) => match xs with
  | [.tup ys] => (allD ys).bind fun ds => (pairsOf ds).bind fun l => if Dv.purs (l.map (·.2)) = true then thaw (.dct (mergeKD [] l)) h1 else none
  | _ => none
theorem he_dictP (p : PE X e (tCB (rDictP X.K) (rA X.K mr))) : HE X e (vDictP mr) := pe_weak p fun σ H Q h => by
  obtain ⟨P, μ, env, h, z, h', rl, er, e, q⟩ := h
  obtain ⟨⟨xs, h1⟩, e1, e⟩ := bs e
  dsimp only at e
  split at e
  · rename_i ys
    obtain ⟨ds, e2, e⟩ := bs e
    obtain ⟨l, e3, e⟩ := bs e
    obtain ⟨c, eth⟩ := ifs e
    clear e
    have hy := allD_eq e2
    subst hy
    refine rA_to rl er e1 fun μ1 H1 vs rl1 s1 er1 v1 => ?_
    cases v1 with
    | cons v2 v3 =>
      cases v3
      cases v2 with
      | @tup a us _ ht rs =>
        have pl := ht.2 ds rfl
        obtain ⟨G, ra, _⟩ := rs.ds
        obtain ⟨ps, kvs, e4, e5, e6, e7⟩ := pairs_rep ra e3 c
        subst e4
        refine ⟨a, ps, kvs, rfl, pl, e5, fun p hp => ?_⟩
        have sm : Same H1 (upd H1 p (.dK (mergeK [] kvs))) := same_new hp
        obtain ⟨mk, mr⟩ := merge_rep (kvs := []) (l := []) rfl .nil e6 e7
        have rz : Rep X.K (upd H1 p (.dK (mergeK [] kvs))) (.ref p) (.dct (mergeKD [] l)) [p] := .dct (.inl upd_same) mk (mr.step (M := fun _ => False) (.same sm) fun _ _ z => z)
        obtain ⟨μ2, rl2, s2, rv2⟩ := thaw_ok rl1 sm rz (fun b m => by
          rcases List.mem_cons.mp m with rfl | m
          · exact ⟨hp, _, upd_same, True.intro⟩
          · cases m) eth
        exact q μ2 _ _ rl2 (s1.trans s2) rv2
  · cases e
def vDictQ (mr : MA) : ME := fun env h => (mr env h).bind fun (xs, h1) => match xs with
  | [.tup ys] => (allD ys).bind fun ds => (pairsOf ds).bind fun l => if Dv.purs (l.map (·.2)) = true then some (.d (.dct (mergeKD [] l)), h1) else none
  | _ => none
theorem he_dictQ (p : PE X e (tCB (rDictP X.K) (rA X.K mr))) : HE X e (vDictQ mr) := pe_weak p fun σ H Q h => by
  obtain ⟨P, μ, env, h, z, h', rl, er, e, q⟩ := h
  obtain ⟨⟨xs, h1⟩, e1, e⟩ := bs e
  dsimp only at e
  split at e
  · rename_i ys
    obtain ⟨ds, e2, e⟩ := bs e
    obtain ⟨l, e3, e⟩ := bs e
    obtain ⟨c, eth⟩ := ifs e
    clear e
    have hy := allD_eq e2
    subst hy
    refine rA_to rl er e1 fun μ1 H1 vs rl1 s1 er1 v1 => ?_
    cases v1 with
    | cons v2 v3 =>
      cases v3
      cases v2 with
      | @tup a us _ ht rs =>
        have pl := ht.2 ds rfl
        obtain ⟨G, ra, _⟩ := rs.ds
        obtain ⟨ps, kvs, e4, e5, e6, e7⟩ := pairs_rep ra e3 c
        subst e4
        refine ⟨a, ps, kvs, rfl, pl, e5, fun p hp => ?_⟩
        have sm : Same H1 (upd H1 p (.dK (mergeK [] kvs))) := same_new hp
        obtain ⟨mk, mr⟩ := merge_rep (kvs := []) (l := []) rfl .nil e6 e7
        have rz : Rep X.K (upd H1 p (.dK (mergeK [] kvs))) (.ref p) (.dct (mergeKD [] l)) [p] := .dct (.inl upd_same) mk (mr.step (M := fun _ => False) (.same sm) fun _ _ z => z)
        cases eth
        refine q μ1 _ _ (rl1.same sm) (s1.trans (.same rl1 sm)) (.d rz fun b m z => ?_)
        rcases List.mem_cons.mp m with rfl | m
        · exact rl1.has z hp
        · cases m
  · cases e
end
theorem allT_pairs : ∀ {l : List (Key × Dv)}, allT (l.map fun p => .tup [kD p.1, p.2]) = true := fun {l} => by
  unfold allT
  rw [List.all_map, List.all_eq_true]
  exact fun _ _ => rfl
def afS (m : List (Key × Dv)) : Av := .tup (((srtD m).map fun p => Dv.tup [kD p.1, p.2]).map .d)
def wrS (w : Wr) : Av := .tup [.d w.1.st, .d (.str w.1.key), .d (.int w.1.v), afS w.2]
theorem mkT_wr {a b c : Dv} {xs : List Av} : mkT [.d a, .d b, .d c, .tup xs] = .tup [.d a, .d b, .d c, .tup xs] := rfl
theorem snap_afS {k : Nat} {h : AH} {m : List (Key × Dv)} : snap (k + 1) h (afS m) = some (afD m) := by
  show (mapO (snap k h) _).map Dv.tup = _
  rw [snaps_map]; rfl
theorem snaps_wrS {h : AH} {w : Wr} : mapO (snap 8 h) [wrS w] = some [wrD w] := by
  have e : snap 8 h (wrS w) = some (wrD w) := by
    show (mapO (snap 7 h) [.d w.1.st, .d (.str w.1.key), .d (.int w.1.v), afS w.2]).map Dv.tup = _
    rw [mapO, snap_d, mapO, snap_d, mapO, snap_d, mapO, snap_afS]; rfl
  rw [mapO, e]; rfl
end Fh
/-! max of a list of data -/
namespace Fh
open PySem PySem.Spec PyProof.Rows L2 RZ
open PySem.W (AlikeAll dataLt maxD alike)
open Fd (Dv Rep Reps pyD plD okB CallD)
section
variable {X : Cx}
theorem maxD_mem (x : PyData) : ∀ (xs : List PyData), maxD x xs ∈ x :: xs := fun xs => by
  unfold maxD
  induction xs generalizing x with
  | nil => exact List.mem_cons_self
  | cons y ys ih =>
    rw [List.foldl_cons]
    rcases List.mem_cons.mp (ih (if dataLt x y = true then y else x)) with h | h
    · rw [h]
      split
      · exact List.mem_cons_of_mem _ List.mem_cons_self
      · exact List.mem_cons_self
    · exact List.mem_cons_of_mem _ (List.mem_cons_of_mem _ h)
def rMxL (K : PySem.W.Frag) : List V → Hp → VK → Prop := fun vs H Q => ∃ (a : Addr) (ys : List V) (x : PyData) (xs : List PyData), vs = [.ref a] ∧ SqL K H a ys ∧ DpAll K H ys (x :: xs) ∧ AlikeAll (x :: xs) ∧ PyData.depthAll (x :: xs) ≤ 20 ∧
  ∀ (i : Nat) (y : V), ys[i]? = some y → (x :: xs)[i]? = some (maxD x xs) → Q y H
theorem call_maxA (hc : X.calm = true) (hu : X.A.units + 64 < cLine) : CallR X (.builtin "max") (rMxL X.K) := by
  intro pins s σ H vs us Q I r ⟨a, ys, x, xs, e0, hq, hd, al, hdp, q⟩
  subst e0
  obtain ⟨u, rfl, rx⟩ := vals1 r
  cases rx
  obtain ⟨its, rv, pl, hz⟩ := I.list hq
  obtain ⟨as, ra⟩ := Dp.readsAll I (x :: xs) ys its hd rv
  refine PySem.W.max_list_data (I.ok.hd hc) pl.isList ra al (by omega) fun i v h' tk bs hv hr kp => ?_
  have hv : its[i]? = some v := by simpa using hv
  obtain ⟨y, y1, y2⟩ := vals_at rv i v hv
  obtain ⟨d, bs', d1, d2⟩ := Fd.readsAll_at ra i v hv
  have e : d = maxD x xs := PySem.W.alike_unique d _ v bs' bs (al.1 d (List.mem_of_getElem? d1) _ (maxD_mem x xs)) (PyProof.Rows.Reads.keeps kp d2) hr
  subst e
  exact ⟨y, H, I.kept kp, y2, q i y y1 d1⟩
def mxD (d : Dv) (ds : List Dv) : Dv := ds.foldl (fun a e => if dataLt (plD a) (plD e) = true then e else a) d
theorem mxD_mem (d : Dv) : ∀ (ds : List Dv), mxD d ds ∈ d :: ds := fun ds => by
  unfold mxD
  induction ds generalizing d with
  | nil => exact List.mem_cons_self
  | cons y ys ih =>
    rw [List.foldl_cons]
    rcases List.mem_cons.mp (ih (if dataLt (plD d) (plD y) = true then y else d)) with h | h
    · rw [h]
      split
      · exact List.mem_cons_of_mem _ List.mem_cons_self
      · exact List.mem_cons_self
    · exact List.mem_cons_of_mem _ (List.mem_cons_of_mem _ h)
theorem mxD_pl (d : Dv) : ∀ (ds : List Dv), plD (mxD d ds) = maxD (plD d) (ds.map plD) := fun ds => by
  unfold mxD maxD
  induction ds generalizing d with
  | nil => rfl
  | cons y ys ih =>
    rw [List.foldl_cons, List.map_cons, List.foldl_cons, ih]
    by_cases c : dataLt (plD d) (plD y) = true
    · rw [if_pos c, if_pos c]
    · rw [if_neg c, if_neg c]
def maxA : List Dv → Option Dv
  | [.lst (d :: ds)] => if ((d :: ds).all (fun e => sdv e && okB e && (atB (plD e) || tupB (plD e)) && e.pur) && alikeB ((d :: ds).map plD) && decide (PyData.depthAll ((d :: ds).map plD) ≤ 20)) = true then some (mxD d ds) else none
  | _ => none
theorem reps_dps {K : PySem.W.Frag} {H : Hp} : ∀ {vs : List V} {ds : List Dv} {G : List Addr}, Reps K H vs ds G → (∀ d ∈ ds, okB d = true) → DpAll K H vs (ds.map plD)
  | _, _, _, .nil, _ => .nil
  | _, _, _, .cons (d := d) h r, e => by
    obtain ⟨p, hp, _⟩ := Fd.okB_ok (e _ List.mem_cons_self)
    have e1 : plD d = p := by unfold plD; rw [hp]; rfl
    rw [List.map_cons]
    exact .cons (e1 ▸ h.dp hp) (reps_dps r fun d hd => e d (List.mem_cons_of_mem _ hd))
theorem reps_at2 {K : PySem.W.Frag} {H : Hp} : ∀ {vs : List V} {ds : List Dv} {G : List Addr}, Reps K H vs ds G → ∀ (i : Nat) (v : V), vs[i]? = some v → ∃ d G1, ds[i]? = some d ∧ Rep K H v d G1
  | _, _, _, .nil, i, v, e => by simp at e
  | _, _, _, .cons h r, 0, v, e => by simp at e; subst e; exact ⟨_, _, rfl, h⟩
  | _, _, _, .cons h r, i + 1, v, e => by
    obtain ⟨d, G1, h1, h2⟩ := reps_at2 r i v (by simpa using e)
    exact ⟨d, G1, by simpa using h1, h2⟩
theorem callD_maxA {K : PySem.W.Frag} : CallD K (rMxL K) true maxA := fun H vs ds d G Q r e q => by
  unfold maxA at e
  split at e
  · rename_i d0 es
    obtain ⟨c, e⟩ := ifs e
    cases e
    rw [Bool.and_eq_true, Bool.and_eq_true, List.all_eq_true, decide_eq_true_eq] at c
    obtain ⟨⟨c1, c2⟩, c3⟩ := c
    have c1 : ∀ e ∈ d0 :: es, ((sdv e = true ∧ okB e = true) ∧ (atB (plD e) || tupB (plD e)) = true) ∧ e.pur = true := fun e he => by
      have := c1 e he
      rw [Bool.and_eq_true, Bool.and_eq_true, Bool.and_eq_true] at this
      exact this
    obtain ⟨v, rfl, r1⟩ := r.inv1
    cases r1 with
    | @lst a ys _ g ha ra =>
      have nn : ∀ p : PyData, (atB p || tupB p) = true → p ≠ .none := fun p h z => by subst z; cases h
      refine ⟨a, ys, plD d0, es.map plD, rfl, SqL.of ha, reps_dps ra fun e he => (c1 e he).1.1.2, ⟨fun x hx y hy => ?_, fun x hx => ?_⟩, c3, fun i y h1 h2 => ?_⟩
      · have h1 := List.all_eq_true.mp c2 x hx
        exact List.all_eq_true.mp h1 y hy
      · obtain ⟨e, he, rfl⟩ := List.mem_map.mp (show x ∈ (d0 :: es).map plD from hx)
        exact nn _ (c1 e he).1.2
      · obtain ⟨e, G1, h3, h4⟩ := reps_at2 ra i y h1
        have h2 : ((d0 :: es).map plD)[i]? = some (maxD (plD d0) (es.map plD)) := h2
        rw [List.getElem?_map, h3] at h2
        have h2 : plD e = maxD (plD d0) (es.map plD) := Option.some.inj h2
        rw [← mxD_pl] at h2
        have he := c1 e (List.mem_of_getElem? h3)
        have hm := c1 _ (mxD_mem d0 es)
        have eq : e = mxD d0 es := (eqv_ok ⟨he.1.1.1, he.1.1.2⟩ ⟨hm.1.1.1, hm.1.1.2⟩).mp (by
          rw [← h2]
          exact SeqAt.eqv_refl _ (SeqAt.canLay_of_shaped (sh_ok he.1.1.2)))
        rw [← eq] at q
        have hg := h4.purG he.2
        subst hg
        exact q _ H [] (.refl H) h4 (fun b k => (nomatch k)) fun _ _ => ⟨.nil, fun a m => (nomatch m)⟩
  · cases e
end
end Fh
/-! x[i] of a list as a target among others -/
namespace Fh
open PySem PySem.Spec PyProof.Rows L2 RZ
open Fd (Dv Rep Reps)
section
variable {X : Cx}
def gPut (mx mk : ME) : MG := fun v env h => (mx env h).bind fun (x, h2) => (mk env h2).bind fun (k, h3) => match x, k with
  | .ref n, .d (.int i) => match h3[n]? with
    | some (.lv (.lst xs)) => (ixN xs.length i).bind fun j => some (env, h3.set n (.lv (.lst (xs.set j v))))
    | _ => none
  | _, _ => none
theorem hg_put {e : Expr} {mx mk : ME} (p : PG X e (gSub (rE X.K mx) (rE X.K mk) rSetL)) : HG X e [] (gPut mx mk) := pg_weak p fun v σ H Q ⟨P, μ, env, h, x, env', h', rl, er, rv, e, q⟩ => by
  obtain ⟨⟨o, h2⟩, e1, e⟩ := bs e
  obtain ⟨⟨k, h3⟩, e2, e⟩ := bs e
  dsimp only at e
  split at e
  · rename_i n i
    split at e
    · rename_i xs hn
      obtain ⟨j, hj, e⟩ := bs e
      cases e
      refine rE_to rl er e1 fun μ2 H2 u rl2 s2 er2 v2 => rE_to rl2 er2 e2 fun μ3 H3 w rl3 s3 er3 v3 => ?_
      obtain ⟨a, uo, rfl, ha, hH, br⟩ := cell_at rl3 (v2.on rl2 s3) hn
      cases br with
      | lst rs =>
        cases v3 with
        | d r3 n3 =>
          cases r3
          obtain ⟨rl4, s4⟩ := rl3.wr hn ha (b' := .lst (xs.set j _)) (.lst (rs.set (rv.on rl (s2.trans s3)) j))
          exact ⟨a, _, _, j, rfl, rfl, hH, by rw [rs.len]; exact hj, q μ3 _ σ rl4 ((s2.trans s3).trans s4) (er3.on rl3 s4) rfl fun _ _ => rfl⟩
    · cases e
  · cases e
end
end Fh
/-! a path by a text: for k in d["x"]; sorted(d.values()) -/
namespace Fh
open PySem PySem.Spec PyProof.Rows L2 RZ PySem.Calls PyProof.V
open PySem.W (AllAlike Sortable dataLe EachIs KdlSrc)
open Fd (Dv Rep Reps kD gK pK pyD plD okB same_new)
theorem swp_rd {H H2 : Hp} {a : Addr} {u : HO} (sw : Swp H H2) (hu : IsDo u) (h : Rd H a u) : Rd H2 a u := by
  rcases sw a with w | ⟨u', od, hu', h1, h2⟩
  · exact h.imp (fun z => w.trans z) (fun ⟨o, z⟩ => ⟨o, w.trans z⟩)
  · rcases h with h | ⟨o, h⟩
    · rw [h1] at h; cases h; exact .inr ⟨od, h2⟩
    · rw [h1] at h; cases h; cases hu'
theorem swp_get {H H2 : Hp} {a : Addr} {k : Str} {r : Option V} (sw : Swp H H2) (d : DGet H a (.str k) r) : DGet H2 a (.str k) r := by
  rcases d with ⟨kvs, j, h1, h2, h3⟩ | ⟨_, _, _, _, h2, _⟩
  · exact .inl ⟨kvs, j, swp_rd sw True.intro h1, h2, h3⟩
  · cases h2
theorem pth_ixs {K : PySem.W.Frag} {t : TE} {m : ME} {k : Str} (pt : Pth K t m) : Pth K (tDGet t (tC (.str k))) (vIx m (vC (.str k))) := fun P μ env h σ H x h' rl er e => by
  obtain ⟨⟨y, h1⟩, e1, e⟩ := bs e
  obtain ⟨⟨z, h2⟩, e2, e⟩ := bs e
  obtain ⟨w, hw, e⟩ := bs e
  cases e
  cases e2
  obtain ⟨hh, v, rv, kk⟩ := pt P μ env h σ H y h' rl er e1
  subst hh
  unfold ixA at hw
  cases hx : itX h' y with
  | some xs =>
    rw [hx] at hw
    obtain ⟨i, hi, hw⟩ := bs (show (intA (.d (.str k))).bind (fun i => atI xs i) = some x from hw)
    cases hi
  | none =>
    rw [hx] at hw
    cases hz : strA y with
    | some zz =>
      rw [hz] at hw
      obtain ⟨c, hw⟩ := ifs hw
      obtain ⟨i, hi, hw⟩ := bs hw
      cases hi
    | none =>
      rw [hz] at hw
      obtain ⟨o, hg, ho⟩ := bs (show (getA h' y (.d (.str k))).bind id = some x from hw)
      have ho : o = some x := ho
      subst ho
      have rk : RV K H μ (Lv P μ h') (.str k) (.d (.str k)) := .d (.str k) fun a m => (nomatch m)
      obtain ⟨a, r, rfl, dg, hc⟩ := getA_ok rl rv rk hg
      rcases hc with ⟨z, _⟩ | ⟨yy, ww, z1, z2, z3⟩
      · cases z
      · cases z1
        subst z2
        exact ⟨rfl, ww, z3, fun H2 sw Q hq => kk H2 sw _ ⟨a, ww, rfl, swp_get sw dg, hq⟩⟩
/-! ### the values of a dict, sorted -/
def valsO (p d : Addr) : HO := .ext fun h => h.IsValuesView p d
theorem valsO_ok {P : Program} {w : World} {H : Hp} {h : Heap} {p d : Addr} (e : h.get? p = some { cls := .type "dict_values", data := .fields #[.ref d] }) : ObjOk P w H h p (valsO p d) :=
  ⟨⟨_, e, rfl, rfl⟩, ⟨_, e⟩, fun h1 h2 x k => let ⟨o, ho, r⟩ := x; ⟨o, k o ho, r⟩⟩
def rValsK : V → List V → Hp → VK → Prop := fun x xs H Q => ∃ (a : Addr) (kvs : List (Key × V)), x = .ref a ∧ xs = [] ∧ Rd H a (.dK kvs) ∧ ∀ p, H p = none → Q (.ref p) (upd H p (valsO p a))
section
variable {X : Cx}
theorem mt_valsK : MtR X "dict.values" rValsK := by
  intro pins s σ H x xs v us Q I rx rxs h
  obtain ⟨a, kvs, rfl, rfl, ha, q⟩ := h
  cases rx
  cases rxs
  obtain ⟨_, hd, vs, kv, o, es, ep, ho, hx, hdat, _⟩ := dk_rd I.hok ha
  have raw : s.heap.DictRaw a es ep := ⟨o, ho, hx, hdat⟩
  have fr : H s.heap.objs.size = none := I.hok.fresh (Nat.le_refl _)
  refine call_meetsIn PySem.F.slot_dict_values ⟨o, ho, hx.1⟩ PySem.F.entry_dict_values (PySem.F.args_dict_values_1 _) (meets_dict_values_raw a hd) ⟨⟨es, ep, raw⟩, ?_⟩
  exact ⟨.ref s.heap.objs.size, upd H s.heap.objs.size (valsO s.heap.objs.size a), I.laid (t' := s.toks) (fun b u e => Heap.get?_push_of_some _ e) (Nat.le_refl _) (valsO_ok (Heap.get?_push_size _ rfl)), rfl, q _ fr⟩
end
section
variable {prog : Program} {w : World} {A : Around} {E : Value → Shared → Prop} {s : Shared} {r d : Addr} {es : Array DictEntry} {ep : Nat}
theorem vals_of {acc : Array Value} (hacc : ItemsOf (fun i v => ∃ hi : i < es.size, v = es[i].val) acc es.size) : acc.toList.length = es.size ∧ ∀ (j : Nat) (v : Value), acc.toList[j]? = some v → ∃ hj : j < es.size, v = es[j].val :=
  ⟨by rw [Array.length_toList]; exact hacc.1, fun j v e => hacc.2 j v (by rw [← Array.getElem?_toList]; exact e)⟩
/-- the values in a list -/
theorem collectV {R : List Value → Shared → Prop} (hh : A.handled = none) (hv : s.heap.IsValuesView r d) (hm : s.heap.DictRaw d es ep) (hn : es.size ≤ sizeLine)
    (h : ∀ (h' : Heap) (tk : Nat) (vs : List Value), (∀ b o, s.heap.get? b = some o → h'.get? b = some o) → s.heap.objs.size < h'.objs.size → vs.length = es.size → (∀ (j : Nat) (v : Value), vs[j]? = some v → ∃ hj : j < es.size, v = es[j].val) → R vs { s with heap := h', toks := tk }) :
    wpAny (model prog w) A (collect (.ref r)) R E s := by
  have K := KdlSrc.rawValues (prog := prog) (w := w) (r := r) (d := d) (es := es) (ep := ep)
  have lr : r < s.heap.objs.size := let ⟨_, ho, _⟩ := hv; Heap.lt_size ho
  have ld := hm.lt_size
  unfold collect; refine wpAny_bind (wpAny_runValue (codeAny_builtin entry_proto_collect' ?_))
  rw [Around.under_plainId PySem.F.plain_proto_collect]; show wpAny _ A.in1 (newList [] >>= fun l => again (.builtin "list.__iadd__" ⟨[l, .ref r], []⟩)) _ _ s
  refine wpAny_bind (wpAny_newObj_type ?_); refine wpAny_pure ⟨plainId_quiet PySem.F.plain_list_iadd _, codeAny_builtin entry_list_iadd' ?_⟩
  rw [Around.under_plainId PySem.F.plain_list_iadd]; show wpAny _ A.in1 (Builtin.List.listExtendWith (.ref s.heap.objs.size) (.ref r) (.ref s.heap.objs.size)) _ _ _
  have old : ∀ (b : Addr) (o : Obj), s.heap.get? b = some o → (s.heap.push { cls := .type "list", data := .seq ([] : List Value).toArray }).get? b = some o := fun b o e => Heap.get?_push_of_some _ e
  have key := PySem.W.kdl_extend (A := A) (s := { s with heap := s.heap.push { cls := .type "list", data := .seq ([] : List Value).toArray } })
    (R := fun (q : Result) (s' : Shared) => ∃ (h' : Heap) (tk : Nat) (acc : Array Value) (c : Nat), q = .ok (.ret (.ref s.heap.objs.size)) ∧ s' = { s with heap := h', toks := tk } ∧ (∀ b o, s.heap.get? b = some o → h'.get? b = some o) ∧
      h'.get? s.heap.objs.size = some { cls := .type "list", dict := none, data := .seq acc c, slots := #[] } ∧ ItemsOf (fun i v => ∃ hi : i < es.size, v = es[i].val) acc es.size)
    K hh (K.keep _ _ ⟨hv, hm⟩ fun b _ o e => old b o e) s.heap.objs.size (Nat.ne_of_gt lr) (Nat.ne_of_gt ld) (.ref s.heap.objs.size) 0 (Heap.get?_push_size _ rfl)
    (fun h' tk acc c hk hS hacc => ⟨h', tk, acc, c, rfl, rfl, fun b o e => hk b o (Nat.ne_of_lt (Heap.lt_size e)) (old b o e), hS, hacc⟩) hn
  refine wpAny_mono key (fun f s' x => ?_) fun e s' x => ?_
  · cases f with
    | done f =>
      obtain ⟨h', tk, acc, c, e, rfl, hk, hS, hacc⟩ := x
      cases e
      obtain ⟨v1, v2⟩ := vals_of hacc
      show wpAny _ A (load s.heap.objs.size >>= _) _ _ _; refine wpAny_bind (wpAny_load hS ?_)
      exact wpAny_pure (h h' tk acc.toList hk (Heap.lt_size hS) v1 v2)
    | again c₁ =>
      refine ⟨x.1, codeAny_mono x.2 fun q s₂ y => ?_⟩
      obtain ⟨h', tk, acc, c, rfl, rfl, hk, hS, hacc⟩ := y
      obtain ⟨v1, v2⟩ := vals_of hacc
      show wpAny _ A (load s.heap.objs.size >>= _) _ _ _; refine wpAny_bind (wpAny_load hS ?_)
      exact wpAny_pure (h h' tk acc.toList hk (Heap.lt_size hS) v1 v2)
  · obtain ⟨_, _, _, _, z, _⟩ := x
    cases z
theorem sortedV {Q : Value → Shared → Prop} (hh : A.handled = none) (hv : s.heap.IsValuesView r d) (hm : s.heap.DictRaw d es ep) (hn : es.size ≤ sizeLine)
    (h : ∀ (h' : Heap) (tk : Nat) (vs : List Value), (∀ b o, s.heap.get? b = some o → h'.get? b = some o) → s.heap.objs.size < h'.objs.size → vs.length = es.size → (∀ (j : Nat) (v : Value), vs[j]? = some v → ∃ hj : j < es.size, v = es[j].val) →
      wpAny (model prog w) A.in1 (call (.builtin "list.sort") [.ref h'.objs.size]) (fun _ s' => Q (.ref h'.objs.size) s') E { s with heap := h'.push { cls := .type "list", data := .seq vs.toArray }, toks := tk }) :
    wpAny (model prog w) A (call (.builtin "sorted") [.ref r]) Q E s := by
  refine call_function_entry kind_sorted plain_sorted entry_sorted (args_sorted1 (.ref r)) ?_
  unfold Builtin.«sorted»; refine wpAny_bind (m := checkCount "sorted" 1 1 _) (wpAny_pure ?_)
  refine wpAny_bind (collectV (A := A.in1) hh hv hm hn fun h' tk vs k1 k2 k3 k4 => ?_)
  refine wpAny_bind (wpAny_newList ?_ (by rw [k3]; exact hn))
  exact wpAny_bind (wpAny_holding (wpAny_mono (h h' tk vs k1 k2 k3 k4) (fun _ s' x => wpAny_pure ⟨_, rfl, x⟩) fun _ _ e => e))
end
section
variable {X : Cx}
def rSortVK (K : PySem.W.Frag) : List V → Hp → VK → Prop := fun vs H Q => ∃ (p a : Addr) (kvs : List (Key × V)) (ds : List Dv) (G : List Addr), vs = [.ref p] ∧ H p = some (valsO p a) ∧ Rd H a (.dK kvs) ∧ Reps K H (kvs.map (·.2)) ds G ∧
  ds.all okB = true ∧ sortOk (ds.map plD) = true ∧ ∀ q, H q = none → Q (.ref q) (upd H q (.lst ((((kvs.map (·.2)).zip ds).mergeSort (dataLe false fun z => plD z.2)).map (·.1))))
theorem cr_sortVK (hc : X.calm = true) (hu : X.A.units + 64 < cLine) : CallR X (.builtin "sorted") (rSortVK X.K) := by
  intro pins s σ H xs us Q I r ⟨p, a, kvs, ds, G, e0, hp, ha, rr, ok, so, q⟩
  subst e0
  obtain rfl := Vals.ref1 r
  have view : s.heap.IsValuesView p a := (show ObjOk X.prog X.w H s.heap p (valsO p a) from I.hok p _ hp).1
  obtain ⟨z, hd, vs, kv, o, es, ep, ho, hx, hdat, hkeys, hpr, hnd⟩ := dk_rd I.hok ha
  have l1 : kvs.length = vs.length := Paired.length kv
  have l2 : es.size = vs.length := by rw [← Array.length_toList, hpr.length]
  have l3 : ds.length = kvs.length := by rw [← reps_ln rr, List.length_map]
  have hh : X.A.handled = none := I.ok.hd hc
  obtain ⟨al, sb, dp⟩ := sortOk_ok so
  refine sortedV (es := es) (ep := ep) hh view ⟨o, ho, hx, hdat⟩ (by rw [l2, ← l1]; exact z) fun h' tk its hk hlt hl hv => ?_
  have e2 : ((kvs.map (·.2)).zip ds).map (fun z => plD z.2) = ds.map plD := by
    show ((kvs.map (·.2)).zip ds).map (plD ∘ Prod.snd) = _
    rw [← List.map_map, List.map_snd_zip (by rw [List.length_map, l3]; exact Nat.le_refl _)]
  have ln : its.length = ((kvs.map (·.2)).zip ds).length := by rw [List.length_zip, List.length_map]; omega
  have hob : (h'.push { cls := .type "list", data := .seq its.toArray }).get? h'.objs.size = some (seqObj "list" its.toArray 0) := Heap.get?_push_size _ rfl
  have kb : ∀ b o, s.heap.get? b = some o → (h'.push { cls := .type "list", data := .seq its.toArray }).get? b = some o := fun b o e => Heap.get?_push_of_some _ (hk b o e)
  have ne0 : ∀ b o, s.heap.get? b = some o → b ≠ h'.objs.size := fun b o e => Nat.ne_of_lt (Heap.lt_size (hk b o e))
  generalize hh2 : h'.push { cls := .type "list", data := .seq its.toArray } = h2 at hob kb ⊢
  have me : ∀ (j : Nat) (v : V) (u : Value) (d : Dv), its[j]? = some u → (kvs.map (·.2))[j]? = some v → ds[j]? = some d → RelV v u ∧ ∃ cs, Reads h2 u (plD d) cs ∧ h'.objs.size ∉ cs := by
    intro j v u d h1 h3 h4
    obtain ⟨hj, rfl⟩ := hv j u h1
    obtain ⟨q1, k1, k2, k3⟩ := pairs_get hpr j es[j] (by rw [Array.getElem?_toList, Array.getElem?_eq_getElem hj])
    obtain ⟨y, m1, m2, m3⟩ := L2.DX.pget kv k1
    rw [List.getElem?_map, m1] at h3
    cases h3
    obtain ⟨d', G1, n1, n2⟩ := reps_at rr j y.2 (by rw [List.getElem?_map, m1]; rfl)
    rw [h4] at n1; cases n1
    obtain ⟨p1, hp1, _⟩ := Fd.okB_ok (List.all_eq_true.mp ok d (List.mem_of_getElem? h4))
    have : plD d = p1 := by unfold plD; rw [hp1]; rfl
    rw [k3, this]
    obtain ⟨cs, rv⟩ := Dp.reads I p1 _ _ (n2.dp hp1) m3
    refine ⟨m3, cs, PyProof.Rows.Reads.keeps kb rv, fun hm => ?_⟩
    obtain ⟨o, ho⟩ := PyProof.On.reads_mem_get rv _ hm
    exact ne0 _ _ ho rfl
  refine PySem.W.list_sort_data (s := { s with heap := h2, toks := tk }) (R := fun v (b : V × Dv) => RelV b.1 v) (enc := fun b : V × Dv => plD b.2) (bs := (kvs.map (·.2)).zip ds) hob (.of_zip ln fun p hp => ?_) (.of_zip ln fun p hp => ?_) (by rw [e2]; exact al) (by rw [e2]; exact sb) (by rw [← ln, hl, l2, ← l1]; exact z) (fun b hb => ?_) fun out h1 h2' => ?_
  · obtain ⟨j, k1, k2, k3⟩ := zip_get3 hp
    exact (me j _ _ _ k1 k2 k3).1
  · obtain ⟨j, k1, k2, k3⟩ := zip_get3 hp
    exact (me j _ _ _ k1 k2 k3).2
  · have := dp (plD b.2) (List.mem_map.mpr ⟨b.2, (List.of_mem_zip hb).2, rfl⟩)
    show X.A.units + 1 + 1 + (plD b.2).depth < _
    omega
  · show EP X pins σ Q (.ref h'.objs.size) { s with heap := sortedHeap h2 h'.objs.size its out.toArray, toks := tk }
    have kF : ∀ b o, b ≠ h'.objs.size → h2.get? b = some o → (sortedHeap h2 h'.objs.size its out.toArray).get? b = some o := fun b o hb e => (PyProof.Rows.sortedHeap_old hb (Heap.lt_size e)).trans e
    have kS : ∀ b o, s.heap.get? b = some o → (sortedHeap h2 h'.objs.size its out.toArray).get? b = some o := fun b o e => kF b o (ne0 _ _ e) (kb b o e)
    obtain ⟨eF, heF⟩ := PyProof.Rows.sortedHeap_at (vs := its) (out := out.toArray) hob
    have I1 : Inv X pins σ H { s with heap := sortedHeap h2 h'.objs.size its out.toArray, toks := tk } := I.kept (t' := tk) kS
    have hn0 : H h'.objs.size = none := I.hok.fresh (Nat.le_of_lt hlt)
    have hlen : ((((kvs.map (·.2)).zip ds).mergeSort (dataLe false fun z => plD z.2)).map (·.1)).length ≤ sizeLine := by
      rw [List.length_map, List.length_mergeSort, ← ln, hl, l2, ← l1]; exact z
    have I2 : Inv X pins σ (upd H h'.objs.size (.lst ((((kvs.map (·.2)).zip ds).mergeSort (dataLe false fun z => plD z.2)).map (·.1)))) { s with heap := sortedHeap h2 h'.objs.size its out.toArray, toks := tk } :=
      I1.take (h' := sortedHeap h2 h'.objs.size its out.toArray) (t' := tk) (fun b ob _ e => e) (I.fpOk (Nat.le_of_lt hlt) hn0) ⟨hlen, out, eF, vals_each h2', heF⟩
    exact ⟨.ref h'.objs.size, _, I2, rfl, q _ hn0⟩
def sortVs : Dv → Option Dv
  | .dct l => if (Dv.purs (l.map (·.2)) && (l.map (·.2)).all okB && sortOk ((l.map (·.2)).map plD)) = true then some (.lst (sortD (l.map (·.2)))) else none
  | _ => none
/-- sorted(d.values()) -/
def vSrtV (m : ME) : ME := fun env h => (m env h).bind fun (x, h1) => (snap 8 h1 x).bind fun d => (sortVs d).bind fun r => some (.d r, h1)
theorem he_srtV {e : Expr} {ma : ME} (p : PE X e (tCB (rSortVK X.K) (tCons (tDM0 rValsK (rE X.K ma)) tNil))) : HE X e (vSrtV ma) := pe_weak p fun σ H Q ⟨P, μ, env, h, z, h', rl, er, e, q⟩ => by
  obtain ⟨⟨x, h1⟩, e1, e⟩ := bs e
  obtain ⟨d, e2, e⟩ := bs e
  obtain ⟨d2, e3, e⟩ := bs e
  cases e
  refine rE_to rl er e1 fun μ1 H1 v rl1 s1 er1 v1 => ?_
  obtain ⟨G, rr, _⟩ := snap_rep rl1 8 _ _ _ v1 e2
  unfold sortVs at e3
  split at e3
  · rename_i l
    obtain ⟨c, e3⟩ := ifs e3
    cases e3
    obtain ⟨c12, c3⟩ := Bool.and_eq_true_iff.mp c
    obtain ⟨c1, c2⟩ := Bool.and_eq_true_iff.mp c12
    cases rr with
    | @dct a kvs _ g ha el ra =>
      refine ⟨⟨a, kvs, rfl, ha⟩, a, kvs, rfl, rfl, ha, fun p hp => ?_⟩
      have sm1 : Same H1 (upd H1 p (valsO p a)) := same_new hp
      have st : Fd.Stp (fun _ => False) H1 (upd H1 p (valsO p a)) := .same sm1
      refine ⟨p, a, kvs, _, g, rfl, upd_same, Fd.rd_step ha st id, ra.step (M := fun _ => False) st fun _ _ y => y, c2, c3, fun la hla => ?_⟩
      have sm2 : Same H1 (upd (upd H1 p (valsO p a)) la (.lst ((((kvs.map (·.2)).zip (l.map (·.2))).mergeSort (dataLe false fun z => plD z.2)).map (·.1)))) := fun b u hb => same_new hla b u (sm1 b u hb)
      have hla1 : H1 la = none := by
        cases hq : H1 la with
        | none => rfl
        | some u => rw [sm1 la u hq] at hla; cases hla
      have ln : (kvs.map (·.2)).length ≤ (l.map (·.2)).length := by rw [reps_ln ra]; exact Nat.le_refl _
      obtain ⟨G2, rs⟩ := reps_of (bs := ((kvs.map (·.2)).zip (l.map (·.2))).mergeSort (dataLe false fun z => plD z.2)) (K := X.K) (H := H1) fun z hz => reps_zip ra z (List.mem_mergeSort.mp hz)
      have em : (((kvs.map (·.2)).zip (l.map (·.2))).mergeSort (dataLe false fun z => plD z.2)).map (·.2) = sortD (l.map (·.2)) := by
        unfold sortD
        exact (PySem.W.sort_maps (r := dataLe false fun z : V × Dv => plD z.2) (s := dataLe false plD) Prod.snd (l := (kvs.map (·.2)).zip (l.map (·.2))) fun _ _ _ _ => rfl).trans (by rw [List.map_snd_zip (by rw [reps_ln ra]; exact Nat.le_refl _)])
      rw [em] at rs
      have pu : Dv.purs (sortD (l.map (·.2))) = true := by
        rw [Fd.purs_all, List.all_eq_true]
        intro z hz
        rw [Fd.purs_all] at c1
        exact List.all_eq_true.mp c1 z (List.mem_mergeSort.mp hz)
      rw [rs.purG pu] at rs
      refine q μ1 _ _ (rl1.same sm2) (s1.trans (.same rl1 sm2)) (.d (G := [la]) (.lst upd_same (rs.step (M := fun _ => False) (.same sm2) fun _ _ z => z)) fun x m => ?_)
      rcases List.mem_cons.mp m with rfl | m
      · exact fun z => rl1.has z hla1
      · cases m
  · cases e3
end
end Fh
/-! list(x) and x + y of tuples, with what hangs on their things -/
namespace Fh
open PySem PySem.Spec PyProof.Rows L2 RZ
open Fd (Dv Rep Reps same_new addD)
section
variable {X : Cx} {a b e : Expr} {pos : Pos} {ma mb : ME} {mr : MA}
/-- list(x) of a list or a tuple: a new cell with the same things -/
def vListA (mr : MA) : ME := fun env h => (mr env h).bind fun (xs, h1) => match xs with
  | [x] => ((itT x).or (itL h1 x)).bind fun ys => some (.ref h1.length, h1 ++ [.lv (.lst ys)])
  | _ => none
theorem he_listA (p : PE X e (tCB (rListX X.K) (rA X.K mr))) : HE X e (vListA mr) := pe_weak p fun σ H Q h => by
  obtain ⟨P, μ, env, h, z, h', rl, er, e, q⟩ := h
  obtain ⟨⟨xs, h1⟩, e1, e⟩ := bs e
  refine rA_to rl er e1 fun μ1 H1 vs rl1 s1 er1 v1 => ?_
  dsimp only at e
  split at e
  · rename_i x
    obtain ⟨ys, e2, e⟩ := bs e
    cases e
    have v1 : RVs X.K H1 μ1 (Lv P μ1 h1) vs [x] := v1
    obtain ⟨v, rv, rfl⟩ : ∃ v, RV X.K H1 μ1 (Lv P μ1 h1) v x ∧ vs = [v] := by
      match vs, v1 with
      | [v], .cons hv .nil => exact ⟨v, hv, rfl⟩
    have fin : ∀ (p : Addr) (zs : List V), v = .ref p → (SqL X.K H1 p zs ∨ SqT X.K H1 p zs) → RVs X.K H1 μ1 (Lv P μ1 h1) zs ys → rListX X.K [v] H1 Q := fun p zs ev hs rs => by
      subst ev
      refine .inl ⟨p, zs, rfl, hs, fun l hl => ?_⟩
      obtain ⟨rl3, s3⟩ := rl1.new hl (b := .lst ys) (.lst rs)
      exact q _ _ _ rl3 (s1.trans s3) (ref_new rl1)
    cases c : itT x with
    | some xs =>
      rw [c] at e2
      cases e2
      obtain ⟨p, zs, ev, ht, rs⟩ := itT_rv rv c
      exact fin p zs ev (.inr ht.sq) rs
    | none =>
      rw [c] at e2
      obtain ⟨p, zs, ev, hs, rs⟩ := itL_rv rl1 rv e2
      exact fin p zs ev (.inl hs) rs
  · cases e
/-- x + y: tuples with their things -/
def addX (x y : Av) (h : AH) : Option (Av × AH) := match itT x, itT y with
  | some xs, some ys => if xs.length + ys.length ≤ sizeLine then some (mkT (xs ++ ys), h) else none
  | _, _ => addH x y h
def vAddX (ma mb : ME) : ME := fun env h => (ma env h).bind fun (x, h1) => (mb env h1).bind fun (y, h2) => addX x y h2
theorem he_addX (ha : HE X a ma) (hb : HE X b mb) : HE X (.BinOp a .Add b pos) (vAddX ma mb) := pe_weak (pe_op Fd.op_addA ha hb) fun σ H Q ⟨P, μ, env, h, z, h', rl, er, e, q⟩ => by
  obtain ⟨⟨x, h1⟩, e1, e⟩ := bs e
  obtain ⟨⟨y, h2⟩, e2, e⟩ := bs e
  refine rE_to rl er e1 fun μ1 H1 v rl1 s1 er1 v1 => rE_to rl1 er1 e2 fun μ2 H2 u rl2 s2 er2 v2 => ?_
  dsimp only at e
  unfold addX at e
  split at e
  · rename_i xs ys hx hy
    obtain ⟨c, e⟩ := ifs e
    cases e
    obtain ⟨p1, vs, rfl, k1, k2⟩ := itT_rv (v1.on rl1 s2) hx
    obtain ⟨p2, us, rfl, k3, k4⟩ := itT_rv v2 hy
    refine .inr (.inr (.inr ⟨p1, p2, vs, us, rfl, rfl, k1.sq, k3.sq, by rw [k2.len, k4.len]; exact c, fun e0 => ?_, fun _ e0 => ?_, fun _ _ p hp => ?_⟩))
    · have : xs = [] := List.length_eq_zero_iff.mp (by rw [← k2.len, e0]; rfl)
      subst this
      exact q μ2 H2 _ rl2 (s1.trans s2) (mkT_rv k3 k4)
    · have : ys = [] := List.length_eq_zero_iff.mp (by rw [← k4.len, e0]; rfl)
      subst this
      exact q μ2 H2 _ rl2 (s1.trans s2) (by rw [List.append_nil]; exact mkT_rv k1 k2)
    · have sm : Same H2 (upd H2 p (.tup (vs ++ us))) := same_new hp
      exact q μ2 _ _ (rl2.same sm) ((s1.trans s2).trans (.same rl2 sm)) (mkT_rv (.inl upd_same) ((k2.app k4).on rl2 (.same rl2 sm)))
  · unfold addH at e
    split at e
    · rename_i xs ys hx hy
      obtain ⟨c, e⟩ := ifs e
      cases e
      obtain ⟨p1, vs, rfl, k1, k2⟩ := listH_rv rl2 (v1.on rl1 s2) hx
      obtain ⟨p2, us, rfl, k3, k4⟩ := listH_rv rl2 v2 hy
      refine .inr (.inr (.inl ⟨p1, p2, vs, us, rfl, rfl, k1, k3, by rw [k2.len, k4.len]; exact c, fun p hp => ?_⟩))
      have sm : Same H2 (upd H2 p (.lst (vs ++ us))) := same_new hp
      exact q μ2 _ _ (rl2.same sm) ((s1.trans s2).trans (.same rl2 sm)) (mkL_rv upd_same (fun z => rl2.has z hp) ((k2.app k4).on rl2 (.same rl2 sm)))
    · exact opM_ok Fd.opD_add rl2 (v1.on rl1 s2) v2 e fun H3 w hh rl3 s3 rw_ => by subst hh; exact q μ2 H3 w rl3 ((s1.trans s2).trans s3) rw_
end
end Fh
/-! <=, >, >= of tuples and texts -/
namespace Fh
open PySem PySem.Spec PyProof.Rows L2 RZ
open Fd (Dv Rep Reps OpD pyD stD StD stLt intOp lay_at readsAll_at readsAll_len)
inductive Cop where
  | le | gt | ge
def Cop.op : Cop → CmpOp
  | .le => .LtE
  | .gt => .Gt
  | .ge => .GtE
def Cop.i : Cop → Int → Int → Bool
  | .le, a, b => decide (a ≤ b)
  | .gt, a, b => decide (b < a)
  | .ge, a, b => decide (b ≤ a)
def Cop.s : Cop → Str → Str → Bool
  | .le, x, y => !decide (y.cps.toList < x.cps.toList)
  | .gt, x, y => decide (y.cps.toList < x.cps.toList)
  | .ge, x, y => !decide (x.cps.toList < y.cps.toList)
def Cop.n : Cop → Nat → Nat → Bool
  | .le, a, b => decide (a ≤ b)
  | .gt, a, b => decide (a > b)
  | .ge, a, b => decide (a ≥ b)
theorem Cop.n_succ (c : Cop) (a b : Nat) : c.n (a + 1) (b + 1) = c.n a b := by cases c <;> simp [Cop.n]
def cmpLs (c : Cop) (f : PyData → PyData → Option Bool) : List PyData → List PyData → Option Bool
  | [], ys => some (c.n 0 ys.length)
  | x :: xs, [] => some (c.n (xs.length + 1) 0)
  | x :: xs, y :: ys => match cmpLs c f xs ys with
    | none => none
    | some t => if PyData.eqv x y = true then some t else f x y
def cmpP (c : Cop) : Nat → PyData → PyData → Option Bool
  | _, .int a, .int b => some (c.i a b)
  | _, .str a, .str b => some (c.s a b)
  | n + 1, .tuple xs, .tuple ys => cmpLs c (cmpP c n) xs ys
  | _, _, _ => none
theorem cmpLs_all {c : Cop} {f : PyData → PyData → Option Bool} : ∀ {xs ys : List PyData} {b : Bool}, cmpLs c f xs ys = some b → ∀ (j : Nat) (x y : PyData), xs[j]? = some x → ys[j]? = some y → PyData.eqv x y = false → ∃ t, f x y = some t
  | [], _, _, _, j, x, y, h, _, _ => by simp at h
  | _ :: _, [], _, _, j, x, y, _, h, _ => by simp at h
  | a :: xs, d :: ys, b, e, j, x, y, h1, h2, h3 => by
    unfold cmpLs at e
    cases q : cmpLs c f xs ys with
    | none => rw [q] at e; cases e
    | some t =>
      rw [q] at e
      have e : (if PyData.eqv a d = true then some t else f a d) = some b := e
      cases j with
      | zero =>
        have h1 : some a = some x := h1
        have h2 : some d = some y := h2
        cases h1; cases h2
        rw [h3, if_neg Bool.false_ne_true] at e
        exact ⟨b, e⟩
      | succ j => exact cmpLs_all q j x y (by simpa using h1) (by simpa using h2) h3
theorem cmpLs_lex {c : Cop} {f : PyData → PyData → Option Bool} {e r : Nat → Bool} : ∀ {xs ys : List PyData} {b : Bool} (i : Nat), cmpLs c f xs ys = some b → (∀ (j : Nat) (x y : PyData), xs[j]? = some x → ys[j]? = some y → e (i + j) = PyData.eqv x y) →
    (∀ (j : Nat) (x y : PyData), xs[j]? = some x → ys[j]? = some y → PyData.eqv x y = false → f x y = some (r (i + j))) → Ob.lexAt e r (c.n xs.length ys.length) i (min xs.length ys.length) = b
  | [], ys, _, i, h, _, _ => by
    cases h
    rw [List.length_nil, Nat.zero_min, Ob.lexAt_zero]
  | _ :: xs, [], _, i, h, _, _ => by
    cases h
    rw [List.length_nil, Nat.min_zero, Ob.lexAt_zero]; rfl
  | x :: xs, y :: ys, b, i, h, he, hr => by
    unfold cmpLs at h
    cases q : cmpLs c f xs ys with
    | none => rw [q] at h; cases h
    | some t =>
      rw [q] at h
      have h : (if PyData.eqv x y = true then some t else f x y) = some b := h
      have ih := cmpLs_lex (e := e) (r := r) (i + 1) q (fun j a d h1 h2 => by
        rw [Nat.add_assoc, Nat.add_comm 1 j]; exact he (j + 1) a d (by simpa using h1) (by simpa using h2)) (fun j a d h1 h2 h3 => by
        rw [Nat.add_assoc, Nat.add_comm 1 j]; exact hr (j + 1) a d (by simpa using h1) (by simpa using h2) h3)
      have e0 := he 0 x y rfl rfl
      rw [List.length_cons, List.length_cons, Nat.succ_min_succ, Ob.lexAt_succ, Cop.n_succ]
      cases z : PyData.eqv x y with
      | true =>
        rw [Nat.add_zero, z] at e0
        rw [z, if_pos rfl] at h
        cases h
        rw [e0, if_pos rfl]; exact ih
      | false =>
        rw [Nat.add_zero, z] at e0
        rw [z, if_neg Bool.false_ne_true] at h
        have := hr 0 x y rfl rfl z
        rw [h, Nat.add_zero] at this
        cases this
        rw [e0, if_neg Bool.false_ne_true]
theorem rc_int (c : Cop) {A : Around} {s : Shared} (a b : Int) (t u : Tok) : Ob.RcOp c.op A s (.int a t) (.int b u) (c.i a b) := by
  cases c
  · exact Ob.RcOp.le_int _ _ _ _
  · exact Ob.RcOp.gt_int _ _ _ _
  · exact Ob.RcOp.ge_int _ _ _ _
theorem rc_str (c : Cop) {A : Around} {s : Shared} (a b : Str) (t u : Tok) : Ob.RcOp c.op A s (.str a t) (.str b u) (c.s a b) := by
  cases c
  · exact fun prog w E Q q => PySem.P.le_str q
  · exact fun prog w E Q q => PySem.P.gt_str q
  · exact fun prog w E Q q => PySem.P.ge_str q
theorem rc_tups (c : Cop) {A : Around} {s : Shared} {l b : Addr} {items items2 : Array Value} {e r : Nat → Bool} (hl : s.heap.IsTuple l items) (hb : s.heap.IsTuple b items2) (hu : A.units < cLine)
    (he : ∀ j (h1 : j < items.size) (h2 : j < items2.size), SeqAt.EqAt A.in1 s items[j] items2[j] (e j))
    (hr : ∀ j (h1 : j < items.size) (h2 : j < items2.size), e j = false → Ob.RcOp c.op A.in1 s items[j] items2[j] (r j)) :
    Ob.RcOp c.op A s (.ref l) (.ref b) (Ob.lexAt e r (c.n items.size items2.size) 0 (min items.size items2.size)) := by
  cases c
  · exact Ob.RcOp.tuples_le hl hb hu he hr
  · exact Ob.RcOp.tuples_gt hl hb hu he hr
  · exact Ob.RcOp.tuples_ge hl hb hu he hr
theorem rc_cmp (c : Cop) : ∀ (n : Nat) (d e : PyData) (b : Bool), cmpP c n d e = some b → ∀ {A : Around} {s : Shared} {u v : Value} {as bs : List Addr}, Reads s.heap u d as → Reads s.heap v e bs → d.canLay0 = true → e.canLay0 = true → A.units + d.depth < cLine → Ob.RcOp c.op A s u v b := by
  intro n
  induction n with
  | zero =>
    intro d e b h A s u v as bs ru rv _ _ _
    unfold cmpP at h
    split at h
    · cases h; cases ru; cases rv
      exact rc_int _ _ _ _ _
    · cases h; cases ru; cases rv
      exact rc_str _ _ _ _ _
    · rename_i h0 _ _ _; cases h0
    · cases h
  | succ n ih =>
    intro d e b h A s u v as bs ru rv cd ce hu
    unfold cmpP at h
    split at h
    · cases h; cases ru; cases rv
      exact rc_int _ _ _ _ _
    · cases h; cases ru; cases rv
      exact rc_str _ _ _ _ _
    · rename_i n' xs ys hn
      have hn' : n' = n := by omega
      subst hn'
      cases ru with
      | @tuple a o vs n1 _ _ ho hc hd ra =>
        cases rv with
        | @tuple a' o' vs' n2 _ _ ho' hc' hd' ra' =>
          have cx : PyData.canLayAll0 xs = true := by simpa [PyData.canLay0] using cd
          have cy : PyData.canLayAll0 ys = true := by simpa [PyData.canLay0] using ce
          have hu1 : A.in1.units + PyData.depthAll xs < cLine := by
            have : PyData.depth (.tuple xs) = PyData.depthAll xs + 1 := by simp [PyData.depth]
            rw [this] at hu
            show A.units + 1 + _ < _
            omega
          have l1 : vs.size = xs.length := by rw [← readsAll_len ra, Array.length_toList]
          have l2 : vs'.size = ys.length := by rw [← readsAll_len ra', Array.length_toList]
          have at1 : ∀ j (h1 : j < vs.size), ∃ x bs, xs[j]? = some x ∧ Reads s.heap vs[j] x bs := fun j h1 => readsAll_at ra j _ (by rw [Array.getElem?_toList]; exact Array.getElem?_eq_getElem h1)
          have at2 : ∀ j (h1 : j < vs'.size), ∃ x bs, ys[j]? = some x ∧ Reads s.heap vs'[j] x bs := fun j h1 => readsAll_at ra' j _ (by rw [Array.getElem?_toList]; exact Array.getElem?_eq_getElem h1)
          let ef : Nat → Bool := fun j => PyData.eqv (xs.getD j .none) (ys.getD j .none)
          let rf : Nat → Bool := fun j => (cmpP c n' (xs.getD j .none) (ys.getD j .none)).getD false
          have gx : ∀ {zs : List PyData} {j : Nat} {x : PyData}, zs[j]? = some x → zs.getD j .none = x := fun h => by rw [List.getD_eq_getElem?_getD, h]; rfl
          have R := rc_tups c (A := A) (s := s) (l := a) (b := a') (items := vs) (items2 := vs') (e := ef) (r := rf) ⟨o, ho, hc, n1, hd⟩ ⟨o', ho', hc', n2, hd'⟩ (by omega) (fun j h1 h2 => by
            obtain ⟨x, bs, e1, r1⟩ := at1 j h1
            obtain ⟨y, bs', e2, r2⟩ := at2 j h2
            obtain ⟨c1, c2⟩ := lay_at cx x (List.mem_of_getElem? e1)
            obtain ⟨c3, c4⟩ := lay_at cy y (List.mem_of_getElem? e2)
            show SeqAt.EqAt A.in1 s vs[j] vs'[j] (PyData.eqv (xs.getD j .none) (ys.getD j .none))
            rw [gx e1, gx e2]
            refine SeqAt.eqAt_reads x y A.in1 s _ _ bs bs' r1 r2 c1 c3 ?_
            have : min x.depth y.depth ≤ x.depth := Nat.min_le_left _ _
            omega) (fun j h1 h2 he => by
            obtain ⟨x, bs, e1, r1⟩ := at1 j h1
            obtain ⟨y, bs', e2, r2⟩ := at2 j h2
            obtain ⟨c1, c2⟩ := lay_at cx x (List.mem_of_getElem? e1)
            obtain ⟨c3, c4⟩ := lay_at cy y (List.mem_of_getElem? e2)
            have he : PyData.eqv (xs.getD j .none) (ys.getD j .none) = false := he
            rw [gx e1, gx e2] at he
            obtain ⟨t, ht⟩ := cmpLs_all h j x y e1 e2 he
            show Ob.RcOp c.op A.in1 s vs[j] vs'[j] ((cmpP c n' (xs.getD j .none) (ys.getD j .none)).getD false)
            rw [gx e1, gx e2, ht]
            exact ih x y t ht r1 r2 c1 c3 (by omega))
          have lx := cmpLs_lex (e := ef) (r := rf) 0 h (fun j x y e1 e2 => by
            show PyData.eqv (xs.getD (0 + j) .none) (ys.getD (0 + j) .none) = _
            rw [Nat.zero_add, gx e1, gx e2]) (fun j x y e1 e2 he => by
            obtain ⟨t, ht⟩ := cmpLs_all h j x y e1 e2 he
            show _ = some ((cmpP c n' (xs.getD (0 + j) .none) (ys.getD (0 + j) .none)).getD false)
            rw [Nat.zero_add, gx e1, gx e2, ht]; rfl)
          rw [l1, l2, lx] at R
          exact R
    · cases h
def rCmpD (c : Cop) (K : PySem.W.Frag) : R2 := fun x y H Q => ∃ d e b, Dp K H x d ∧ Dp K H y e ∧ SeqAt.shaped d = true ∧ SeqAt.shaped e = true ∧ cmpP c 8 d e = some b ∧ Q (.bl b) H
theorem op_cmpD (c : Cop) {X : Cx} (hu : X.A.units + 64 < cLine) : OpR X (compareOp c.op) (rCmpD c X.K) := by
  intro pins s σ H x y v u Q I rx ry h
  obtain ⟨d, e, b, hd, he, sd, se, hl, q⟩ := h
  obtain ⟨as, r1⟩ := Dp.reads I d x v hd rx
  obtain ⟨bs, r2⟩ := Dp.reads I e y u he ry
  have z := rc_cmp c 8 d e b hl (A := X.A) r1 r2 (SeqAt.canLay_of_shaped sd) (SeqAt.canLay_of_shaped se) (by have := SeqAt.depth_of_shaped sd; omega) X.prog X.w X.xe (EP X pins σ Q) ⟨.bl _, H, I, rfl, q⟩
  cases c <;> exact z
def cmpD (c : Cop) (d1 d2 : Dv) : Option Dv := match pyD d1, pyD d2 with
  | some p, some q => if (SeqAt.shaped p && SeqAt.shaped q) = true then (cmpP c 8 p q).map .bl else none
  | _, _ => none
theorem opD_cmpD (c : Cop) {K : PySem.W.Frag} : OpD K (rCmpD c K) true (cmpD c) := fun H x y d1 d2 d G1 G2 Q r1 r2 e q => by
  unfold cmpD at e
  split at e
  · rename_i p p' h1 h2
    split at e
    · rename_i hs
      obtain ⟨s1, s2⟩ := Bool.and_eq_true_iff.mp hs
      obtain ⟨b, hb, rfl⟩ := Option.map_eq_some_iff.mp e
      exact ⟨p, p', b, r1.dp h1, r2.dp h2, s1, s2, hb, q _ H [] (.refl H) (.bl _) (fun b k => (nomatch k)) fun _ _ => ⟨.nil, fun a m => (nomatch m)⟩⟩
    · cases e
  · cases e
def leC : Dv → Dv → Option Dv := fun d e => (leA d e).or (cmpD .le d e)
def gtC : Dv → Dv → Option Dv := fun d e => (gtA d e).or (cmpD .gt d e)
def geC : Dv → Dv → Option Dv := fun d e => (geA d e).or (cmpD .ge d e)
theorem op_leC {X : Cx} (hu : X.A.units + 64 < cLine) : OpR X (compareOp .LtE) (fun x y H Q => rI0 (fun i j => .bl (decide (i ≤ j))) x y H Q ∨ rCmpD .le X.K x y H Q) := (op_leA hu).or (op_cmpD .le hu)
theorem op_gtC {X : Cx} (hu : X.A.units + 64 < cLine) : OpR X (compareOp .Gt) (fun x y H Q => rI0 (fun i j => .bl (decide (j < i))) x y H Q ∨ rCmpD .gt X.K x y H Q) := (op_gtA hu).or (op_cmpD .gt hu)
theorem op_geC {X : Cx} (hu : X.A.units + 64 < cLine) : OpR X (compareOp .GtE) (fun x y H Q => rI0 (fun i j => .bl (decide (j ≤ i))) x y H Q ∨ rCmpD .ge X.K x y H Q) := (op_geA hu).or (op_cmpD .ge hu)
theorem opD_leC {K : PySem.W.Frag} : OpD K (fun x y H Q => rI0 (fun i j => .bl (decide (i ≤ j))) x y H Q ∨ rCmpD .le K x y H Q) true leC := opD_leA.or (opD_cmpD .le)
theorem opD_gtC {K : PySem.W.Frag} : OpD K (fun x y H Q => rI0 (fun i j => .bl (decide (j < i))) x y H Q ∨ rCmpD .gt K x y H Q) true gtC := opD_gtA.or (opD_cmpD .gt)
theorem opD_geC {K : PySem.W.Frag} : OpD K (fun x y H Q => rI0 (fun i j => .bl (decide (j ≤ i))) x y H Q ∨ rCmpD .ge K x y H Q) true geC := opD_geA.or (opD_cmpD .ge)
theorem leC_int {a b : Int} : leC (.int a) (.int b) = some (.bl (decide (a ≤ b))) := rfl
theorem gtC_int {a b : Int} : gtC (.int a) (.int b) = some (.bl (decide (b < a))) := rfl
theorem geC_int {a b : Int} : geC (.int a) (.int b) = some (.bl (decide (b ≤ a))) := rfl
theorem cmpP_st {c : Cop} {n m : Int} {x y : Str} : cmpP c 8 (.tuple [.int n, .str x]) (.tuple [.int m, .str y]) = some (if n = m then (if x = y then c.n 0 0 else c.s x y) else c.i n m) := by
  show cmpLs c (cmpP c 7) _ _ = _
  unfold cmpLs
  have e1 : cmpLs c (cmpP c 7) [.str x] [.str y] = some (if x = y then c.n 0 0 else c.s x y) := by
    unfold cmpLs
    show (if PyData.eqv (.str x) (.str y) = true then some (c.n 0 0) else cmpP c 7 (.str x) (.str y)) = _
    rw [PyData.eqv]
    by_cases h : x = y
    · rw [if_pos (by rw [h]; simp), if_pos h]
    · rw [if_neg (by simpa using h), if_neg h]; unfold cmpP; rfl
  rw [e1]
  show (if PyData.eqv (.int n) (.int m) = true then some (if x = y then c.n 0 0 else c.s x y) else cmpP c 7 (.int n) (.int m)) = _
  rw [PyData.eqv]
  by_cases h : n = m
  · rw [if_pos (by rw [h]; simp), if_pos h]
  · rw [if_neg (by simpa using h), if_neg h]; unfold cmpP; rfl
theorem cmpD_st {c : Cop} {n m : Int} {x y : Str} (vx : Fd.vS x) (vy : Fd.vS y) : cmpD c (stD n x) (stD m y) = some (.bl (if n = m then (if x = y then c.n 0 0 else c.s x y) else c.i n m)) := by
  unfold cmpD
  rw [show pyD (stD n x) = some (.tuple [.int n, .str x]) from rfl, show pyD (stD m y) = some (.tuple [.int m, .str y]) from rfl]
  dsimp only
  rw [Fd.st_shaped vx, Fd.st_shaped vy, cmpP_st]; rfl
theorem cps_eq {x y : Str} (h : x.cps.toList = y.cps.toList) : x = y := PySem.W.str_of_cps h
theorem lt_asymm' {x y : Str} (ne : x ≠ y) : (!decide (y.cps.toList < x.cps.toList)) = decide (x.cps.toList < y.cps.toList) := by
  by_cases h : x.cps.toList < y.cps.toList
  · rw [decide_eq_true h, decide_eq_false (List.lt_asymm h)]; rfl
  · have h2 : y.cps.toList < x.cps.toList := by
      by_cases h3 : y.cps.toList < x.cps.toList
      · exact h3
      · exact absurd (cps_eq (List.le_antisymm (List.not_lt.mp h3) (List.not_lt.mp h))) ne
    rw [decide_eq_false h, decide_eq_true h2]; rfl
theorem leC_st {d e : Dv} (h1 : StD d) (h2 : StD e) : leC d e = some (.bl (!stLt e d)) := by
  obtain ⟨n, x, rfl, vx⟩ := h1
  obtain ⟨m, y, rfl, vy⟩ := h2
  show (none : Option Dv).or (cmpD .le (stD n x) (stD m y)) = _
  rw [Option.none_or, cmpD_st vx vy]
  congr 2
  show (if n = m then (if x = y then true else !decide (y.cps.toList < x.cps.toList)) else decide (n ≤ m)) = !(if m = n then (if y = x then false else decide (y.cps.toList < x.cps.toList)) else decide (m < n))
  by_cases c : n = m
  · subst c
    rw [if_pos rfl, if_pos rfl]
    by_cases c2 : x = y
    · subst c2; rw [if_pos rfl, if_pos rfl]; rfl
    · rw [if_neg c2, if_neg (Ne.symm c2)]
  · rw [if_neg c, if_neg (Ne.symm c)]
    by_cases c2 : m < n
    · rw [decide_eq_true c2, decide_eq_false (by omega)]; rfl
    · rw [decide_eq_false c2, decide_eq_true (by omega)]; rfl
theorem gtC_st {d e : Dv} (h1 : StD d) (h2 : StD e) : gtC d e = some (.bl (stLt e d)) := by
  obtain ⟨n, x, rfl, vx⟩ := h1
  obtain ⟨m, y, rfl, vy⟩ := h2
  show (none : Option Dv).or (cmpD .gt (stD n x) (stD m y)) = _
  rw [Option.none_or, cmpD_st vx vy]
  congr 2
  show (if n = m then (if x = y then false else decide (y.cps.toList < x.cps.toList)) else decide (m < n)) = (if m = n then (if y = x then false else decide (y.cps.toList < x.cps.toList)) else decide (m < n))
  by_cases c : n = m
  · subst c
    rw [if_pos rfl, if_pos rfl]
    by_cases c2 : x = y
    · subst c2; simp
    · rw [if_neg c2, if_neg (Ne.symm c2)]
  · rw [if_neg c, if_neg (Ne.symm c)]
theorem geC_st {d e : Dv} (h1 : StD d) (h2 : StD e) : geC d e = some (.bl (!stLt d e)) := by
  obtain ⟨n, x, rfl, vx⟩ := h1
  obtain ⟨m, y, rfl, vy⟩ := h2
  show (none : Option Dv).or (cmpD .ge (stD n x) (stD m y)) = _
  rw [Option.none_or, cmpD_st vx vy]
  congr 2
  show (if n = m then (if x = y then true else !decide (x.cps.toList < y.cps.toList)) else decide (m ≤ n)) = !(if n = m then (if x = y then false else decide (x.cps.toList < y.cps.toList)) else decide (n < m))
  by_cases c : n = m
  · subst c
    rw [if_pos rfl, if_pos rfl]
    by_cases c2 : x = y
    · subst c2; rw [if_pos rfl, if_pos rfl]; rfl
    · rw [if_neg c2, if_neg c2]
  · rw [if_neg c, if_neg c]
    by_cases c2 : n < m
    · rw [decide_eq_true c2, decide_eq_false (by omega)]; rfl
    · rw [decide_eq_false c2, decide_eq_true (by omega)]; rfl
end Fh
/-! max(xs, default=d) -/
namespace Fh
open PySem PySem.Spec PyProof.Rows L2 RZ
open PySem.W (AlikeAll dataLt maxD alike)
open Fd (Dv Rep Reps CallD)
section
variable {X : Cx} {e : Expr} {mb : ME} {mr : MA}
def rMxD (K : PySem.W.Frag) : List V → List V → Hp → VK → Prop := fun vs zs H Q => ∃ z, zs = [z] ∧ ((∃ a : Addr, vs = [.ref a] ∧ SqL K H a [] ∧ Q z H) ∨ rMxL K vs H Q)
theorem callK_maxD (hc : X.calm = true) (hu : X.A.units + 64 < cLine) : CallRK X (.builtin "max") [Str.ofString "default"] (rMxD X.K) := by
  intro pins s σ H vs zs us ws Q I r rz ⟨z, e0, hh⟩
  subst e0
  obtain ⟨wz, rfl, rwz⟩ := vals1 rz
  show wpAny (model X.prog X.w) X.A (call (.builtin "max") us [(Str.ofString "default", wz)]) (EP X pins σ Q) X.xe s
  rcases hh with ⟨a, e1, hq, q⟩ | ⟨a, ys, x, xs, e1, hq, hd, al, hdp, q⟩
  · subst e1
    obtain ⟨u, rfl, rx⟩ := vals1 r
    cases rx
    obtain ⟨its, rv, pl, hz⟩ := I.list hq
    obtain ⟨as, ra⟩ := Dp.readsAll I [] [] its .nil rv
    refine PySem.W.max_list_default (I.ok.hd hc) pl.isList ra ⟨fun x hx => (nomatch hx), fun x hx => (nomatch hx)⟩ (by show X.A.units + 1 + 0 < _; omega) (fun _ h' tk kp => ?_) fun y ys i v h' tk bs h0 => (nomatch h0)
    exact ⟨z, H, I.kept kp, rwz, q⟩
  · subst e1
    obtain ⟨u, rfl, rx⟩ := vals1 r
    cases rx
    obtain ⟨its, rv, pl, hz⟩ := I.list hq
    obtain ⟨as, ra⟩ := Dp.readsAll I (x :: xs) ys its hd rv
    refine PySem.W.max_list_default (I.ok.hd hc) pl.isList ra al (by omega) (fun h0 => (nomatch h0)) fun x0 xs0 i v h' tk bs ex hv hr kp => ?_
    cases ex
    have hv : its[i]? = some v := by simpa using hv
    obtain ⟨y, y1, y2⟩ := vals_at rv i v hv
    obtain ⟨d, bs', d1, d2⟩ := Fd.readsAll_at ra i v hv
    have e : d = maxD x xs := PySem.W.alike_unique d _ v bs' bs (al.1 d (List.mem_of_getElem? d1) _ (maxD_mem x xs)) (PyProof.Rows.Reads.keeps kp d2) hr
    subst e
    exact ⟨y, H, I.kept kp, y2, q i y y1 d1⟩
def vMaxD (mr : MA) (mb : ME) : ME := fun env h => (mr env h).bind fun (xs, h1) => (mb env h1).bind fun (z, h2) => match mapO (snap 8 h2) xs with
  | some [.lst []] => some (z, h2)
  | _ => cbM true maxA xs h2
theorem he_maxD (p : PE X e (tCKw (rMxD X.K) (rA X.K mr) (tCons (rE X.K mb) tNil))) : HE X e (vMaxD mr mb) := pe_weak p fun σ H Q h => by
  obtain ⟨P, μ, env, h, z, h', rl, er, e, q⟩ := h
  obtain ⟨⟨xs, h1⟩, e1, e⟩ := bs e
  obtain ⟨⟨z0, h2⟩, e2, e⟩ := bs e
  refine rA_to rl er e1 fun μ1 H1 vs rl1 s1 er1 v1 => rE_to rl1 er1 e2 fun μ2 H2 t rl2 s2 er2 v2 => ?_
  have v12 := v1.on rl1 s2
  show rMxD X.K vs [t] H2 Q
  refine ⟨t, rfl, ?_⟩
  dsimp only at e
  split at e
  · rename_i e3
    cases e
    obtain ⟨G, rr, _⟩ := mapO_rep (fun _ => True) (fun v x d => snap_rep rl2 8 v x d) v12 e3
    obtain ⟨v, rfl, r1⟩ := rr.inv1
    cases r1 with
    | @lst a ys _ g ha ra =>
      cases ra
      exact .inl ⟨a, rfl, SqL.of ha, q μ2 H2 t rl2 (s1.trans s2) v2⟩
  · obtain ⟨ds, e3, e⟩ := bs e
    obtain ⟨d, e4, e⟩ := bs e
    obtain ⟨c, e⟩ := ifs e
    cases e
    obtain ⟨G, rr, _⟩ := mapO_rep (fun _ => True) (fun v x d => snap_rep rl2 8 v x d) v12 e3
    exact .inr (callD_maxA H2 vs ds d G Q rr e4 fun w H3 Gz sm rz _ new => q μ2 H3 w (rl2.same sm) ((s1.trans s2).trans (.same rl2 sm)) (out_d (G1 := G) rl2 sm rz c new))
end
end Fh
/-! dict(d) with the same things; xs[::2], xs[::-1] -/
namespace Fh
open PySem PySem.Spec PyProof.Rows L2 RZ
open Fd (Dv Rep Reps same_new)
section
variable {X : Cx} {a b e : Expr} {pos : Pos} {ma mb : ME} {mr : MA}
/-- dict(d) of a dict: a new cell with the same things -/
def vDictC (mr : MA) : ME := fun env h => (mr env h).bind fun (xs, h1) => match xs with
  | [x] => match dtD h1 x with
    | some (.K l) => some (.ref h1.length, h1 ++ [.lv (.dK l)])
    | _ => none
  | _ => none
theorem he_dictC (p : PE X e (tCB (Fd.rDictA X.K) (rA X.K mr))) : HE X e (vDictC mr) := pe_weak p fun σ H Q h => by
  obtain ⟨P, μ, env, h, z, h', rl, er, e, q⟩ := h
  obtain ⟨⟨xs, h1⟩, e1, e⟩ := bs e
  refine rA_to rl er e1 fun μ1 H1 vs rl1 s1 er1 v1 => ?_
  dsimp only at e
  split at e
  · rename_i x
    split at e
    · rename_i l hd
      cases e
      have v1 : RVs X.K H1 μ1 (Lv P μ1 h1) vs [x] := v1
      obtain ⟨v, rv, rfl⟩ : ∃ v, RV X.K H1 μ1 (Lv P μ1 h1) v x ∧ vs = [v] := by
        match vs, v1 with
        | [v], .cons hv .nil => exact ⟨v, hv, rfl⟩
      obtain ⟨d, ks, rfl, hr, ek, rs⟩ := dtD_K rl1 rv hd
      refine .inl ⟨d, ks, rfl, hr, fun p hp => ?_⟩
      obtain ⟨rl3, s3⟩ := rl1.new hp (b := .dK l) (.dK ek rs)
      exact q _ _ _ rl3 (s1.trans s3) (ref_new rl1)
    · cases e
  · cases e
/-! ### things picked by their places -/
def pickI {α : Type} (ix : Nat → List Nat) (xs : List α) : List α := (ix xs.length).filterMap fun i => xs[i]?
theorem pickI_len {α : Type} {ix : Nat → List Nat} {xs : List α} (h : (ix xs.length).length ≤ xs.length) : (pickI ix xs).length ≤ xs.length := Nat.le_trans (List.length_filterMap_le _ _) h
theorem vals_pick {vs : List V} {us : List Value} (r : Vals vs us) : ∀ l : List Nat, Vals (l.filterMap fun i => vs[i]?) (l.filterMap fun i => us[i]?)
  | [] => .nil
  | i :: l => by
    cases c : vs[i]? with
    | none =>
      have c2 : us[i]? = none := by
        rw [List.getElem?_eq_none_iff] at c ⊢
        rw [← r.length]; exact c
      rw [List.filterMap_cons_none c, List.filterMap_cons_none c2]
      exact vals_pick r l
    | some v =>
      obtain ⟨u, c2, ru⟩ := r.get c
      rw [List.filterMap_cons_some c, List.filterMap_cons_some c2]
      exact .cons ru (vals_pick r l)
theorem rvs_pick {H : Hp} {μ : List Addr} {L : Addr → Prop} {K : PySem.W.Frag} {vs : List V} {xs : List Av} (r : RVs K H μ L vs xs) : ∀ l : List Nat, RVs K H μ L (l.filterMap fun i => vs[i]?) (l.filterMap fun i => xs[i]?)
  | [] => .nil
  | i :: l => by
    cases c : vs[i]? with
    | none =>
      have c2 : xs[i]? = none := by
        rw [List.getElem?_eq_none_iff] at c ⊢
        rw [← r.len]; exact c
      rw [List.filterMap_cons_none c, List.filterMap_cons_none c2]
      exact rvs_pick r l
    | some v =>
      obtain ⟨u, c2, ru⟩ := r.get i v c
      rw [List.filterMap_cons_some c, List.filterMap_cons_some c2]
      exact .cons ru (rvs_pick r l)
/-- what a step means -/
def StepOk (k : Int) (ix : Nat → List Nat) : Prop := k ≠ 0 ∧ (∀ n, (ix n).length ≤ n) ∧ ∀ items : Array Value, slicePick items none none (some k) = (pickI ix items.toList).toArray
def ix2 (n : Nat) : List Nat := (List.range ((n + 1) / 2)).map fun k => 2 * k
def ixR (n : Nat) : List Nat := (List.range n).reverse
theorem step2 : StepOk 2 ix2 := by
  refine ⟨by decide, fun n => ?_, fun items => ?_⟩
  · unfold ix2
    rw [List.length_map, List.length_range]; omega
  · unfold slicePick pickI ix2
    have b : sliceBounds none none (some 2) items.size = (0, (items.size : Int), 2) := rfl
    rw [b]
    show ((sliceRange 0 (items.size : Int) 2).filterMap (items[·]?)).toArray = _
    have s : sliceRange 0 (items.size : Int) 2 = (List.range ((items.toList.length + 1) / 2)).map fun k => 2 * k := by
      unfold sliceRange
      rw [Array.length_toList]
      have c : (if (2 : Int) > 0 then (if (0 : Int) < (items.size : Int) then ((items.size : Int) - 0 + 2 - 1) / 2 else 0) else (if (0 : Int) > items.size then (0 - (items.size : Int) - 2 - 1) / (-2) else 0)).toNat = (items.size + 1) / 2 := by
        rw [if_pos (by decide)]
        split <;> omega
      simp only [c]
      refine List.map_congr_left fun k _ => ?_
      omega
    rw [s]
    congr 1
    simp only [Array.getElem?_toList]
theorem stepR : StepOk (-1) ixR := by
  refine ⟨by decide, fun n => ?_, fun items => ?_⟩
  · unfold ixR
    rw [List.length_reverse, List.length_range]; exact Nat.le_refl _
  · rw [PySem.W.krv_pick]
    unfold pickI ixR
    rw [List.filterMap_reverse]
    congr 2
    have := PySem.W.krv_all items
    rw [Array.length_toList]
    simp only [Array.getElem?_toList]
    exact this.symm
def tPick (K : PySem.W.Frag) (ix : Nat → List Nat) (te : TE) : TE := fun σ H Q => te σ H fun x H1 => ∃ a xs, x = .ref a ∧ SqL K H1 a xs ∧ ∀ p, H1 p = none → Q (.ref p) (upd H1 p (.lst (pickI ix xs)))
theorem pe_pick {st : Expr} {te : TE} {ts : TO} {k : Int} {ix : Nat → List Nat} {p3 : Pos} (so : StepOk k ix) (hst : PO X (some st) ts) (hk : ∀ σ H (Q : Option Int → Hp → Prop), Q (some k) H → ts σ H Q) (he : PE X e te) : PE X (.Subscript e (.Slice none none (some st) p3) pos) (tPick X.K ix te) := by
  refine ⟨fun pins s σ H Q I h => ?_⟩
  refine Subscript_ (thn (he.run pins s σ H _ I h) fun v s1 ⟨x, H1, I1, r1, q1⟩ => ?_)
  obtain ⟨a, xs, ex, hx, q⟩ := q1
  subst ex
  cases r1
  refine wpAny_Slice (thn (po_none.run pins s1 σ H1 (fun o H2 => o = none ∧ H2 = H1) I1 ⟨rfl, rfl⟩) fun vl s2 ⟨l, H2, I2, pl, el, e2⟩ => ?_)
  subst el e2
  refine thn (po_none.run pins s2 σ H2 (fun o H3 => o = none ∧ H3 = H2) I2 ⟨rfl, rfl⟩) fun vu s3 ⟨u, H3, I3, pu, eu, e3⟩ => ?_
  subst eu e3
  refine thn (hst.run pins s3 σ H3 (fun o H4 => o = some k ∧ H4 = H3) I3 (hk _ _ _ ⟨rfl, rfl⟩)) fun vs s4 ⟨o, H4, I4, ps, eo, e4⟩ => ?_
  subst eo e4
  have I5 : Inv X pins σ H4 { s4 with heap := s4.heap.push { cls := .type "slice", data := .fields #[vl, vu, vs] } } := I4.kept (t' := s4.toks) fun b ob q => Heap.get?_push_of_some _ q
  obtain ⟨its, r, ht, hz⟩ := I5.list hx
  have hlen := r.length
  show wpAny (model X.prog X.w) X.A (subscriptTail e (.Slice none none (some st) p3) (.ref a) (.ref s4.heap.objs.size)) (EP X pins σ Q) X.xe { s4 with heap := s4.heap.push { cls := .type "slice", data := .fields #[vl, vu, vs] } }
  refine tail_any (ops := [.ref a, .ref s4.heap.objs.size]) ht.isList.typeIs (PySem.slot_list_getitem.lookup) ?_ (by with_unfolding_all rfl)
  refine wpAny_getItem_list_slice ht.isList (Heap.IsSliceOf.new _ vl vu vs) pl pu ps (fun z => so.1 (Option.some.inj z)) ?_ (by rw [List.size_toArray]; omega)
  rw [so.2.2]
  refine ⟨.ref _, _, I5.laid (t' := s4.toks) (o := .lst (pickI ix xs)) (fun b ob q => Heap.get?_push_of_some _ q) (Nat.le_refl _) ?_, rfl, q _ (I5.hok.fresh (Nat.le_refl _))⟩
  refine ⟨Nat.le_trans (pickI_len (so.2.1 _)) hz, _, 0, ?_, Heap.get?_push_size _ rfl⟩
  show Vals (pickI ix xs) (pickI ix its)
  unfold pickI
  rw [hlen]
  exact vals_pick r _
theorem pe_pick2 {te : TE} {k : Nat} {p1 p3 : Pos} (he : PE X e te) : PE X (.Subscript e (.Slice none none (some (.Constant (.int 2) k p1)) p3) pos) (tPick X.K ix2 te) :=
  pe_pick step2 (po_some pe_int) (fun σ H Q q => ⟨2, rfl, q⟩) he
theorem pe_pickR {te : TE} {k : Nat} {p1 p2 p3 : Pos} (he : PE X e te) : PE X (.Subscript e (.Slice none none (some (.UnaryOp .USub (.Constant (.int 1) k p1) p2)) p3) pos) (tPick X.K ixR te) :=
  pe_pick stepR (po_some (pe_un un_neg pe_int)) (fun σ H Q q => ⟨1, rfl, -1, rfl, q⟩) he
def vPick (ix : Nat → List Nat) (m : ME) : ME := fun env h => (m env h).bind fun (x, h1) => (itL h1 x).bind fun xs => some (mkL (pickI ix xs), h1)
def vPickC (ix : Nat → List Nat) (m : ME) : ME := fun env h => (m env h).bind fun (x, h1) => (itL h1 x).bind fun xs => some (.ref h1.length, h1 ++ [.lv (.lst (pickI ix xs))])
theorem pick_rv {ix : Nat → List Nat} {H : Hp} {μ : List Addr} {L : Addr → Prop} {K : PySem.W.Frag} {vs : List V} {xs : List Av} (r : RVs K H μ L vs xs) : RVs K H μ L (pickI ix vs) (pickI ix xs) := by
  unfold pickI
  rw [r.len]
  exact rvs_pick r _
theorem he_pick {ix : Nat → List Nat} (p : PE X e (tPick X.K ix (rE X.K ma))) : HE X e (vPick ix ma) := pe_weak p fun σ H Q ⟨P, μ, env, h, z, h', rl, er, e, q⟩ => by
  obtain ⟨⟨x, h1⟩, e1, e⟩ := bs e
  obtain ⟨xs, hx, e⟩ := bs e
  cases e
  refine rE_to rl er e1 fun μ1 H1 v rl1 s1 er1 v1 => ?_
  obtain ⟨a, vs, rfl, hs, rs⟩ := itL_rv rl1 v1 hx
  refine ⟨a, vs, rfl, hs, fun p hp => ?_⟩
  have sm : Same H1 (upd H1 p (.lst (pickI ix vs))) := same_new hp
  exact q _ _ _ (rl1.same sm) (s1.trans (.same rl1 sm)) (mkL_rv upd_same (fun z => rl1.has z hp) ((pick_rv rs).on rl1 (.same rl1 sm)))
theorem he_pickC {ix : Nat → List Nat} (p : PE X e (tPick X.K ix (rE X.K ma))) : HE X e (vPickC ix ma) := pe_weak p fun σ H Q ⟨P, μ, env, h, z, h', rl, er, e, q⟩ => by
  obtain ⟨⟨x, h1⟩, e1, e⟩ := bs e
  obtain ⟨xs, hx, e⟩ := bs e
  cases e
  refine rE_to rl er e1 fun μ1 H1 v rl1 s1 er1 v1 => ?_
  obtain ⟨a, vs, rfl, hs, rs⟩ := itL_rv rl1 v1 hx
  refine ⟨a, vs, rfl, hs, fun p hp => ?_⟩
  obtain ⟨rl4, s4⟩ := rl1.new hp (b := .lst (pickI ix xs)) (.lst (pick_rv rs))
  exact q _ _ _ rl4 (s1.trans s4) (ref_new rl1)
end
end Fh
/-! len(x) of a list or a tuple of anything -/
namespace Fh
open PySem PySem.Spec PyProof.Rows L2 RZ
open Fd (Dv Rep Reps same_new)
section
variable {X : Cx} {e : Expr} {mr : MA}
def vLenA (mr : MA) : ME := fun env h => (mr env h).bind fun (xs, h1) => match xs with
  | [x] => ((itT x).or (itL h1 x)).bind fun ys => some (.d (.int ys.length), h1)
  | _ => none
theorem he_lenA (p : PE X e (tCB (fun xs H Q => ∃ p ys, xs = [.ref p] ∧ (SqL X.K H p ys ∨ SqT X.K H p ys) ∧ Q (.int ys.length) H) (rA X.K mr))) : HE X e (vLenA mr) := pe_weak p fun σ H Q h => by
  obtain ⟨P, μ, env, h, z, h', rl, er, e, q⟩ := h
  obtain ⟨⟨xs, h1⟩, e1, e⟩ := bs e
  refine rA_to rl er e1 fun μ1 H1 vs rl1 s1 er1 v1 => ?_
  dsimp only at e
  split at e
  · rename_i x
    obtain ⟨ys, e2, e⟩ := bs e
    cases e
    have v1 : RVs X.K H1 μ1 (Lv P μ1 h') vs [x] := v1
    obtain ⟨v, rv, rfl⟩ : ∃ v, RV X.K H1 μ1 (Lv P μ1 h') v x ∧ vs = [v] := by
      match vs, v1 with
      | [v], .cons hv .nil => exact ⟨v, hv, rfl⟩
    have fin : ∀ (p : Addr) (zs : List V), v = .ref p → (SqL X.K H1 p zs ∨ SqT X.K H1 p zs) → RVs X.K H1 μ1 (Lv P μ1 h') zs ys → ∃ p ys, [v] = [V.ref p] ∧ (SqL X.K H1 p ys ∨ SqT X.K H1 p ys) ∧ Q (.int ys.length) H1 := fun p zs ev hs rs => by
      subst ev
      refine ⟨p, zs, rfl, hs, ?_⟩
      rw [rs.len]
      exact q _ _ _ rl1 s1 (.d (.int _) fun a m => (nomatch m))
    cases c : itT x with
    | some xs =>
      rw [c] at e2
      cases e2
      obtain ⟨p, zs, ev, ht, rs⟩ := itT_rv rv c
      exact fin p zs ev (.inr ht.sq) rs
    | none =>
      rw [c] at e2
      obtain ⟨p, zs, ev, hs, rs⟩ := itL_rv rl1 rv e2
      exact fin p zs ev (.inl hs) rs
  · cases e
theorem rvs_rev {K : PySem.W.Frag} {H : Hp} {μ : List Addr} {L : Addr → Prop} : ∀ {vs : List V} {xs : List Av}, RVs K H μ L vs xs → RVs K H μ L vs.reverse xs.reverse
  | _, _, .nil => .nil
  | _, _, .cons h t => by
    rw [List.reverse_cons, List.reverse_cons]
    exact (rvs_rev t).app (.one h)
theorem mtH_reverse {K : PySem.W.Frag} : MtH K rReverse gReverse := fun P H μ h a vs us n xs ys zs z Q rl hn hm hH rs ru e q => by
  unfold gReverse at e
  split at e
  · cases e
    cases ru
    exact ⟨a, vs, rfl, rfl, hH, q _ _ (rvs_rev rs) (.d .non fun a m => (nomatch m))⟩
  · cases e
end
end Fh
/-! texts: join, split, str(x) of a text or a number, x += text -/
namespace Fh
open PySem PySem.Spec PyProof.Rows L2 RZ
open Fd (Dv Rep Reps same_new CallD)
section
variable {X : Cx} {a b e : Expr} {ma mb : ME} {mr : MA}
theorem strs_rv {K : PySem.W.Frag} {H : Hp} {μ : List Addr} {L : Addr → Prop} : ∀ {vs : List V} {xs : List Av} {ys : List Str}, RVs K H μ L vs xs → mapO strA xs = some ys → vs = ys.map V.str
  | _, _, _, .nil, e => by cases e; rfl
  | _, x :: xs, ys, .cons h t, e => by
    unfold mapO at e
    cases q : strA x with
    | none => rw [q] at e; cases e
    | some z =>
      rw [q] at e
      obtain ⟨zs, h1, rfl⟩ := Option.map_eq_some_iff.mp e
      rw [strA_rv h q, strs_rv t h1]; rfl
/-- a.join(b) -/
def vJoin (ma mb : ME) : ME := fun env h => (ma env h).bind fun (x, h1) => (strA x).bind fun a => (mb env h1).bind fun (y, h2) => (itX h2 y).bind fun xs => (mapO strA xs).bind fun ys =>
  if (ys.map (·.length)).sum + ys.length * a.length ≤ 16777216 then some (.d (.str (Txt.join a ys)), h2) else none
theorem he_join (p : PE X e (tM1 (fun x xs H Q => ∃ a p, ∃ ys : List Str, x = .str a ∧ xs = [.ref p] ∧ (SqL X.K H p (ys.map V.str) ∨ SqT X.K H p (ys.map V.str)) ∧
    (ys.map (·.length)).sum + ys.length * a.length ≤ 16777216 ∧ Q (.str (Txt.join a ys)) H) (rE X.K ma) (rE X.K mb))) : HE X e (vJoin ma mb) := pe_weak p fun σ H Q ⟨P, μ, env, h, z, h', rl, er, e, q⟩ => by
  obtain ⟨⟨x, h1⟩, e1, e⟩ := bs e
  obtain ⟨sep, e2, e⟩ := bs e
  obtain ⟨⟨y, h2⟩, e3, e⟩ := bs e
  obtain ⟨xs, e4, e⟩ := bs e
  obtain ⟨ys, e5, e⟩ := bs e
  obtain ⟨c, e⟩ := ifs e
  cases e
  refine rE_to rl er e1 fun μ1 H1 v rl1 s1 er1 v1 => ?_
  have hv := strA_rv v1 e2
  subst hv
  refine ⟨⟨sep, rfl⟩, rE_to rl1 er1 e3 fun μ2 H2 u rl2 s2 er2 v2 => ?_⟩
  obtain ⟨p, vs, rfl, hs, rs⟩ := itX_rv rl2 v2 e4
  have hvs := strs_rv rs e5
  subst hvs
  exact ⟨sep, p, ys, rfl, rfl, hs, c, q μ2 H2 _ rl2 (s1.trans s2) (.d (.str _) fun a m => (nomatch m))⟩
/-- a.split(b) -/
def spO (x y : Av) : Option (List Str) := (strA x).bind fun a => (strA y).bind fun b => if (b.length == 0) = false ∧ a.length + 2 ≤ sizeLine then some (Txt.split a b) else none
def vSplit (ma mb : ME) : ME := fun env h => (ma env h).bind fun (x, h1) => (strA x).bind fun _ => (mb env h1).bind fun (y, h2) => (spO x y).bind fun ys => some (.d (.lst (ys.map .str)), h2)
def vSplitC (ma mb : ME) : ME := fun env h => (ma env h).bind fun (x, h1) => (strA x).bind fun _ => (mb env h1).bind fun (y, h2) => (spO x y).bind fun ys => some (.ref h2.length, h2 ++ [.lv (.lst ((ys.map Dv.str).map .d))])
theorem strs_rvs {K : PySem.W.Frag} {H : Hp} {μ : List Addr} {L : Addr → Prop} : ∀ ys : List Str, RVs K H μ L (ys.map V.str) ((ys.map Dv.str).map .d)
  | [] => .nil
  | y :: ys => .cons (.d (.str y) fun a m => (nomatch m)) (strs_rvs ys)
theorem he_split (p : PE X e (tM1 (fun x xs H Q => ∃ a b, x = .str a ∧ xs = [.str b] ∧ (b.length == 0) = false ∧ a.length + 2 ≤ sizeLine ∧ rNewStrs (Txt.split a b) H Q) (rE X.K ma) (rE X.K mb))) : HE X e (vSplit ma mb) := pe_weak p fun σ H Q ⟨P, μ, env, h, z, h', rl, er, e, q⟩ => by
  obtain ⟨⟨x, h1⟩, e1, e⟩ := bs e
  obtain ⟨sep, e2, e⟩ := bs e
  obtain ⟨⟨y, h2⟩, e3, e⟩ := bs e
  obtain ⟨ys, e4, e⟩ := bs e
  cases e
  unfold spO at e4
  obtain ⟨b0, e20, e4⟩ := bs e4
  rw [e2] at e20
  cases e20
  obtain ⟨b, e5, e4⟩ := bs e4
  obtain ⟨⟨c1, c2⟩, e4⟩ := ifs e4
  cases e4
  refine rE_to rl er e1 fun μ1 H1 v rl1 s1 er1 v1 => ?_
  have hv := strA_rv v1 e2
  subst hv
  refine ⟨⟨sep, rfl⟩, rE_to rl1 er1 e3 fun μ2 H2 u rl2 s2 er2 v2 => ?_⟩
  have hu := strA_rv v2 e5
  subst hu
  refine ⟨sep, b, rfl, rfl, c1, c2, fun p hp => ?_⟩
  have sm : Same H2 (upd H2 p (.lst ((Txt.split sep b).map V.str))) := same_new hp
  refine q _ _ _ (rl2.same sm) ((s1.trans s2).trans (.same rl2 sm)) ?_
  rw [← mkL_map]
  exact mkL_rv upd_same (fun z => rl2.has z hp) (strs_rvs _)
theorem he_splitC (p : PE X e (tM1 (fun x xs H Q => ∃ a b, x = .str a ∧ xs = [.str b] ∧ (b.length == 0) = false ∧ a.length + 2 ≤ sizeLine ∧ rNewStrs (Txt.split a b) H Q) (rE X.K ma) (rE X.K mb))) : HE X e (vSplitC ma mb) := pe_weak p fun σ H Q ⟨P, μ, env, h, z, h', rl, er, e, q⟩ => by
  obtain ⟨⟨x, h1⟩, e1, e⟩ := bs e
  obtain ⟨sep, e2, e⟩ := bs e
  obtain ⟨⟨y, h2⟩, e3, e⟩ := bs e
  obtain ⟨ys, e4, e⟩ := bs e
  cases e
  unfold spO at e4
  obtain ⟨b0, e20, e4⟩ := bs e4
  rw [e2] at e20
  cases e20
  obtain ⟨b, e5, e4⟩ := bs e4
  obtain ⟨⟨c1, c2⟩, e4⟩ := ifs e4
  cases e4
  refine rE_to rl er e1 fun μ1 H1 v rl1 s1 er1 v1 => ?_
  have hv := strA_rv v1 e2
  subst hv
  refine ⟨⟨sep, rfl⟩, rE_to rl1 er1 e3 fun μ2 H2 u rl2 s2 er2 v2 => ?_⟩
  have hu := strA_rv v2 e5
  subst hu
  refine ⟨sep, b, rfl, rfl, c1, c2, fun p hp => ?_⟩
  obtain ⟨rl4, s4⟩ := rl2.new hp (b := .lst (((Txt.split sep b).map Dv.str).map .d)) (.lst (strs_rvs _))
  exact q _ _ _ rl4 ((s1.trans s2).trans s4) (ref_new rl2)
/-- str(x) -/
def strXD (ds : List Dv) : Option Dv := match ds with
  | [.str a] => some (.str a)
  | ds => Fd.strIntD ds
theorem call_strX : CallR X (.type "str") (fun xs H Q => (∃ i, xs = [.int i] ∧ i.natAbs.log2 < 1920 ∧ Q (.str (toString i)) H) ∨ ∃ a, xs = [.str a] ∧ Q (.str a) H) := Fd.CallR_or call_str_int SkE.call_str_str
theorem callD_strX {K : PySem.W.Frag} : CallD K (fun xs H Q => (∃ i, xs = [.int i] ∧ i.natAbs.log2 < 1920 ∧ Q (.str (toString i)) H) ∨ ∃ a, xs = [.str a] ∧ Q (.str a) H) true strXD := fun H vs ds d G Q r e q => by
  unfold strXD at e
  split at e
  · obtain ⟨v, rfl, r1⟩ := r.inv1
    cases e
    cases r1
    exact .inr ⟨_, rfl, q _ H [] (.refl H) (.str _) (fun b k => (nomatch k)) fun _ _ => ⟨.nil, fun a m => (nomatch m)⟩⟩
  · exact .inl (Fd.callD_strInt H vs _ d G Q r e q)
/-- x += text -/
def sAugS (i : Nat) (m : ME) : MS := fun env h => (vVar i env h).bind fun (x, h0) => (strA x).bind fun a => (m env h0).bind fun (y, h1) => (strA y).bind fun b => if a.length + b.length ≤ sizeLine then some (.nx (env.set i (some (.d (.str (a ++ b))))), h1) else none
theorem hs_augS {s : Stmt} {i : Nat} {m : ME} (p : PS X s (tAug i (rE X.K m) (fun x y H Q => ∃ i j, x = .str i ∧ y = .str j ∧ i.length + j.length ≤ sizeLine ∧ Q (.str (i ++ j)) H))) : HS X s (sAugS i m) := ps_weak p fun D σ H ⟨P, μ, env, h, o, h', rl, er, e, q⟩ => by
  obtain ⟨⟨x, h0⟩, e0, e⟩ := bs e
  obtain ⟨a, e2, e⟩ := bs e
  obtain ⟨⟨y, h1⟩, e1, e⟩ := bs e
  obtain ⟨b, e3, e⟩ := bs e
  obtain ⟨c, e⟩ := ifs e
  cases e
  unfold vVar at e0
  split at e0
  · rename_i x0 hx
    cases e0
    obtain ⟨v, h1, h2⟩ := er.get i _ hx
    have hv := strA_rv h2 e2
    subst hv
    refine ⟨_, h1, rE_to rl er e1 fun μ1 H1 u rl1 s1 er1 v1 => ?_⟩
    have hu := strA_rv v1 e3
    subst hu
    exact ⟨a, b, rfl, rfl, c, q μ1 H1 rl1 s1 _ (er1.set (.d (.str _) fun a m => (nomatch m)))⟩
  · cases e0
end
end Fh
/-! t[::-1] of a tuple; tuples and tables of the module; what is never reached -/
namespace HT
open PySem PySem.Spec PyProof.Rows
section
variable {prog : Program} {w : World} {A : Around} {E : Value → Shared → Prop} {s : Shared}
theorem sliceApplied_rev {sl : Addr} {vs : Value} {n : Nat} {Q : Int × Int × Nat → Shared → Prop} (hs : s.heap.IsSliceOf sl .none .none vs) (ps : IsPart vs (some (-1)))
    (h : Q ((n : Int) - 1, -1, n) s) : wpAny (model prog w) A (Builtin.Slice.sliceApplied (.ref sl) (pure (n : Int))) Q E s := by
  obtain ⟨os, hos, hcs, hds⟩ := id hs
  unfold Builtin.Slice.sliceApplied Builtin.Slice.sliceFields
  refine wpAny_bind (wpAny_bind (wpAny_field hos hds (x := .none) rfl (wpAny_bind (wpAny_field hos hds (x := .none) rfl (wpAny_bind (wpAny_field hos hds (x := vs) rfl (wpAny_pure ?_)))))))
  refine wpAny_bind (slicePart_ ps ?_)
  show wpAny _ _ (if ((-1 : Int) == 0) = true then _ else _) _ _ s
  rw [if_neg (by decide)]
  refine wpAny_bind (slicePart_none (wpAny_bind (slicePart_none (wpAny_bind (wpAny_pure ?_)))))
  have e : Builtin.Slice.slicePlaces ((n : Int) - 1) (-1) (-1) = n := by
    unfold Builtin.Slice.slicePlaces
    rw [if_neg (by decide)]
    split
    · rw [show (- -1 : Int) = 1 by decide, Int.ediv_one]; omega
    · omega
  show wpAny _ _ (pure ((n : Int) - 1, (-1 : Int), Builtin.Slice.slicePlaces ((n : Int) - 1) (-1) (-1))) _ _ s
  rw [e]
  exact wpAny_pure h
theorem pick_rev (xs : Array Value) : ((List.range xs.size).filterMap fun (m : Nat) => xs[((xs.size : Int) - 1 + (m : Int) * (-1)).toNat]?).toArray = xs.toList.reverse.toArray := by
  have e : (fun (m : Nat) => xs[((xs.size : Int) - 1 + (m : Int) * (-1)).toNat]?) = (fun x => xs[x]?) ∘ fun k => xs.size - 1 - k := by
    funext m
    have : ((xs.size : Int) - 1 + (m : Int) * (-1)).toNat = xs.size - 1 - m := by omega
    show xs[((xs.size : Int) - 1 + (m : Int) * (-1)).toNat]? = xs[xs.size - 1 - m]?
    rw [this]
  rw [e, ← List.filterMap_map, PySem.W.krv_range, List.filterMap_reverse]
  have := PySem.W.krv_all xs
  rw [this]
theorem getItem_tuple_rev {t sl : Addr} {items : Array Value} {vs : Value} {Q : Value → Shared → Prop} (ht : IsTup s.heap t items) (hs : s.heap.IsSliceOf sl .none .none vs) (ps : IsPart vs (some (-1)))
    (h : Q (.ref s.heap.objs.size) { s with heap := s.heap.push { cls := .type "tuple", data := .seq items.toList.reverse.toArray } })
    (hsz : items.size ≤ sizeLine) : wpAny (model prog w) A (getItem (.ref t) (.ref sl)) Q E s := by
  have htake : sizeOk (.seq items.toList.reverse.toArray) := by
    show items.toList.reverse.toArray.size ≤ sizeLine
    rw [List.size_toArray, List.length_reverse, Array.length_toList]
    exact hsz
  obtain ⟨os, hos, hcs, hds⟩ := id hs
  have hTs : s.TypeIs (.ref sl) "slice" := ⟨os, hos, hcs⟩
  unfold getItem
  try with_reducible refine wpAny_holding ?_
  first | refine wpAny_bind (wpAny_pure ?_) | skip
  refine wpAny_bind (wpAny_sequenceKey ht.typeIs (by decide) ?_)
  refine wpAny_bind (wpAny_callSpecial?_slot (name := Str.ofString "__getitem__") ht.typeIs PyProof.Rows.slot_tuple_getitem
    (wpAny_call_entry PyProof.Rows.slot_tuple_getitem ht.typeIs entry_tuple_getitem ?_ (args_tuple_getitem _ _)))
  show wpAny _ _ (Builtin.Tuple.tupleItemsOf (.ref t) >>= _) _ _ s
  refine wpAny_bind (tupleItemsOf_ ht ?_)
  refine wpAny_bind (wpAny_typeOf hTs ?_)
  rw [if_pos (by decide)]
  refine wpAny_bind (sliceApplied_rev hs ps ?_)
  have hno : ¬ (((items.size : Int) - 1 == 0 && (-1 : Int) == 1 && items.size == items.size) = true) := by
    intro q
    rw [Bool.and_eq_true, Bool.and_eq_true] at q
    exact absurd (eq_of_beq q.1.2) (by decide)
  show wpAny _ _ (if ((items.size : Int) - 1 == 0 && (-1 : Int) == 1 && items.size == items.size) = true then _ else _) _ _ s
  rw [if_neg hno, pick_rev]
  first
    | exact wpAny_bind (m := Builtin.Tuple.tupleExact _) (wpAny_newObj_type (wpAny_pure ⟨_, rfl, wpAny_pure h⟩) htake)
    | exact wpAny_bind (m := Builtin.Tuple.tupleExact _) (wpAny_newObj_type (wpAny_bind (wpAny_pure (wpAny_pure ⟨_, rfl, wpAny_pure h⟩))) htake)
    | exact wpAny_bind (wpAny_bind (m := Builtin.Tuple.tupleExact _) (wpAny_newObj_type (wpAny_pure (wpAny_pure ⟨_, rfl, wpAny_pure h⟩)) htake))
    | exact wpAny_bind (wpAny_bind (m := Builtin.Tuple.tupleExact _) (wpAny_newObj_type (wpAny_pure ⟨_, rfl, wpAny_pure h⟩) htake))
end
end HT
namespace He
open PySem PySem.Spec PyProof.Rows L2
/-! ### the Hook, with tuples and values of tables -/
abbrev TupC : Type := Str × List Dv
abbrev ValC : Type := Str × List (Str × Dv)
abbrev AlY : Type := AlT × Bool
def chkY (cs : List TupC) (vs : List ValC) (K : PySem.W.Frag) : Bool := (cs.all fun c => tupB K c.1 c.2) && vs.all fun v => valsB K (ga K v.1) v.2
def obsY (fa : List Fa) (fn : List DefD) (ts : List Tab) (cs : List TupC) (vs : List ValC) (K : PySem.W.Frag) : AlY := (obsT fa fn ts K, chkY cs vs K)
def valY (fn : List DefD) (ts : List Tab) (w : World) : AlY := (valT fn ts w, true)
def obsYG (n : Nat) (fa : List Fa) (fn : List DefD) (ts : List Tab) (cs : List TupC) (vs : List ValC) (g : Addr → Option Obj) : AlY := obsY fa fn ts cs vs (frG g (asD g n))
def SaysY (fa : List Fa) (fn : List DefD) (ts : List Tab) (cs : List TupC) (vs : List ValC) (w : World) (K : PySem.W.Frag) : Prop := obsY fa fn ts cs vs K = valY fn ts w
def hookY (n : Nat) (fa : List Fa) (fn : List DefD) (ts : List Tab) (cs : List TupC) (vs : List ValC) : PySem.W.Hook where
  α := AlY
  obs := fun s => obsYG n fa fn ts cs vs s.heap.get?
  val := fun w => valY fn ts w
  says := fun w h => ∃ K : PySem.W.Frag, K.In h ∧ SaysY fa fn ts cs vs w K
  of := fun _ _ e => ⟨_, frG_in, e⟩
  keeps := fun _ _ _ ⟨K, hK, c⟩ k => ⟨K, PySem.W.Frag.In.keeps hK k, c⟩
theorem obsYG_eq {n : Nat} {fa : List Fa} {fn : List DefD} {ts : List Tab} {cs : List TupC} {vs : List ValC} {g : Addr → Option Obj} {s : Shared} (h : ∀ a, g a = s.heap.get? a) : obsYG n fa fn ts cs vs g = (hookY n fa fn ts cs vs).obs s := by
  have e : g = s.heap.get? := funext h
  rw [e] <;> rfl
section
variable {fa : List Fa} {fn : List DefD} {ts : List Tab} {cs : List TupC} {vs : List ValC} {w : World} {K : PySem.W.Frag}
theorem SaysY.t (c : SaysY fa fn ts cs vs w K) : SaysT fa fn ts w K := congrArg (fun z : AlY => z.1) c
theorem SaysY.fact (c : SaysY fa fn ts cs vs w K) (i : Nat) {f : Fa} (h : fa[i]? = some f := by rfl) : f.ok K = true := c.t.d.fact i h
theorem SaysY.def_ (c : SaysY fa fn ts cs vs w K) (i : Nat) {d : DefD} (h : fn[i]? = some d := by rfl) : ∃ fd, FunD K d.name d.qual d.params d.body d.scope (d.dvs K) (d.kws K) (fAd K d.at_) fd := c.t.d.def_ i h
theorem SaysY.tup (c : SaysY fa fn ts cs vs w K) (i : Nat) {t : TupC} (h : cs[i]? = some t := by rfl) : tupB K t.1 t.2 = true :=
  List.all_eq_true.mp (ba (show chkY cs vs K = true from congrArg (fun z : AlY => z.2) c)).1 t (List.mem_of_getElem? h)
theorem SaysY.vals (c : SaysY fa fn ts cs vs w K) (i : Nat) {t : ValC} (h : vs[i]? = some t := by rfl) : valsB K (ga K t.1) t.2 = true :=
  List.all_eq_true.mp (ba (show chkY cs vs K = true from congrArg (fun z : AlY => z.2) c)).2 t (List.mem_of_getElem? h)
theorem tupS_ok {x : Str} {ss : List Str} (h : tupB K x (ss.map .str) = true) : ∀ H, SqT K H (ga K x) (ss.map V.str) := fun H => by
  have := tupB_ok h H
  rw [List.map_map] at this
  exact this
end
end He
namespace Fh
open PySem PySem.Spec PyProof.Rows L2 RZ
open Fd (Dv Rep Reps same_new)
section
variable {X : Cx} {e : Expr} {ma : ME} {pos : Pos}
theorem reps_strs2 {K : PySem.W.Frag} {H : Hp} : ∀ ss : List Str, Reps K H (ss.map V.str) (ss.map Dv.str) []
  | [] => .nil
  | x :: ss => .cons (.str x) (reps_strs2 ss)
/-- a tuple of texts of the module -/
theorem he_ktup {a : Addr} {ss : List Str} (ht : ∀ H, SqT X.K H a (ss.map V.str)) (p : PE X e (tC (.ref a))) : HE X e (vC (.tup (ss.map .str))) := pe_weak p fun σ H Q ⟨P, μ, env, h, r, h', rl, er, e, q⟩ => by
  cases e
  exact q μ H _ rl .refl (.d (.tup (.inr ⟨ht H, .inl ⟨ss, rfl⟩⟩) (reps_strs2 ss)) fun a m => (nomatch m))
/-- what is never reached -/
theorem hs_none {s : Stmt} : HS X s (fun _ _ => none) := ⟨fun pins s σ H D I h => by
  obtain ⟨P, μ, env, h0, o, h', _, _, e, _⟩ := h
  cases e⟩
def tRevT (K : PySem.W.Frag) (te : TE) : TE := fun σ H Q => te σ H fun x H1 => ∃ a xs, x = .ref a ∧ SqT K H1 a xs ∧ ∀ p, H1 p = none → Q (.ref p) (upd H1 p (.tup xs.reverse))
theorem pe_revT {te : TE} {k : Nat} {p1 p2 p3 : Pos} (he : PE X e te) : PE X (.Subscript e (.Slice none none (some (.UnaryOp .USub (.Constant (.int 1) k p1) p2)) p3) pos) (tRevT X.K te) := by
  refine ⟨fun pins s σ H Q I h => ?_⟩
  refine Subscript_ (thn (he.run pins s σ H _ I h) fun v s1 ⟨x, H1, I1, r1, q1⟩ => ?_)
  obtain ⟨a, xs, ex, hx, q⟩ := q1
  subst ex
  cases r1
  have hst : PO X (some (.UnaryOp .USub (.Constant (.int 1) k p1) p2)) (tPart (tUn (rU fun i => .int (-i)) (tC (.int 1)))) := po_some (pe_un un_neg pe_int)
  refine wpAny_Slice (thn (po_none.run pins s1 σ H1 (fun o H2 => o = none ∧ H2 = H1) I1 ⟨rfl, rfl⟩) fun vl s2 ⟨l, H2, I2, pl, el, e2⟩ => ?_)
  subst el e2
  refine thn (po_none.run pins s2 σ H2 (fun o H3 => o = none ∧ H3 = H2) I2 ⟨rfl, rfl⟩) fun vu s3 ⟨u, H3, I3, pu, eu, e3⟩ => ?_
  subst eu e3
  refine thn (hst.run pins s3 σ H3 (fun o H4 => o = some (-1) ∧ H4 = H3) I3 ⟨1, rfl, -1, rfl, rfl, rfl⟩) fun vs s4 ⟨o, H4, I4, ps, eo, e4⟩ => ?_
  subst eo e4
  cases pl
  cases pu
  have I5 : Inv X pins σ H4 { s4 with heap := s4.heap.push { cls := .type "slice", data := .fields #[.none, .none, vs] } } := I4.kept (t' := s4.toks) fun b ob q => Heap.get?_push_of_some _ q
  obtain ⟨its, r, ht, hz⟩ := I5.tuple hx
  have hlen := r.length
  show wpAny (model X.prog X.w) X.A (subscriptTail e (.Slice none none (some (.UnaryOp .USub (.Constant (.int 1) k p1) p2)) p3) (.ref a) (.ref s4.heap.objs.size)) (EP X pins σ Q) X.xe { s4 with heap := s4.heap.push { cls := .type "slice", data := .fields #[.none, .none, vs] } }
  refine tail_any (ops := [.ref a, .ref s4.heap.objs.size]) ht.typeIs (PyProof.Rows.slot_tuple_getitem.lookup) ?_ (by with_unfolding_all rfl)
  refine HT.getItem_tuple_rev ht (Heap.IsSliceOf.new _ .none .none vs) ps ?_ (by rw [List.size_toArray]; omega)
  refine ⟨.ref _, _, I5.laid (t' := s4.toks) (o := .tup xs.reverse) (fun b ob q => Heap.get?_push_of_some _ q) (Nat.le_refl _) ?_, rfl, q _ (I5.hok.fresh (Nat.le_refl _))⟩
  exact ⟨by rw [List.length_reverse]; exact hz, _, r.reverse, IsTup.new _ _⟩
def vRevT (m : ME) : ME := fun env h => (m env h).bind fun (x, h1) => (itT x).bind fun xs => some (mkT xs.reverse, h1)
theorem he_revT (p : PE X e (tRevT X.K (rE X.K ma))) : HE X e (vRevT ma) := pe_weak p fun σ H Q ⟨P, μ, env, h, z, h', rl, er, e, q⟩ => by
  obtain ⟨⟨x, h1⟩, e1, e⟩ := bs e
  obtain ⟨xs, hx, e⟩ := bs e
  cases e
  refine rE_to rl er e1 fun μ1 H1 v rl1 s1 er1 v1 => ?_
  obtain ⟨a, vs, rfl, hs, rs⟩ := itT_rv v1 hx
  refine ⟨a, vs, rfl, hs.sq, fun p hp => ?_⟩
  have sm : Same H1 (upd H1 p (.tup vs.reverse)) := same_new hp
  exact q _ _ _ (rl1.same sm) (s1.trans (.same rl1 sm)) (mkT_rv (.inl upd_same) ((rvs_rev rs).on rl1 (.same rl1 sm)))
end
end Fh
namespace Lw
open PySem PySem.Spec PyProof.Rows L2 RZ Fd Fh
open Fd (Dv)
def top (i : Nat) : Stmt := PySem.Challenge.pw_farcopies_k17_what_is_asked.main.body.getD i (.Pass ⟨0, 0, 0, 0⟩)
abbrev s_is_asks : Stmt := top 2
abbrev s__law_cell_at : Stmt := top 4
abbrev s__law_left : Stmt := top 5
abbrev s__law_pick : Stmt := top 6
abbrev s__law_all : Stmt := top 7
abbrev s__law_spoilt : Stmt := top 8
abbrev s_law : Stmt := top 9
structure Txt (K : PySem.W.Frag) (mg : Str → Option Value) : Prop where
  f_is_asks : ∃ fd, FunD K "is_asks" "is_asks" (defArgs s_is_asks) (defBody s_is_asks) (defScope s_is_asks) [] [] (He.ga K "is_asks") fd
  g_is_asks : mg "is_asks" = some (.ref (He.ga K "is_asks"))
  f__law_cell_at : ∃ fd, FunD K "_law_cell_at" "_law_cell_at" (defArgs s__law_cell_at) (defBody s__law_cell_at) (defScope s__law_cell_at) [] [] (He.ga K "_law_cell_at") fd
  g__law_cell_at : mg "_law_cell_at" = some (.ref (He.ga K "_law_cell_at"))
  f__law_left : ∃ fd, FunD K "_law_left" "_law_left" (defArgs s__law_left) (defBody s__law_left) (defScope s__law_left) [] [] (He.ga K "_law_left") fd
  g__law_left : mg "_law_left" = some (.ref (He.ga K "_law_left"))
  f__law_pick : ∃ fd, FunD K "_law_pick" "_law_pick" (defArgs s__law_pick) (defBody s__law_pick) (defScope s__law_pick) [] [] (He.ga K "_law_pick") fd
  g__law_pick : mg "_law_pick" = some (.ref (He.ga K "_law_pick"))
  f__law_all : ∃ fd, FunD K "_law_all" "_law_all" (defArgs s__law_all) (defBody s__law_all) (defScope s__law_all) [] [] (He.ga K "_law_all") fd
  g__law_all : mg "_law_all" = some (.ref (He.ga K "_law_all"))
  f__law_spoilt : ∃ fd, FunD K "_law_spoilt" "_law_spoilt" (defArgs s__law_spoilt) (defBody s__law_spoilt) (defScope s__law_spoilt) [] [] (He.ga K "_law_spoilt") fd
  g__law_spoilt : mg "_law_spoilt" = some (.ref (He.ga K "_law_spoilt"))
  f_law : ∃ fd, FunD K "law" "law" (defArgs s_law) (defBody s_law) (defScope s_law) [] [] (He.ga K "law") fd
  g_law : mg "law" = some (.ref (He.ga K "law"))
  n_all : mg "all" = none
  n_bool : mg "bool" = none
  n_int : mg "int" = none
  n_isinstance : mg "isinstance" = none
  n_len : mg "len" = none
  n_list : mg "list" = none
  n_max : mg "max" = none
  n_min : mg "min" = none
  n_range : mg "range" = none
  n_str : mg "str" = none
  n_tuple : mg "tuple" = none
  n_zip : mg "zip" = none
  k_PROMISES : ∃ u, mg "PROMISES" = some u ∧ RelV (V.ref (He.ga K "PROMISES")) u
  t_PROMISES : ∀ H, SqT K H (He.ga K "PROMISES") ((["behind", "elder", "own", "row"] : List Str).map V.str)
section
variable {P : Program} {w : World} {K : PySem.W.Frag} {mg : Str → Option Value} {base : Heap}
theorem sc_is_asks : FnScope ["thing", "one", "other"] ["thing"] (defScope s_is_asks) := ⟨rfl, rfl, rfl, by decide +kernel, rfl, by decide +kernel, by decide +kernel⟩
def m_is_asks : MS :=
  (sSeq (sIf (tvOr (tvNot (tvB (vIsi "tuple" (vVar 0)))) (tvNot (tvB (vCB true (quantD fun bs => bs.all id) (aCons (vLc (iAny (vVar 0)) [1] (gNm 1) tYesM (vAnd (vIsi "str" (vVar 1)) (vIn false (inA false) (vVar 1) (vC (.tup [.str "behind", .str "elder", .str "own", .str "row"]))))) aNil))))) (sRet (vC (.bl false))) sNext)
  (sRet (vCB true (quantD fun bs => bs.all id) (aCons (vLc (iZp (vVar 0) (vSl (vVar 0) (oSome (vC (.int 1))) oNo)) [1, 2] (gTp 2 (gCs (gNm 1) (gCs (gNm 2) gNl))) tYesM (vOp true ltA (vVar 1) (vVar 2))) aNil))))
def F_is_asks : FI := runB 3 1 m_is_asks
def P_is_asks : FP := pureF F_is_asks
theorem ok_is_asks (T : Txt K mg) {fd : FuncData} (F : FunD K "is_asks" "is_asks" (defArgs s_is_asks) (defBody s_is_asks) (defScope s_is_asks) [] [] (He.ga K "is_asks") fd) : FnOk P w K mg base CX0 1 (He.ga K "is_asks") fd ["thing"] (spI K 1 F_is_asks) := by
  have sc := sc_is_asks
  refine fn_H (k := 0) (m := m_is_asks) F sc rfl rfl rfl fun cdv A outer s H E hr => ?_
  have hu : A.units + 3 + 1 < cLine := hu_of hr
  have hu64 : A.units + 3 + 64 < cLine := hr.units
  have hu65 : A.units + 3 + 65 < cLine := by have := hr.un; show A.units + 3 + 65 < cLine; have h2 : (A.deeper (envOfC "is_asks" (defScope s_is_asks) s.heap.objs.size (He.ga K "is_asks") cdv)).units = A.units + 3 := rfl; omega
  exact (hss_cons (hs_if (HW.t (hw_or (ht_not (ht_val (he_isi (pe_callB call_isiD (by rfl) T.n_isinstance (by decide +kernel) (pa_cons (he_var (pv 0)) (pa_cons (pe_bltn (v := .ty "tuple") (by rfl) T.n_tuple (by decide +kernel) rfl) pa_nil)))))) (ht_or1 (ht_not (ht_val (he_cb callD_quant (pe_callB (cr_all rfl) (by rfl) T.n_all (by decide +kernel) (ha_cons (he_lc rfl (by decide) (pe_lc rfl sc.nd (hi_any (pi_tup (he_var (pv 0))) (pi_str (he_var (pv 0))) (pi_list (he_var (pv 0)))) (blkOk_by (own := [("one", 1)]) (N := ["thing", "one", "other"]) (sc := defScope s_is_asks) (by decide +kernel)) (fun _ _ _ _ _ => (hg_name (pg_name (i := 1) sc.nd rfl (Or.inl rfl)))) (fun _ _ _ _ _ => pts_yes) (fun _ _ _ _ _ => (he_and (he_isi (pe_callB call_isiD (by rfl) T.n_isinstance (by decide +kernel) (pa_cons (he_var (pv 1)) (pa_cons (pe_bltn (v := .ty "str") (by rfl) T.n_str (by decide +kernel) rfl) pa_nil)))) (he_one (he_in opD_inA (pe_cmp (pc_din hu (he_var (pv 1)) (he_ktup (ss := ["behind", "elder", "own", "row"]) T.t_PROMISES (Fd.pe_gc (by rfl) T.k_PROMISES)))) (pe_cmpR (op_inA hu65) (he_var (pv 1)) (he_ktup (ss := ["behind", "elder", "own", "row"]) T.t_PROMISES (Fd.pe_gc (by rfl) T.k_PROMISES)) rfl))))))) ha_nil)))))))) (hss_one (hs_ret he_bl)) hss_nil)
      (hss_one (hs_ret (he_cb callD_quant (pe_callB (cr_all rfl) (by rfl) T.n_all (by decide +kernel) (ha_cons (he_lc rfl (by decide) (pe_lc rfl sc.nd (hi_zip (pi_zipA (by rfl) T.n_zip (ha_cons (he_var (pv 0)) (ha_cons (he_sl (pe_slice Fd.sl_any (he_var (pv 0)) (ho_some he_int) ho_none)) ha_nil)))) (blkOk_by (own := [("one", 1), ("other", 2)]) (N := ["thing", "one", "other"]) (sc := defScope s_is_asks) (by decide +kernel)) (fun _ _ _ _ _ => (hg_tup (n := 2) (fun _ h => Fd.pg_tupK (K := K) 2 rfl rfl h rfl rfl) (hgs_cons (hg_name (pg_name (i := 1) sc.nd rfl (Or.inl rfl))) (hgs_cons (hg_name (pg_name (i := 2) sc.nd rfl (Or.inl rfl))) hgs_nil)))) (fun _ _ _ _ _ => pts_yes) (fun _ _ _ _ _ => (he_cmp (op_ltA hu64) opD_ltA (he_var (pv 1)) (he_var (pv 2)) (nomark _))))) ha_nil))))))
theorem cal_is_asks (T : Txt K mg) : Fd.Cal P w K mg base 1 "is_asks" (spI K 1 F_is_asks) := by
  obtain ⟨fd, F⟩ := T.f_is_asks
  exact ⟨_, fd, ["thing"], ok_is_asks T F, T.g_is_asks, F.kp, F.bindsN fun _ _ _ _ _ _ us hl => match us, hl with | [_], _ => rfl⟩
theorem sc__law_cell_at : FnScope ["_law_script", "_law_k"] ["_law_script", "_law_k"] (defScope s__law_cell_at) := ⟨rfl, rfl, rfl, by decide +kernel, rfl, by decide +kernel, by decide +kernel⟩
def m__law_cell_at : MS :=
  (sSeq (sIf (tvB (vOp true ltA (vVar 1) (vCB true lenD (aCons (vVar 0) aNil)))) (sRet (vIx (vVar 0) (vVar 1))) sNext)
  (sRet (vC (.int 0))))
def F__law_cell_at : FI := runB 2 2 m__law_cell_at
def P__law_cell_at : FP := pureF F__law_cell_at
theorem ok__law_cell_at (T : Txt K mg) {fd : FuncData} (F : FunD K "_law_cell_at" "_law_cell_at" (defArgs s__law_cell_at) (defBody s__law_cell_at) (defScope s__law_cell_at) [] [] (He.ga K "_law_cell_at") fd) : FnOk P w K mg base CX0 1 (He.ga K "_law_cell_at") fd ["_law_script", "_law_k"] (spI K 2 F__law_cell_at) := by
  have sc := sc__law_cell_at
  refine fn_H (k := 0) (m := m__law_cell_at) F sc rfl rfl rfl fun cdv A outer s H E hr => ?_
  have hu : A.units + 3 + 1 < cLine := hu_of hr
  have hu64 : A.units + 3 + 64 < cLine := hr.units
  have hu65 : A.units + 3 + 65 < cLine := by have := hr.un; show A.units + 3 + 65 < cLine; have h2 : (A.deeper (envOfC "_law_cell_at" (defScope s__law_cell_at) s.heap.objs.size (He.ga K "_law_cell_at") cdv)).units = A.units + 3 := rfl; omega
  exact (hss_cons (hs_if (ht_cmp (op_ltA hu64) opD_ltA (he_var (pv 1)) (he_cb callD_len (pe_callB call_len (by rfl) T.n_len (by decide +kernel) (ha_cons (he_var (pv 0)) ha_nil))) (nomark _)) (hss_one (hs_ret (he_ix (pe_ix ix_seq (he_var (pv 0)) (he_var (pv 1)) (fun _ _ => rfl)) (pe_dget hu (he_var (pv 0)) (he_var (pv 1)) (fun _ _ => rfl))))) hss_nil)
      (hss_one (hs_ret he_int)))
theorem cal__law_cell_at (T : Txt K mg) : Fd.Cal P w K mg base 1 "_law_cell_at" (spI K 2 F__law_cell_at) := by
  obtain ⟨fd, F⟩ := T.f__law_cell_at
  exact ⟨_, fd, ["_law_script", "_law_k"], ok__law_cell_at T F, T.g__law_cell_at, F.kp, F.bindsN fun _ _ _ _ _ _ us hl => match us, hl with | [_, _], _ => rfl⟩
theorem sc__law_left : FnScope ["_law_script", "_law_k", "_law_cell", "_law_seed", "_law_bound"] ["_law_script", "_law_k"] (defScope s__law_left) := ⟨rfl, rfl, rfl, by decide +kernel, rfl, by decide +kernel, by decide +kernel⟩
def m__law_left : MS :=
  (sSeq (sSet 2 (vCallP P__law_cell_at (aCons (vVar 0) (aCons (vOp true modD (vVar 1) (vCB true maxX (aCons (vC (.int 1)) (aCons (vCB true lenD (aCons (vVar 0) aNil)) aNil)))) aNil))))
  (sSeq (sSet 3 (vOp true modD (vOp true mulA (vAddH (vAddH (vOp true modD (vVar 2) (vC (.int 2147483629))) (vOp true mulA (vOp true mulA (vC (.int 7919)) (vVar 1)) (vVar 1))) (vC (.int 11))) (vC (.int 48271))) (vC (.int 2147483647))))
  (sSeq (sSet 4 (vOp true mulA (vOp true mulA (vOp true mulA (vOp true mulA (vOp true mulA (vOp true powD (vC (.int 10)) (vC (.int 60))) (vOp true powD (vC (.int 10)) (vC (.int 60)))) (vOp true powD (vC (.int 10)) (vC (.int 60)))) (vOp true powD (vC (.int 10)) (vC (.int 60)))) (vOp true powD (vC (.int 10)) (vC (.int 60)))) (vOp true powD (vC (.int 10)) (vC (.int 60)))))
  (sRet (vLstC (aCons (vOpT mulA (vOp true modD (vVar 2) (vVar 4)) (vCB true intD (aCons (vOp true geA (vVar 2) (vOp true powD (vC (.int 10)) (vC (.int 18)))) aNil))) (aCons (vVar 3) (aCons (vC (.int 0)) aNil))))))))
def F__law_left : FI := runB 5 2 m__law_left
def P__law_left : FP := pureF F__law_left
theorem ok__law_left (T : Txt K mg) {fd : FuncData} (F : FunD K "_law_left" "_law_left" (defArgs s__law_left) (defBody s__law_left) (defScope s__law_left) [] [] (He.ga K "_law_left") fd) : FnOk P w K mg base CX0 2 (He.ga K "_law_left") fd ["_law_script", "_law_k"] (spI K 2 F__law_left) := by
  have sc := sc__law_left
  refine fn_H (k := 1) (m := m__law_left) F sc rfl rfl rfl fun cdv A outer s H E hr => ?_
  have hu : A.units + 3 + 1 < cLine := hu_of hr
  have hu64 : A.units + 3 + 64 < cLine := hr.units
  have hu65 : A.units + 3 + 65 < cLine := by have := hr.un; show A.units + 3 + 65 < cLine; have h2 : (A.deeper (envOfC "_law_left" (defScope s__law_left) s.heap.objs.size (He.ga K "_law_left") cdv)).units = A.units + 3 := rfl; omega
  exact (hss_cons (hs_set (ps_set (i := 2) sc.nd rfl (Or.inl rfl) (he_callP (calP (cal__law_cell_at T)) hr (by decide) (by rfl) (ha_cons (he_var (pv 0)) (ha_cons (he_op op_mod opD_mod (he_var (pv 1)) (he_cb callD_maxX (pe_callB (call_maxX rfl hu64) (by rfl) T.n_max (by decide +kernel) (ha_cons he_int (ha_cons (he_cb callD_len (pe_callB call_len (by rfl) T.n_len (by decide +kernel) (ha_cons (he_var (pv 0)) ha_nil))) ha_nil))))) ha_nil)) (alen_cons (alen_cons alen_nil)))))
      (hss_cons (hs_set (ps_set (i := 3) sc.nd rfl (Or.inl rfl) (he_op op_mod opD_mod (he_op op_mulA opD_mulA (he_addH (he_addH (he_op op_mod opD_mod (he_var (pv 2)) he_int) (he_op op_mulA opD_mulA (he_op op_mulA opD_mulA he_int (he_var (pv 1))) (he_var (pv 1)))) he_int) he_int) he_int)))
      (hss_cons (hs_set (ps_set (i := 4) sc.nd rfl (Or.inl rfl) (he_op op_mulA opD_mulA (he_op op_mulA opD_mulA (he_op op_mulA opD_mulA (he_op op_mulA opD_mulA (he_op op_mulA opD_mulA (he_op op_pow opD_pow he_int he_int) (he_op op_pow opD_pow he_int he_int)) (he_op op_pow opD_pow he_int he_int)) (he_op op_pow opD_pow he_int he_int)) (he_op op_pow opD_pow he_int he_int)) (he_op op_pow opD_pow he_int he_int))))
      (hss_one (hs_ret (he_lstC (ha_cons (he_opT op_mulA opD_mulA (he_op op_mod opD_mod (he_var (pv 2)) (he_var (pv 4))) (he_cb callD_int (pe_callTy call_int1 (by rfl) T.n_int (by decide +kernel) (ha_cons (he_cmp (op_geA hu64) opD_geA (he_var (pv 2)) (he_op op_pow opD_pow he_int he_int) (nomark _)) ha_nil)))) (ha_cons (he_var (pv 3)) (ha_cons he_int ha_nil)))))))))
theorem cal__law_left (T : Txt K mg) : Fd.Cal P w K mg base 2 "_law_left" (spI K 2 F__law_left) := by
  obtain ⟨fd, F⟩ := T.f__law_left
  exact ⟨_, fd, ["_law_script", "_law_k"], ok__law_left T F, T.g__law_left, F.kp, F.bindsN fun _ _ _ _ _ _ us hl => match us, hl with | [_, _], _ => rfl⟩
theorem sc__law_pick : FnScope ["_law_left_here", "_law_many", "_law_digit"] ["_law_left_here", "_law_many"] (defScope s__law_pick) := ⟨rfl, rfl, rfl, by decide +kernel, rfl, by decide +kernel, by decide +kernel⟩
def m__law_pick : MS :=
  (sSeq (sIf (tvB (vOp true gtA (vIx (vVar 0) (vC (.int 0))) (vC (.int 0)))) (sSeq (sSet 2 (vOp true modD (vIx (vVar 0) (vC (.int 0))) (vVar 1)))
  (sSeq (sPut (vOp true fdivD (vIx (vVar 0) (vC (.int 0))) (vVar 1)) (vVar 0) (vC (.int 0)))
  (sRet (vVar 2)))) sNext)
  (sSeq (sPut (vOpT addD (vIx (vVar 0) (vC (.int 2))) (vC (.int 1))) (vVar 0) (vC (.int 2)))
  (sSeq (sPut (vOp true modD (vAddH (vAddH (vOp true mulA (vIx (vVar 0) (vC (.int 1))) (vC (.int 48271))) (vC (.int 12345))) (vOp true mulA (vC (.int 7919)) (vIx (vVar 0) (vC (.int 2))))) (vC (.int 2147483647))) (vVar 0) (vC (.int 1)))
  (sRet (vOp true modD (vOp true fdivD (vOp true modD (vOp true mulA (vIx (vVar 0) (vC (.int 1))) (vIx (vVar 0) (vC (.int 1)))) (vC (.int 1999999973))) (vC (.int 31))) (vVar 1))))))
def F__law_pick : FI := runB 3 2 m__law_pick
theorem ok__law_pick (T : Txt K mg) {fd : FuncData} (F : FunD K "_law_pick" "_law_pick" (defArgs s__law_pick) (defBody s__law_pick) (defScope s__law_pick) [] [] (He.ga K "_law_pick") fd) : FnOk P w K mg base CX0 1 (He.ga K "_law_pick") fd ["_law_left_here", "_law_many"] (spI K 2 F__law_pick) := by
  have sc := sc__law_pick
  refine fn_H (k := 0) (m := m__law_pick) F sc rfl rfl rfl fun cdv A outer s H E hr => ?_
  have hu : A.units + 3 + 1 < cLine := hu_of hr
  have hu64 : A.units + 3 + 64 < cLine := hr.units
  have hu65 : A.units + 3 + 65 < cLine := by have := hr.un; show A.units + 3 + 65 < cLine; have h2 : (A.deeper (envOfC "_law_pick" (defScope s__law_pick) s.heap.objs.size (He.ga K "_law_pick") cdv)).units = A.units + 3 := rfl; omega
  exact (hss_cons (hs_if (ht_cmp (op_gtA hu64) opD_gtA (he_ix (pe_ix ix_seq (he_var (pv 0)) he_int (fun _ _ => rfl)) (pe_dget hu (he_var (pv 0)) he_int (fun _ _ => rfl))) he_int (nomark _)) (hss_cons (hs_set (ps_set (i := 2) sc.nd rfl (Or.inl rfl) (he_op op_mod opD_mod (he_ix (pe_ix ix_seq (he_var (pv 0)) he_int (fun _ _ => rfl)) (pe_dget hu (he_var (pv 0)) he_int (fun _ _ => rfl))) (he_var (pv 1)))))
      (hss_cons (hs_put (ps_dput hu (he_var (pv 0)) he_int (he_op op_fdivW opD_fdivW (he_ix (pe_ix ix_seq (he_var (pv 0)) he_int (fun _ _ => rfl)) (pe_dget hu (he_var (pv 0)) he_int (fun _ _ => rfl))) (he_var (pv 1))) rfl) (ps_asg (he_op op_fdivW opD_fdivW (he_ix (pe_ix ix_seq (he_var (pv 0)) he_int (fun _ _ => rfl)) (pe_dget hu (he_var (pv 0)) he_int (fun _ _ => rfl))) (he_var (pv 1))) (pg_sub (he_var (pv 0)) he_int set_list)))
      (hss_one (hs_ret (he_var (pv 2)))))) hss_nil)
      (hss_cons (hs_put (ps_dput hu (he_var (pv 0)) he_int (he_opT op_addA opD_add (he_ix (pe_ix ix_seq (he_var (pv 0)) he_int (fun _ _ => rfl)) (pe_dget hu (he_var (pv 0)) he_int (fun _ _ => rfl))) he_int) rfl) (ps_asg (he_opT op_addA opD_add (he_ix (pe_ix ix_seq (he_var (pv 0)) he_int (fun _ _ => rfl)) (pe_dget hu (he_var (pv 0)) he_int (fun _ _ => rfl))) he_int) (pg_sub (he_var (pv 0)) he_int set_list)))
      (hss_cons (hs_put (ps_dput hu (he_var (pv 0)) he_int (he_op op_mod opD_mod (he_addH (he_addH (he_op op_mulA opD_mulA (he_ix (pe_ix ix_seq (he_var (pv 0)) he_int (fun _ _ => rfl)) (pe_dget hu (he_var (pv 0)) he_int (fun _ _ => rfl))) he_int) he_int) (he_op op_mulA opD_mulA he_int (he_ix (pe_ix ix_seq (he_var (pv 0)) he_int (fun _ _ => rfl)) (pe_dget hu (he_var (pv 0)) he_int (fun _ _ => rfl))))) he_int) rfl) (ps_asg (he_op op_mod opD_mod (he_addH (he_addH (he_op op_mulA opD_mulA (he_ix (pe_ix ix_seq (he_var (pv 0)) he_int (fun _ _ => rfl)) (pe_dget hu (he_var (pv 0)) he_int (fun _ _ => rfl))) he_int) he_int) (he_op op_mulA opD_mulA he_int (he_ix (pe_ix ix_seq (he_var (pv 0)) he_int (fun _ _ => rfl)) (pe_dget hu (he_var (pv 0)) he_int (fun _ _ => rfl))))) he_int) (pg_sub (he_var (pv 0)) he_int set_list)))
      (hss_one (hs_ret (he_op op_mod opD_mod (he_op op_fdivW opD_fdivW (he_op op_mod opD_mod (he_op op_mulA opD_mulA (he_ix (pe_ix ix_seq (he_var (pv 0)) he_int (fun _ _ => rfl)) (pe_dget hu (he_var (pv 0)) he_int (fun _ _ => rfl))) (he_ix (pe_ix ix_seq (he_var (pv 0)) he_int (fun _ _ => rfl)) (pe_dget hu (he_var (pv 0)) he_int (fun _ _ => rfl)))) he_int) he_int) (he_var (pv 1))))))))
theorem cal__law_pick (T : Txt K mg) : Fd.Cal P w K mg base 1 "_law_pick" (spI K 2 F__law_pick) := by
  obtain ⟨fd, F⟩ := T.f__law_pick
  exact ⟨_, fd, ["_law_left_here", "_law_many"], ok__law_pick T F, T.g__law_pick, F.kp, F.bindsN fun _ _ _ _ _ _ us hl => match us, hl with | [_, _], _ => rfl⟩
theorem sc__law_all : FnScope ["_law_found", "_law_word", "_law_one"] [] (defScope s__law_all) := ⟨rfl, rfl, rfl, by decide +kernel, rfl, by decide +kernel, by decide +kernel⟩
def m__law_all : MS :=
  (sSeq (sSet 0 (vLstC (aCons (vTup aNil) aNil)))
  (sSeq (sFor (iAny (vTup (aCons (vC (.str "behind")) (aCons (vC (.str "elder")) (aCons (vC (.str "own")) (aCons (vC (.str "row")) aNil)))))) (gNm 1) (sSet 0 (vAddC (vVar 0) (vLc (iAny (vVar 0)) [2] (gNm 2) tYesM (vAddH (vVar 2) (vTup (aCons (vVar 1) aNil)))))))
  (sRet (vVar 0))))
def F__law_all : FI := runB 3 0 m__law_all
def P__law_all : FP := pureF F__law_all
theorem ok__law_all (T : Txt K mg) {fd : FuncData} (F : FunD K "_law_all" "_law_all" (defArgs s__law_all) (defBody s__law_all) (defScope s__law_all) [] [] (He.ga K "_law_all") fd) : FnOk P w K mg base CX0 1 (He.ga K "_law_all") fd [] (spI K 0 F__law_all) := by
  have sc := sc__law_all
  refine fn_H (k := 0) (m := m__law_all) F sc rfl rfl rfl fun cdv A outer s H E hr => ?_
  have hu : A.units + 3 + 1 < cLine := hu_of hr
  have hu64 : A.units + 3 + 64 < cLine := hr.units
  have hu65 : A.units + 3 + 65 < cLine := by have := hr.un; show A.units + 3 + 65 < cLine; have h2 : (A.deeper (envOfC "_law_all" (defScope s__law_all) s.heap.objs.size (He.ga K "_law_all") cdv)).units = A.units + 3 := rfl; omega
  exact (hss_cons (hs_set (ps_set (i := 0) sc.nd rfl (Or.inl rfl) (he_lstC (ha_cons (he_tup ha_nil) ha_nil))))
      (hss_cons (hs_for PassesOwn.never rfl (hi_any (pi_tup (he_tup (ha_cons he_str (ha_cons he_str (ha_cons he_str (ha_cons he_str ha_nil)))))) (pi_str (he_tup (ha_cons he_str (ha_cons he_str (ha_cons he_str (ha_cons he_str ha_nil)))))) (pi_list (he_tup (ha_cons he_str (ha_cons he_str (ha_cons he_str (ha_cons he_str ha_nil))))))) (hg_name (pg_name (i := 1) sc.nd rfl (Or.inr rfl))) (hss_one (hs_set (ps_set (i := 0) sc.nd rfl (Or.inl rfl) (he_addC (he_var (pv 0)) (he_lc rfl (by decide) (pe_lc rfl sc.nd (hi_any (pi_tup (he_var (pv 0))) (pi_str (he_var (pv 0))) (pi_list (he_var (pv 0)))) (blkOk_by (own := [("_law_one", 2)]) (N := ["_law_found", "_law_word", "_law_one"]) (sc := defScope s__law_all) (by decide +kernel)) (fun _ _ _ _ _ => (hg_name (pg_name (i := 2) sc.nd rfl (Or.inl rfl)))) (fun _ _ _ _ _ => pts_yes) (fun _ _ _ _ _ => (he_addH (he_var (pv 2)) (he_tup (ha_cons (he_var (pv 1)) ha_nil)))))))))))
      (hss_one (hs_ret (he_var (pv 0))))))
theorem cal__law_all (T : Txt K mg) : Fd.Cal P w K mg base 1 "_law_all" (spI K 0 F__law_all) := by
  obtain ⟨fd, F⟩ := T.f__law_all
  exact ⟨_, fd, [], ok__law_all T F, T.g__law_all, F.kp, F.bindsN fun _ _ _ _ _ _ us hl => match us, hl with | [], _ => rfl⟩
theorem sc__law_spoilt : FnScope ["_law_left_here", "_law_asks", "_law_at", "_law_odd", "_law_word", "_law_some"] ["_law_left_here", "_law_asks"] (defScope s__law_spoilt) := ⟨rfl, rfl, rfl, by decide +kernel, rfl, by decide +kernel, by decide +kernel⟩
def m__law_spoilt : MS :=
  (sSeq (sSet 2 (vCallI F__law_pick (aCons (vVar 0) (aCons (vAddX (vCB true lenD (aCons (vVar 1) aNil)) (vC (.int 1))) aNil))))
  (sSeq (sSet 3 (vIx (vLstF (aCons (vC (.str "rows")) (aCons (vC (.str "")) (aCons (vC (.str "Row")) (aCons (vC (.str "elder ")) (aCons (vC (.str "behindx")) (aCons (vC .non) (aCons (vC (.bl true)) (aCons (vC (.int 0)) (aCons (vTup (aCons (vC (.str "row")) aNil)) (aCons (vLstF (aCons (vC (.str "own")) aNil)) aNil))))))))))) (vCallI F__law_pick (aCons (vVar 0) (aCons (vC (.int 10)) aNil)))))
  (sSeq (sSet 4 (vIx (vTup (aCons (vC (.str "behind")) (aCons (vC (.str "elder")) (aCons (vC (.str "own")) (aCons (vC (.str "row")) aNil))))) (vCallI F__law_pick (aCons (vVar 0) (aCons (vC (.int 4)) aNil)))))
  (sSeq (sSet 5 (vLstF (aCons (vAddX (vAddX (vSl (vVar 1) oNo (oSome (vVar 2))) (vTup (aCons (vVar 3) aNil))) (vSl (vVar 1) (oSome (vVar 2)) oNo)) (aCons (vAddX (vAddX (vSl (vVar 1) oNo (oSome (vVar 2))) (vTup (aCons (vVar 4) aNil))) (vSl (vVar 1) (oSome (vVar 2)) oNo)) (aCons (vRevT (vVar 1)) (aCons (vAddX (vVar 1) (vSl (vVar 1) oNo (oSome (vC (.int 1))))) (aCons (vSl (vVar 1) (oSome (vVar 2)) oNo) aNil)))))))
  (sSeq (sSet 5 (vAddX (vVar 5) (vLstF (aCons (vAddX (vAddX (vSl (vVar 1) oNo (oSome (vVar 2))) (vTup (aCons (vVar 4) aNil))) (vSl (vVar 1) (oSome (vAddX (vVar 2) (vC (.int 1)))) oNo)) (aCons (vCB true listX (aCons (vVar 1) aNil)) (aCons (vOp true eqX (vCB true lenD (aCons (vVar 1) aNil)) (vC (.int 1))) (aCons (vJoin (vC (.str " ")) (vVar 1)) (aCons (vTup (aCons (vVar 1) aNil)) aNil))))))))
  (sRet (vIx (vVar 5) (vCallI F__law_pick (aCons (vVar 0) (aCons (vC (.int 10)) aNil))))))))))
def F__law_spoilt : FI := runB 6 2 m__law_spoilt
theorem ok__law_spoilt (T : Txt K mg) {fd : FuncData} (F : FunD K "_law_spoilt" "_law_spoilt" (defArgs s__law_spoilt) (defBody s__law_spoilt) (defScope s__law_spoilt) [] [] (He.ga K "_law_spoilt") fd) : FnOk P w K mg base CX0 2 (He.ga K "_law_spoilt") fd ["_law_left_here", "_law_asks"] (spI K 2 F__law_spoilt) := by
  have sc := sc__law_spoilt
  refine fn_H (k := 1) (m := m__law_spoilt) F sc rfl rfl rfl fun cdv A outer s H E hr => ?_
  have hu : A.units + 3 + 1 < cLine := hu_of hr
  have hu64 : A.units + 3 + 64 < cLine := hr.units
  have hu65 : A.units + 3 + 65 < cLine := by have := hr.un; show A.units + 3 + 65 < cLine; have h2 : (A.deeper (envOfC "_law_spoilt" (defScope s__law_spoilt) s.heap.objs.size (He.ga K "_law_spoilt") cdv)).units = A.units + 3 := rfl; omega
  exact (hss_cons (hs_set (ps_set (i := 2) sc.nd rfl (Or.inl rfl) (he_callI (cal__law_pick T) hr (by decide) (by rfl) (ha_cons (he_var (pv 0)) (ha_cons (he_addX (he_cb callD_len (pe_callB call_len (by rfl) T.n_len (by decide +kernel) (ha_cons (he_var (pv 1)) ha_nil))) he_int) ha_nil)) (alen_cons (alen_cons alen_nil)))))
      (hss_cons (hs_set (ps_set (i := 3) sc.nd rfl (Or.inl rfl) (he_ix (pe_ix ix_seq (he_lstF (ha_cons he_str (ha_cons he_str (ha_cons he_str (ha_cons he_str (ha_cons he_str (ha_cons he_non (ha_cons he_bl (ha_cons he_int (ha_cons (he_tup (ha_cons he_str ha_nil)) (ha_cons (he_lstF (ha_cons he_str ha_nil)) ha_nil))))))))))) (he_callI (cal__law_pick T) hr (by decide) (by rfl) (ha_cons (he_var (pv 0)) (ha_cons he_int ha_nil)) (alen_cons (alen_cons alen_nil))) (fun _ _ => rfl)) (pe_dget hu (he_lstF (ha_cons he_str (ha_cons he_str (ha_cons he_str (ha_cons he_str (ha_cons he_str (ha_cons he_non (ha_cons he_bl (ha_cons he_int (ha_cons (he_tup (ha_cons he_str ha_nil)) (ha_cons (he_lstF (ha_cons he_str ha_nil)) ha_nil))))))))))) (he_callI (cal__law_pick T) hr (by decide) (by rfl) (ha_cons (he_var (pv 0)) (ha_cons he_int ha_nil)) (alen_cons (alen_cons alen_nil))) (fun _ _ => rfl)))))
      (hss_cons (hs_set (ps_set (i := 4) sc.nd rfl (Or.inl rfl) (he_ix (pe_ix ix_seq (he_tup (ha_cons he_str (ha_cons he_str (ha_cons he_str (ha_cons he_str ha_nil))))) (he_callI (cal__law_pick T) hr (by decide) (by rfl) (ha_cons (he_var (pv 0)) (ha_cons he_int ha_nil)) (alen_cons (alen_cons alen_nil))) (fun _ _ => rfl)) (pe_dget hu (he_tup (ha_cons he_str (ha_cons he_str (ha_cons he_str (ha_cons he_str ha_nil))))) (he_callI (cal__law_pick T) hr (by decide) (by rfl) (ha_cons (he_var (pv 0)) (ha_cons he_int ha_nil)) (alen_cons (alen_cons alen_nil))) (fun _ _ => rfl)))))
      (hss_cons (hs_set (ps_set (i := 5) sc.nd rfl (Or.inl rfl) (he_lstF (ha_cons (he_addX (he_addX (he_sl (pe_slice Fd.sl_any (he_var (pv 1)) ho_none (ho_some (he_var (pv 2))))) (he_tup (ha_cons (he_var (pv 3)) ha_nil))) (he_sl (pe_slice Fd.sl_any (he_var (pv 1)) (ho_some (he_var (pv 2))) ho_none))) (ha_cons (he_addX (he_addX (he_sl (pe_slice Fd.sl_any (he_var (pv 1)) ho_none (ho_some (he_var (pv 2))))) (he_tup (ha_cons (he_var (pv 4)) ha_nil))) (he_sl (pe_slice Fd.sl_any (he_var (pv 1)) (ho_some (he_var (pv 2))) ho_none))) (ha_cons (he_revT (pe_revT (he_var (pv 1)))) (ha_cons (he_addX (he_var (pv 1)) (he_sl (pe_slice Fd.sl_any (he_var (pv 1)) ho_none (ho_some he_int)))) (ha_cons (he_sl (pe_slice Fd.sl_any (he_var (pv 1)) (ho_some (he_var (pv 2))) ho_none)) ha_nil))))))))
      (hss_cons (hs_set (ps_set (i := 5) sc.nd rfl (Or.inl rfl) (he_addX (he_var (pv 5)) (he_lstF (ha_cons (he_addX (he_addX (he_sl (pe_slice Fd.sl_any (he_var (pv 1)) ho_none (ho_some (he_var (pv 2))))) (he_tup (ha_cons (he_var (pv 4)) ha_nil))) (he_sl (pe_slice Fd.sl_any (he_var (pv 1)) (ho_some (he_addX (he_var (pv 2)) he_int)) ho_none))) (ha_cons (he_cb callD_listX (pe_callTy (call_listX rfl) (by rfl) T.n_list (by decide +kernel) (ha_cons (he_var (pv 1)) ha_nil))) (ha_cons (he_cmp (op_eqX hu65) opD_eqX (he_cb callD_len (pe_callB call_len (by rfl) T.n_len (by decide +kernel) (ha_cons (he_var (pv 1)) ha_nil))) he_int (nomark _)) (ha_cons (he_join (pe_join he_str (he_var (pv 1)))) (ha_cons (he_tup (ha_cons (he_var (pv 1)) ha_nil)) ha_nil)))))))))
      (hss_one (hs_ret (he_ix (pe_ix ix_seq (he_var (pv 5)) (he_callI (cal__law_pick T) hr (by decide) (by rfl) (ha_cons (he_var (pv 0)) (ha_cons he_int ha_nil)) (alen_cons (alen_cons alen_nil))) (fun _ _ => rfl)) (pe_dget hu (he_var (pv 5)) (he_callI (cal__law_pick T) hr (by decide) (by rfl) (ha_cons (he_var (pv 0)) (ha_cons he_int ha_nil)) (alen_cons (alen_cons alen_nil))) (fun _ _ => rfl))))))))))
theorem cal__law_spoilt (T : Txt K mg) : Fd.Cal P w K mg base 2 "_law_spoilt" (spI K 2 F__law_spoilt) := by
  obtain ⟨fd, F⟩ := T.f__law_spoilt
  exact ⟨_, fd, ["_law_left_here", "_law_asks"], ok__law_spoilt T F, T.g__law_spoilt, F.kp, F.bindsN fun _ _ _ _ _ _ us hl => match us, hl with | [_, _], _ => rfl⟩
theorem sc_law : FnScope ["_law_script", "_law_good", "_law_asks", "_law_thing", "_law_k", "_law_left_here", "_law_due", "_law_found", "_law_one"] ["_law_script"] (defScope s_law) := ⟨rfl, rfl, rfl, by decide +kernel, rfl, by decide +kernel, by decide +kernel⟩
def m_law : MS :=
  (sSeq (sSet 1 (vCallT P__law_all aNil))
  (sSeq (sFor (iAny (vVar 1)) (gNm 2) (sIf (tvB (vOp true (isD true) (vCallP P_is_asks (aCons (vVar 2) aNil)) (vC (.bl true)))) (sRet (vC (.bl false))) sNext))
  (sSeq (sFor (iAny (vTup (aCons (vC .non) (aCons (vC (.bl true)) (aCons (vC (.bl false)) (aCons (vC (.int 0)) (aCons (vC (.int 7)) (aCons (vC (.str "")) (aCons (vC (.str "own")) (aCons (vC (.str "row")) (aCons (vLstF aNil) (aCons vDK (aCons (vLstF (aCons (vC (.str "own")) aNil)) (aCons (vDisp [((vC (.str "own")), (vC (.int 1)))]) (aCons (vTup (aCons (vC .non) aNil)) (aCons (vTup (aCons (vC (.int 0)) aNil)) (aCons (vTup (aCons (vTup aNil) aNil)) (aCons (vTup (aCons (vC (.str "")) aNil)) aNil)))))))))))))))))) (gNm 3) (sIf (tvB (vOp true (isD true) (vCallP P_is_asks (aCons (vVar 3) aNil)) (vC (.bl false)))) (sRet (vC (.bl false))) sNext))
  (sSeq (sFor (iRg1 (vAddH (vC (.int 4)) (vCB true (minmaxD minI) (aCons (vC (.int 30)) (aCons (vCB true lenD (aCons (vVar 0) aNil)) aNil))))) (gNm 4) (sSeq (sSet 5 (vCallT P__law_left (aCons (vVar 0) (aCons (vVar 4) aNil))))
  (sSeq (sSet 3 (vCallI F__law_spoilt (aCons (vVar 5) (aCons (vIx (vVar 1) (vCallI F__law_pick (aCons (vVar 5) (aCons (vC (.int 16)) aNil)))) aNil))))
  (sSeq (sSet 6 (vAnd (vIsi "tuple" (vVar 3)) (vOp true eqX (vCB true lenD (aCons (vLc (iAny (vVar 1)) [8] (gNm 8) (tvB (vOp true eqX (vVar 8) (vVar 3))) (vVar 8)) aNil)) (vC (.int 1)))))
  (sSeq (sSet 7 (vCallP P_is_asks (aCons (vVar 3) aNil)))
  (sIf (tvOr (tvNot (tvB (vIsi "bool" (vVar 7)))) (tvB (vOp true neX (vVar 7) (vVar 6)))) (sRet (vC (.bl false))) sNext))))))
  (sRet (vC (.bl true)))))))
def F_law : FI := runB 9 1 m_law
def P_law : FP := pureF F_law
theorem ok_law (T : Txt K mg) {fd : FuncData} (F : FunD K "law" "law" (defArgs s_law) (defBody s_law) (defScope s_law) [] [] (He.ga K "law") fd) : FnOk P w K mg base CX0 3 (He.ga K "law") fd ["_law_script"] (spI K 1 F_law) := by
  have sc := sc_law
  refine fn_H (k := 2) (m := m_law) F sc rfl rfl rfl fun cdv A outer s H E hr => ?_
  have hu : A.units + 3 + 1 < cLine := hu_of hr
  have hu64 : A.units + 3 + 64 < cLine := hr.units
  have hu65 : A.units + 3 + 65 < cLine := by have := hr.un; show A.units + 3 + 65 < cLine; have h2 : (A.deeper (envOfC "law" (defScope s_law) s.heap.objs.size (He.ga K "law") cdv)).units = A.units + 3 := rfl; omega
  exact (hss_cons (hs_set (ps_set (i := 1) sc.nd rfl (Or.inl rfl) (he_callT0 (calP (cal__law_all T)) hr (by decide) (by rfl))))
      (hss_cons (hs_for PassesOwn.never rfl (hi_any (pi_tup (he_var (pv 1))) (pi_str (he_var (pv 1))) (pi_list (he_var (pv 1)))) (hg_name (pg_name (i := 2) sc.nd rfl (Or.inl rfl))) (hss_one (hs_if (ht_cmp op_isntA opD_isnt (he_callP (calP (cal_is_asks T)) hr (by decide) (by rfl) (ha_cons (he_var (pv 2)) ha_nil) (alen_cons alen_nil)) he_bl (nomark _)) (hss_one (hs_ret he_bl)) hss_nil)))
      (hss_cons (hs_for PassesOwn.never rfl (hi_any (pi_tup (he_tup (ha_cons he_non (ha_cons he_bl (ha_cons he_bl (ha_cons he_int (ha_cons he_int (ha_cons he_str (ha_cons he_str (ha_cons he_str (ha_cons (he_lstF ha_nil) (ha_cons he_dK (ha_cons (he_lstF (ha_cons he_str ha_nil)) (ha_cons (he_disp (ps := [((vC (.str "own")), (vC (.int 1)))]) (pe_disp (pps_cons he_str he_int pps_nil) (by rfl) (by rfl) (fun z => by cases z) (by decide))) (ha_cons (he_tup (ha_cons he_non ha_nil)) (ha_cons (he_tup (ha_cons he_int ha_nil)) (ha_cons (he_tup (ha_cons (he_tup ha_nil) ha_nil)) (ha_cons (he_tup (ha_cons he_str ha_nil)) ha_nil)))))))))))))))))) (pi_str (he_tup (ha_cons he_non (ha_cons he_bl (ha_cons he_bl (ha_cons he_int (ha_cons he_int (ha_cons he_str (ha_cons he_str (ha_cons he_str (ha_cons (he_lstF ha_nil) (ha_cons he_dK (ha_cons (he_lstF (ha_cons he_str ha_nil)) (ha_cons (he_disp (ps := [((vC (.str "own")), (vC (.int 1)))]) (pe_disp (pps_cons he_str he_int pps_nil) (by rfl) (by rfl) (fun z => by cases z) (by decide))) (ha_cons (he_tup (ha_cons he_non ha_nil)) (ha_cons (he_tup (ha_cons he_int ha_nil)) (ha_cons (he_tup (ha_cons (he_tup ha_nil) ha_nil)) (ha_cons (he_tup (ha_cons he_str ha_nil)) ha_nil)))))))))))))))))) (pi_list (he_tup (ha_cons he_non (ha_cons he_bl (ha_cons he_bl (ha_cons he_int (ha_cons he_int (ha_cons he_str (ha_cons he_str (ha_cons he_str (ha_cons (he_lstF ha_nil) (ha_cons he_dK (ha_cons (he_lstF (ha_cons he_str ha_nil)) (ha_cons (he_disp (ps := [((vC (.str "own")), (vC (.int 1)))]) (pe_disp (pps_cons he_str he_int pps_nil) (by rfl) (by rfl) (fun z => by cases z) (by decide))) (ha_cons (he_tup (ha_cons he_non ha_nil)) (ha_cons (he_tup (ha_cons he_int ha_nil)) (ha_cons (he_tup (ha_cons (he_tup ha_nil) ha_nil)) (ha_cons (he_tup (ha_cons he_str ha_nil)) ha_nil))))))))))))))))))) (hg_name (pg_name (i := 3) sc.nd rfl (Or.inr rfl))) (hss_one (hs_if (ht_cmp op_isntA opD_isnt (he_callP (calP (cal_is_asks T)) hr (by decide) (by rfl) (ha_cons (he_var (pv 3)) ha_nil) (alen_cons alen_nil)) he_bl (nomark _)) (hss_one (hs_ret he_bl)) hss_nil)))
      (hss_cons (hs_for PassesOwn.never rfl (hi_rg1 (pi_range1 (by rfl) T.n_range (ha_cons (he_addH he_int (he_cb callD_mm (pe_callB (call_min2 rfl) (by rfl) T.n_min (by decide +kernel) (ha_cons he_int (ha_cons (he_cb callD_len (pe_callB call_len (by rfl) T.n_len (by decide +kernel) (ha_cons (he_var (pv 0)) ha_nil))) ha_nil))))) ha_nil))) (hg_name (pg_name (i := 4) sc.nd rfl (Or.inl rfl))) (hss_cons (hs_set (ps_set (i := 5) sc.nd rfl (Or.inl rfl) (he_callT (calP (cal__law_left T)) hr (by decide) (by rfl) (ha_cons (he_var (pv 0)) (ha_cons (he_var (pv 4)) ha_nil)) (alen_cons (alen_cons alen_nil)))))
      (hss_cons (hs_set (ps_set (i := 3) sc.nd rfl (Or.inr rfl) (he_callI (cal__law_spoilt T) hr (by decide) (by rfl) (ha_cons (he_var (pv 5)) (ha_cons (he_ix (pe_ix ix_seq (he_var (pv 1)) (he_callI (cal__law_pick T) hr (by decide) (by rfl) (ha_cons (he_var (pv 5)) (ha_cons he_int ha_nil)) (alen_cons (alen_cons alen_nil))) (fun _ _ => rfl)) (pe_dget hu (he_var (pv 1)) (he_callI (cal__law_pick T) hr (by decide) (by rfl) (ha_cons (he_var (pv 5)) (ha_cons he_int ha_nil)) (alen_cons (alen_cons alen_nil))) (fun _ _ => rfl))) ha_nil)) (alen_cons (alen_cons alen_nil)))))
      (hss_cons (hs_set (ps_set (i := 6) sc.nd rfl (Or.inl rfl) (he_and (he_isi (pe_callB call_isiD (by rfl) T.n_isinstance (by decide +kernel) (pa_cons (he_var (pv 3)) (pa_cons (pe_bltn (v := .ty "tuple") (by rfl) T.n_tuple (by decide +kernel) rfl) pa_nil)))) (he_one (he_cmp (op_eqX hu65) opD_eqX (he_cb callD_len (pe_callB call_len (by rfl) T.n_len (by decide +kernel) (ha_cons (he_lc rfl (by decide) (pe_lc rfl sc.nd (hi_any (pi_tup (he_var (pv 1))) (pi_str (he_var (pv 1))) (pi_list (he_var (pv 1)))) (blkOk_by (own := [("_law_one", 8)]) (N := ["_law_script", "_law_good", "_law_asks", "_law_thing", "_law_k", "_law_left_here", "_law_due", "_law_found", "_law_one"]) (sc := defScope s_law) (by decide +kernel)) (fun _ _ _ _ _ => (hg_name (pg_name (i := 8) sc.nd rfl (Or.inl rfl)))) (fun _ _ _ _ _ => (pts_one (ht_cmp (op_eqX hu65) opD_eqX (he_var (pv 8)) (he_var (pv 3)) (nomark _)))) (fun _ _ _ _ _ => (he_var (pv 8))))) ha_nil))) he_int (nomark _))))))
      (hss_cons (hs_set (ps_set (i := 7) sc.nd rfl (Or.inl rfl) (he_callP (calP (cal_is_asks T)) hr (by decide) (by rfl) (ha_cons (he_var (pv 3)) ha_nil) (alen_cons alen_nil))))
      (hss_one (hs_if (HW.t (hw_or (ht_not (ht_val (he_isi (pe_callB call_isiD (by rfl) T.n_isinstance (by decide +kernel) (pa_cons (he_var (pv 7)) (pa_cons (pe_bltn (v := .ty "bool") (by rfl) T.n_bool (by decide +kernel) rfl) pa_nil)))))) (ht_or1 (ht_cmp (op_neX hu65) opD_neX (he_var (pv 7)) (he_var (pv 6)) (nomark _))))) (hss_one (hs_ret he_bl)) hss_nil)))))))
      (hss_one (hs_ret he_bl))))))
theorem cal_law (T : Txt K mg) : Fd.Cal P w K mg base 3 "law" (spI K 1 F_law) := by
  obtain ⟨fd, F⟩ := T.f_law
  exact ⟨_, fd, ["_law_script"], ok_law T F, T.g_law, F.kp, F.bindsN fun _ _ _ _ _ _ us hl => match us, hl with | [_], _ => rfl⟩
end
local macro_rules | `(tactic| walk_at "ev") => `(tactic| simp only [pureF, runB, sRet, sRetN, sNext, sBrk, sCont, sSeq, sIf, sDrop, sAsg, sSet, sPar, sPar3, sFor, sForD, sPut, gNm, gTp, gLs, gCs, gNl, itT, vVar, vC, vAnd, vOr, vNot, vIf, vOp, vIn, vIx, vGet2, vGet1, vTup, vLstF, vLstC, vCallI, vCallP, vCallT, vCB, vCBT, cbM, vDK, vDT, vLc, vLcC, vLcD, vLcDC, lcM, lcD, vMt, vMt0, vUpd, vSl, vSlC, vUn, vClear, vIsi2, vSrtI, vSrtV, gPut, vChain, vIsi, vUpper, vPop1, vDPop1, vDPop2, iAny_eq, iAnyM_lst, iAnyM_frl, iAnyM_L, iAnyM_tup, iAnyM_T, mkL_d1, mkL_d2, mkL_d3, mkL_d4, mkL_d5, mkL_d6, sz_0, sz_1, sz_2, sz_3, sz_4, sz_5, sz_6, sz_7, sz_8, sz_9, sz_10, sz_11, sz_12, sz_13, sz_14, sz_15, sz_16, sz_17, sz_18, sz_19, sz_20, sz_21, sz_22, sz_23, sz_24, sz_25, sz_26, sz_27, sz_28, sz_29, sz_30, sz_31, sz_32, sz_33, sz_34, sz_35, sz_36, sz_37, sz_38, sz_39, sz_40, sz_41, sz_42, sz_43, sz_44, sz_45, sz_46, sz_47, sz_48, sz_49, sz_50, sz_51, sz_52, sz_53, sz_54, sz_55, sz_56, sz_57, sz_58, sz_59, sz_60, addH_ll, addH_lL, r_neg, iRg1_eq, iRg2_eq, iZp, oNo, oSome, aNil, aCons, tvB, tvAnd, tvOr, tvNot, tYesM, opM_d, snap_d, snaps_0, snaps_d, snaps_map, mkT_d1, mkT_d2, mkT_d3, mkT_d4, mkT_map, mkL_map, intA, strA, lockL, unlk_none, Fh.wipeE, itQ, kAv,
  List.map_cons, List.map_nil, bS, Option.bind_none, Option.map_some, Option.map_none, List.cons_append, List.nil_append, List.append_nil, List.replicate, List.getElem?_cons_zero, List.getElem?_cons_succ, List.set_cons_zero, List.set_cons_succ, List.length_cons, List.length_nil, Bool.false_eq_true, if_true, if_false, ite_true, ite_false, Bool.not_true, Bool.not_false, dtD_dct, getA_kD, getA_str, ixA_dct, ixA_dctS, Nat.reduceAdd, Nat.reduceSub, if_pos, Bool.true_or, Bool.or_true, Bool.true_and, Bool.and_true, Option.isSome_some, Option.isSome_none, id, vAdd, addM_int, vAddH, addH_int, addH_tup, addH_strO, vAddC, c_0, c_1, c_2, c_3, c_4, c_5, c_6, c_7, c_8, c_9, eq_self, decide_true, decide_false, Int.reduceEq, Int.reduceLT, Int.reduceLE, ist_str_non, ist_str_bl, ist_str_int, ist_str_str, ist_str_tup, ist_str_lst, ist_str_frl, ist_str_dct, ist_str_dctT, ist_int_non, ist_int_bl, ist_int_int, ist_int_str, ist_int_tup, ist_int_lst, ist_int_frl, ist_int_dct, ist_int_dctT, ist_bool_non, ist_bool_bl, ist_bool_int, ist_bool_str, ist_bool_tup, ist_bool_lst, ist_bool_frl, ist_bool_dct, ist_bool_dctT, ist_tuple_non, ist_tuple_bl, ist_tuple_int, ist_tuple_str, ist_tuple_tup, ist_tuple_lst, ist_tuple_frl, ist_tuple_dct, ist_tuple_dctT, ist_dict_non, ist_dict_bl, ist_dict_int, ist_dict_str, ist_dict_tup, ist_dict_lst, ist_dict_frl, ist_dict_dct, ist_dict_dctT, ist_list_non, ist_list_bl, ist_list_int, ist_list_str, ist_list_tup, ist_list_lst, ist_list_frl, ist_list_dct, ist_list_dctT, listH_d, listH_l, vOpT, opT_d, thaw_int, thaw_str, thaw_bl, thaw_non, thaw_tup, sh_int, sh_str, sh_bl, r_add, r_sub, r_lt, r_le, r_gt, r_ge, x_eq, x_ne, x_eq_bl, x_ne_bl, r_is_bl, r_isnt_bl, x_max, r_min, r_int_bl, r_len_frl, r_len_lst, r_len_tup, r_pur_int, r_pur_bl, r_pur_str, r_pur_non, Bool.and_false, Bool.false_or, Bool.or_false])
local macro_rules | `(tactic| wp_walk using $ts,*) => `(tactic| simp only [pureF, runB, sRet, sRetN, sNext, sBrk, sCont, sSeq, sIf, sDrop, sAsg, sSet, sPar, sPar3, sFor, sForD, sPut, gNm, gTp, gLs, gCs, gNl, itT, vVar, vC, vAnd, vOr, vNot, vIf, vOp, vIn, vIx, vGet2, vGet1, vTup, vLstF, vLstC, vCallI, vCallP, vCallT, vCB, vCBT, cbM, vDK, vDT, vLc, vLcC, vLcD, vLcDC, lcM, lcD, vMt, vMt0, vUpd, vSl, vSlC, vUn, vClear, vIsi2, vSrtI, vSrtV, gPut, vChain, vIsi, vUpper, vPop1, vDPop1, vDPop2, iAny_eq, iAnyM_lst, iAnyM_frl, iAnyM_L, iAnyM_tup, iAnyM_T, mkL_d1, mkL_d2, mkL_d3, mkL_d4, mkL_d5, mkL_d6, sz_0, sz_1, sz_2, sz_3, sz_4, sz_5, sz_6, sz_7, sz_8, sz_9, sz_10, sz_11, sz_12, sz_13, sz_14, sz_15, sz_16, sz_17, sz_18, sz_19, sz_20, sz_21, sz_22, sz_23, sz_24, sz_25, sz_26, sz_27, sz_28, sz_29, sz_30, sz_31, sz_32, sz_33, sz_34, sz_35, sz_36, sz_37, sz_38, sz_39, sz_40, sz_41, sz_42, sz_43, sz_44, sz_45, sz_46, sz_47, sz_48, sz_49, sz_50, sz_51, sz_52, sz_53, sz_54, sz_55, sz_56, sz_57, sz_58, sz_59, sz_60, addH_ll, addH_lL, r_neg, iRg1_eq, iRg2_eq, iZp, oNo, oSome, aNil, aCons, tvB, tvAnd, tvOr, tvNot, tYesM, opM_d, snap_d, snaps_0, snaps_d, snaps_map, mkT_d1, mkT_d2, mkT_d3, mkT_d4, mkT_map, mkL_map, intA, strA, lockL, unlk_none, Fh.wipeE, itQ, kAv,
  List.map_cons, List.map_nil, bS, Option.bind_none, Option.map_some, Option.map_none, List.cons_append, List.nil_append, List.append_nil, List.replicate, List.getElem?_cons_zero, List.getElem?_cons_succ, List.set_cons_zero, List.set_cons_succ, List.length_cons, List.length_nil, Bool.false_eq_true, if_true, if_false, ite_true, ite_false, Bool.not_true, Bool.not_false, dtD_dct, getA_kD, getA_str, ixA_dct, ixA_dctS, Nat.reduceAdd, Nat.reduceSub, if_pos, Bool.true_or, Bool.or_true, Bool.true_and, Bool.and_true, Option.isSome_some, Option.isSome_none, id, vAdd, addM_int, vAddH, addH_int, addH_tup, addH_strO, vAddC, c_0, c_1, c_2, c_3, c_4, c_5, c_6, c_7, c_8, c_9, eq_self, decide_true, decide_false, Int.reduceEq, Int.reduceLT, Int.reduceLE, ist_str_non, ist_str_bl, ist_str_int, ist_str_str, ist_str_tup, ist_str_lst, ist_str_frl, ist_str_dct, ist_str_dctT, ist_int_non, ist_int_bl, ist_int_int, ist_int_str, ist_int_tup, ist_int_lst, ist_int_frl, ist_int_dct, ist_int_dctT, ist_bool_non, ist_bool_bl, ist_bool_int, ist_bool_str, ist_bool_tup, ist_bool_lst, ist_bool_frl, ist_bool_dct, ist_bool_dctT, ist_tuple_non, ist_tuple_bl, ist_tuple_int, ist_tuple_str, ist_tuple_tup, ist_tuple_lst, ist_tuple_frl, ist_tuple_dct, ist_tuple_dctT, ist_dict_non, ist_dict_bl, ist_dict_int, ist_dict_str, ist_dict_tup, ist_dict_lst, ist_dict_frl, ist_dict_dct, ist_dict_dctT, ist_list_non, ist_list_bl, ist_list_int, ist_list_str, ist_list_tup, ist_list_lst, ist_list_frl, ist_list_dct, ist_list_dctT, listH_d, listH_l, vOpT, opT_d, thaw_int, thaw_str, thaw_bl, thaw_non, thaw_tup, sh_int, sh_str, sh_bl, r_add, r_sub, r_lt, r_le, r_gt, r_ge, x_eq, x_ne, x_eq_bl, x_ne_bl, r_is_bl, r_isnt_bl, x_max, r_min, r_int_bl, r_len_frl, r_len_lst, r_len_tup, r_pur_int, r_pur_bl, r_pur_str, r_pur_non, Bool.and_false, Bool.false_or, Bool.or_false, $[$ts:term],*])
theorem eq__law_cell_at {ns : List Int} {k : Nat} : P__law_cell_at [.frl ns, .int k] = some (.int (ns.getD k 0)) := by
  unfold P__law_cell_at F__law_cell_at m__law_cell_at
  walk_at "ev"
  by_cases c : (k : Int) < ns.length
  · have hk : k < ns.length := by omega
    rw [decide_eq_true c]
    walk_at "ev"
    rw [show ixA [] (.d (.frl ns)) (.d (.int (k : Int))) = some (.d (.int (ns.getD k 0))) from by
      show atI (ns.map fun n => Av.d (.int n)) (k : Int) = _
      rw [atI_nat (by rw [List.length_map]; exact hk), List.getElem_map, List.getD_eq_getElem?_getD, List.getElem?_eq_getElem hk]; rfl]
    rfl
  · have hk : ¬ k < ns.length := by omega
    rw [decide_eq_false c]
    walk_at "ev"
    rw [List.getD_eq_getElem?_getD, List.getElem?_eq_none (by omega)]; rfl
theorem eq__law_left {ns : List Int} {k : Nat} (hk : k < 2 ^ 32) : ∃ a s : Int, P__law_left [.frl ns, .int k] = some (.lst [.int a, .int s, .int 0]) ∧ 0 ≤ s ∧ s < 2147483648 := by
  unfold P__law_left F__law_left m__law_left
  walk_at "ev"
  have hm : 0 < (if (ns.length : Int) > 1 then (ns.length : Int) else 1) := by split <;> omega
  have h0 := Int.emod_nonneg (k : Int) (Int.ne_of_gt hm)
  obtain ⟨j, hj⟩ := Int.eq_ofNat_of_zero_le h0
  have b1 : ((k : Int)).natAbs < 2 ^ 40 := by omega
  have b2 : ((7919 : Int)).natAbs < 2 ^ 40 := by decide
  have b3 := wide_lt b2 b1
  have m1 := Int.emod_nonneg (ns.getD j 0) (show (2147483629 : Int) ≠ 0 by decide)
  have m2 := Int.emod_lt_of_pos (ns.getD j 0) (show (0 : Int) < 2147483629 by decide)
  have b4 := wide_lt b3 b1
  have b5 : (ns.getD j 0 % 2147483629 + 7919 * (k : Int) * k + 11).natAbs < 2 ^ 130 := by omega
  obtain ⟨g1, g2⟩ := lf_big _ rfl (ns.getD j 0)
  rw [r_mod hm, hj]
  walk_at "ev"
  rw [eq__law_cell_at]
  walk_at "ev"
  rw [r_mod (by decide), r_mul (wide_mul b2 b1 (by decide) (by decide) (by decide))]
  walk_at "ev"
  rw [r_mul (wide_mul b3 b1 (by decide) (by decide) (by decide))]
  walk_at "ev"
  rw [r_mul (wide_mul b5 (show (48271 : Int).natAbs < 2 ^ 40 by decide) (by decide) (by decide) (by decide))]
  walk_at "ev"
  rw [r_mod (by decide)]
  walk_at "ev"
  rw [r_pow (a := 10) (b := 60) (cpow_dec (by decide +kernel))]
  walk_at "ev"
  rw [r_mul (cmul_dec (by decide +kernel))]
  walk_at "ev"
  rw [r_mul (cmul_dec (by decide +kernel))]
  walk_at "ev"
  rw [r_mul (cmul_dec (by decide +kernel))]
  walk_at "ev"
  rw [r_mul (cmul_dec (by decide +kernel))]
  walk_at "ev"
  rw [r_mul (cmul_dec (by decide +kernel))]
  walk_at "ev"
  rw [r_mod g1]
  walk_at "ev"
  rw [r_pow (a := 10) (b := 18) (cpow_dec (by decide +kernel))]
  walk_at "ev"
  rw [r_mul (wide_mul g2 (show (if decide ((10 : Int) ^ Int.toNat 18 ≤ ns.getD j 0) = true then (1 : Int) else 0).natAbs < 2 ^ 10 by split <;> decide) (by decide) (by decide) (by decide))]
  walk_at "ev"
  refine ⟨_, (ns.getD j 0 % 2147483629 + 7919 * (k : Int) * k + 11) * 48271 % 2147483647, frz_new_lst (h := []) (l := [.int _, .int _, .int 0]) rfl, Int.emod_nonneg _ (by decide), Int.lt_trans (Int.emod_lt_of_pos _ (by decide)) (by decide)⟩
theorem F__law_pick_ok {n : Nat} {k : Nat} {h : AH} {m : Int} (l : Lh n k h) (hk : k < 2 ^ 59) (hm0 : 0 < m) (hm1 : m < 2 ^ 200) : ∃ (r : Nat) (h' : AH), F__law_pick [.ref n, .d (.int m)] h = some (.d (.int r), h') ∧ (r : Int) < m ∧ Lh n (k + 1) h' ∧ Ex n h h' := by
  obtain ⟨⟨a, s, c⟩, hn, h1, h2, h3, h4⟩ := l
  dsimp only at h1 h2 h3 h4
  have hn : h[n]? = some (.lv (.lst [.d (.int a), .d (.int s), .d (.int c)])) := hn
  have bm : m.natAbs < 2 ^ 200 := by omega
  have dv : ∀ x : Int, CDivW x m := fun x => wide_div hm0 bm (by decide) (by decide)
  have g0 : ∀ {h : AH} {x y z : Av}, h[n]? = some (.lv (.lst [x, y, z])) → ixA h (.ref n) (.d (.int 0)) = some x ∧ ixA h (.ref n) (.d (.int 1)) = some y ∧ ixA h (.ref n) (.d (.int 2)) = some z := fun e => ⟨ixA_at e, ixA_at e, ixA_at e⟩
  unfold F__law_pick m__law_pick
  walk_at "ev"
  rw [(g0 hn).1]
  walk_at "ev"
  by_cases c1 : (0 : Int) < a
  · rw [decide_eq_true c1]
    walk_at "ev"
    rw [(g0 hn).1]
    walk_at "ev"
    rw [r_mod hm0]
    walk_at "ev"
    rw [(g0 hn).1]
    walk_at "ev"
    rw [r_div (dv _)]
    walk_at "ev"
    rw [putA_at (j := 0) hn rfl]
    walk_at "ev"
    obtain ⟨r, hr⟩ := Int.eq_ofNat_of_zero_le (Int.emod_nonneg a (Int.ne_of_gt hm0))
    have hr2 := Int.emod_lt_of_pos a hm0
    rw [hr] at hr2 ⊢
    exact ⟨r, _, rfl, hr2, .of (z := ⟨a / m, s, c⟩) (set_get hn) h1 h2 h3 (by show c ≤ _; omega), .set⟩
  · rw [decide_eq_false c1]
    walk_at "ev"
    rw [(g0 hn).2.2]
    walk_at "ev"
    rw [putA_at (j := 2) hn rfl]
    walk_at "ev"
    have hn1 := set_get (nd' := .lv (.lst [.d (.int a), .d (.int s), .d (.int (c + 1))])) hn
    rw [(g0 hn1).2.1]
    walk_at "ev"
    have k1 : (48271 : Int).natAbs < 2 ^ 60 := by decide
    have k2 : (7919 : Int).natAbs < 2 ^ 60 := by decide
    have k3 : s.natAbs < 2 ^ 60 := by omega
    have k4 : (c + 1).natAbs < 2 ^ 62 := by omega
    rw [r_mul (wide_mul k3 k1 (by decide) (by decide) (by decide))]
    walk_at "ev"
    rw [(g0 hn1).2.2]
    walk_at "ev"
    rw [r_mul (wide_mul k2 k4 (by decide) (by decide) (by decide))]
    walk_at "ev"
    rw [r_mod (by decide)]
    walk_at "ev"
    rw [putA_at (j := 1) hn1 rfl]
    walk_at "ev"
    generalize hs2 : (s * 48271 + 12345 + 7919 * (c + 1)) % 2147483647 = s2
    have g1 : 0 ≤ s2 := by rw [← hs2]; exact Int.emod_nonneg _ (by decide)
    have g2 : s2 < 2147483647 := by rw [← hs2]; exact Int.emod_lt_of_pos _ (by decide)
    have hn2 := set_get (nd' := .lv (.lst [.d (.int a), .d (.int s2), .d (.int (c + 1))])) hn1
    rw [(g0 hn2).2.1]
    walk_at "ev"
    rw [(g0 hn2).2.1]
    walk_at "ev"
    have k5 : s2.natAbs < 2 ^ 60 := by omega
    rw [r_mul (wide_mul k5 k5 (by decide) (by decide) (by decide))]
    walk_at "ev"
    rw [r_mod (by decide)]
    walk_at "ev"
    rw [r_div (wide_div (by decide) (show (31 : Int).natAbs < 2 ^ 10 by decide) (by decide) (by decide))]
    walk_at "ev"
    rw [r_mod hm0]
    walk_at "ev"
    obtain ⟨r, hr⟩ := Int.eq_ofNat_of_zero_le (Int.emod_nonneg (s2 * s2 % 1999999973 / 31) (Int.ne_of_gt hm0))
    have hr2 := Int.emod_lt_of_pos (s2 * s2 % 1999999973 / 31) hm0
    rw [hr] at hr2 ⊢
    exact ⟨r, _, rfl, hr2, .of (z := ⟨a, s2, c + 1⟩) hn2 g1 (by show s2 < _; omega) (by show 0 ≤ c + 1; omega) (by show c + 1 ≤ _; omega), .trans .set .set⟩
/-- one of some that are written there -/
theorem pick_ix {n k : Nat} {h : AH} {ds : List Dv} (l : Lh n k h) (hk : k < 2 ^ 59) (h0 : 0 < ds.length) (h1 : ds.length < 2 ^ 60) : ∃ (r : Nat) (d : Dv) (h' : AH), F__law_pick [.ref n, .d (.int ds.length)] h = some (.d (.int r), h') ∧ ds[r]? = some d ∧ Lh n (k + 1) h' ∧ Ex n h h' := by
  obtain ⟨r, h', e1, e2, e3, e4⟩ := F__law_pick_ok (m := ds.length) l hk (by omega) (by omega)
  have hr : r < ds.length := by omega
  exact ⟨r, _, h', e1, List.getElem?_eq_getElem hr, e3, e4⟩
theorem seq_ex {m n : MS} {env e1 : Fh.Env} {h h1 : AH} {R : Option (Out × AH)} (hA : m env h = some (.nx e1, h1)) (hB : n e1 h1 = R) : sSeq m n env h = R := by
  unfold sSeq
  rw [hA]
  exact hB
theorem seq_exP {m n : MS} {env e1 : Fh.Env} {h h1 : AH} {P : Fh.Env → AH → Prop} (hA : m env h = some (.nx e1, h1)) (hB : ∃ e2 h2, n e1 h1 = some (.nx e2, h2) ∧ P e2 h2) : ∃ e2 h2, sSeq m n env h = some (.nx e2, h2) ∧ P e2 h2 := by
  obtain ⟨e2, h2, h3, h4⟩ := hB
  exact ⟨e2, h2, seq_ex hA h3, h4⟩
def PRw : List Str := ["behind", "elder", "own", "row"]
def goodL : List (List Str) := PRw.foldl (fun acc x => acc ++ acc.map (· ++ [x])) [[]]
def oddL : List Dv := [.str "rows", .str "", .str "Row", .str "elder ", .str "behindx", .non, .bl true, .int 0, .tup [.str "row"], .lst [.str "own"]]
def isB (o : Option Dv) (b : Bool) : Bool := match o with
  | some (.bl c) => c == b
  | _ => false
theorem isB_ok {o : Option Dv} {b : Bool} (h : isB o b = true) : o = some (.bl b) := by
  unfold isB at h
  split at h
  · rw [eq_of_beq h]
  · cases h
def sameS : List Dv → List Str → Bool
  | [], [] => true
  | .str a :: es, b :: bs => decide (a = b) && sameS es bs
  | _, _ => false
def goodB (es : List Dv) : Bool := decide ((goodL.filter (sameS es)).length = 1)
def okT (es : List Dv) : Bool := isB (P_is_asks [.tup es]) (goodB es) && goodL.all fun g => isB (eqX (.tup (g.map .str)) (.tup es)) (sameS es g)
def ntB (d : Dv) : Bool := isB (P_is_asks [d]) false && isB ((isT "tuple" d).map .bl) false
def c0 (L : List Str) (at_ : Nat) (od : Dv) : List Dv := ((L.take at_).map .str ++ [od]) ++ (L.drop at_).map .str
def c5 (L : List Str) (at_ : Nat) (wd : Str) : List Dv := ((L.take at_).map .str ++ [.str wd]) ++ (L.drop (at_ + 1)).map .str
def jn (L : List Str) : Bool := decide ((L.map (·.length)).sum + L.length * (" " : Str).length ≤ 16777216)
theorem ok_0 : (goodL.all fun L => (List.range (L.length + 1)).all fun a => oddL.all fun od => okT (c0 L a od)) = true := by decide +kernel
theorem ok_1 : (goodL.all fun L => (List.range (L.length + 1)).all fun a => PRw.all fun wd => okT (c0 L a (.str wd)) && okT (c5 L a wd)) = true := by decide +kernel
theorem ok_4 : (goodL.all fun L => (List.range (L.length + 1)).all fun a => okT ((L.drop a).map .str)) = true := by decide +kernel
theorem ok_L : (goodL.all fun L => okT (L.map .str) && (okT (L.map .str).reverse && (okT (L.map .str ++ (L.take 1).map .str) && (okT [.tup (L.map .str)] && (ntB (.lst (L.map .str)) && (ntB (.bl (decide (L.length = 1))) && (ntB (.str (Txt.join " " L)) && (jn L && decide (L.length ≤ 4))))))))) = true := by decide +kernel
/-- a thing that is told right -/
def ThOk (d : Dv) : Prop := (∃ es, d = .tup es ∧ okT es = true) ∨ ntB d = true
theorem spoil_ok {L : List Str} (hL : L ∈ goodL) {a : Nat} (ha : a ≤ L.length) {od : Dv} (ho : od ∈ oddL) {wd : Str} (hw : wd ∈ PRw) : ∀ d ∈ ([.tup (c0 L a od), .tup (c0 L a (.str wd)), .tup (L.map .str).reverse, .tup (L.map .str ++ (L.take 1).map .str), .tup ((L.drop a).map .str), .tup (c5 L a wd), .lst (L.map .str), .bl (decide (L.length = 1)), .str (Txt.join " " L), .tup [.tup (L.map .str)]] : List Dv), ThOk d := by
  have ar : a ∈ List.range (L.length + 1) := List.mem_range.mpr (by omega)
  have h0 := List.all_eq_true.mp (List.all_eq_true.mp (List.all_eq_true.mp ok_0 L hL) a ar) od ho
  have h1 := (Bool.and_eq_true _ _).mp (List.all_eq_true.mp (List.all_eq_true.mp (List.all_eq_true.mp ok_1 L hL) a ar) wd hw)
  have h4 := List.all_eq_true.mp (List.all_eq_true.mp ok_4 L hL) a ar
  have k0 := (Bool.and_eq_true _ _).mp (List.all_eq_true.mp ok_L L hL)
  have k1 := (Bool.and_eq_true _ _).mp k0.2
  have k2 := (Bool.and_eq_true _ _).mp k1.2
  have k3 := (Bool.and_eq_true _ _).mp k2.2
  have k4 := (Bool.and_eq_true _ _).mp k3.2
  have k5 := (Bool.and_eq_true _ _).mp k4.2
  have k6 := (Bool.and_eq_true _ _).mp k5.2
  intro d hd
  simp only [List.mem_cons, List.not_mem_nil, or_false] at hd
  rcases hd with rfl | rfl | rfl | rfl | rfl | rfl | rfl | rfl | rfl | rfl
  · exact .inl ⟨_, rfl, h0⟩
  · exact .inl ⟨_, rfl, h1.1⟩
  · exact .inl ⟨_, rfl, k1.1⟩
  · exact .inl ⟨_, rfl, k2.1⟩
  · exact .inl ⟨_, rfl, h4⟩
  · exact .inl ⟨_, rfl, h1.2⟩
  · exact .inr k4.1
  · exact .inr k5.1
  · exact .inr k6.1
  · exact .inl ⟨_, rfl, k3.1⟩
theorem addT {a b : List Dv} {G : AH} (h : a.length + b.length ≤ 100) : addX (.d (.tup a)) (.d (.tup b)) G = some (.d (.tup (a ++ b)), G) := by
  have e : addX (.d (.tup a)) (.d (.tup b)) G = if (a.map Av.d).length + (b.map Av.d).length ≤ sizeLine then some (mkT (a.map Av.d ++ b.map Av.d), G) else none := rfl
  rw [e, if_pos (le_sz (by rw [List.length_map, List.length_map]; omega)), ← List.map_append, mkT_map]
theorem addLs {a b : List Dv} {G : AH} (h : a.length + b.length ≤ 100) : addX (.d (.lst a)) (.d (.lst b)) G = some (.d (.lst (a ++ b)), G) := by
  have e : addX (.d (.lst a)) (.d (.lst b)) G = addH (.d (.lst a)) (.d (.lst b)) G := rfl
  rw [e, addH_L listH_d listH_d (le_sz (by rw [List.length_map, List.length_map]; omega)), ← List.map_append, mkL_map]
theorem slTk {L : List Str} {a : Nat} {G : AH} : slF G (.d (.tup (L.map .str))) none (some (a : Int)) = some (.d (.tup ((L.take a).map .str))) := by
  have e : slF G (.d (.tup (L.map .str))) none (some (a : Int)) = some (mkT (cutA ((L.map Dv.str).map Av.d) none (some (a : Int)))) := rfl
  rw [e, cutA_take, ← List.map_take, ← List.map_take, mkT_map]
theorem slDr {L : List Str} {a : Nat} {G : AH} : slF G (.d (.tup (L.map .str))) (some (a : Int)) none = some (.d (.tup ((L.drop a).map .str))) := by
  have e : slF G (.d (.tup (L.map .str))) (some (a : Int)) none = some (mkT (cutA ((L.map Dv.str).map Av.d) (some (a : Int)) none)) := rfl
  rw [e, cutA_drop, ← List.map_drop, ← List.map_drop, mkT_map]
theorem strAs : ∀ {L : List Str}, mapO strA ((L.map Dv.str).map Av.d) = some L
  | [] => rfl
  | x :: L => by
    rw [List.map_cons, List.map_cons, mapO, strAs]; rfl
theorem F__law_spoilt_ok {n k : Nat} {h : AH} {L : List Str} (l : Lh n k h) (hk : k < 2 ^ 40) (hL : L ∈ goodL) : ∃ d g, F__law_spoilt [.ref n, .d (.tup (L.map .str))] h = some (.d d, g) ∧ ThOk d ∧ Lh n (k + 4) g ∧ Ex n h g := by
  have k0 := (Bool.and_eq_true _ _).mp (List.all_eq_true.mp ok_L L hL)
  have k1 := (Bool.and_eq_true _ _).mp k0.2
  have k2 := (Bool.and_eq_true _ _).mp k1.2
  have k3 := (Bool.and_eq_true _ _).mp k2.2
  have k4 := (Bool.and_eq_true _ _).mp k3.2
  have k5 := (Bool.and_eq_true _ _).mp k4.2
  have k6 := (Bool.and_eq_true _ _).mp k5.2
  have k7 := (Bool.and_eq_true _ _).mp k6.2
  have hz := of_decide_eq_true k7.1
  have ll : L.length ≤ 4 := of_decide_eq_true k7.2
  have sn : ∀ G, mapO (snap 8 G) [.d (.tup (L.map .str))] = some [.tup (L.map .str)] := fun G => by rw [mapO, snap_d]; rfl
  have ad1 : ∀ G, addX (.d (.int (L.length : Int))) (.d (.int 1)) G = some (.d (.int ((L.length + 1 : Nat) : Int)), G) := fun G => rfl
  obtain ⟨a, g1, e1, ha, l1, x1⟩ := F__law_pick_ok (m := ((L.length + 1 : Nat) : Int)) l (by omega) (by omega) (by omega)
  obtain ⟨r2, g2, e2, hr2, l2, x2⟩ := F__law_pick_ok (m := 10) l1 (by omega) (by omega) (by omega)
  obtain ⟨r3, g3, e3, hr3, l3, x3⟩ := F__law_pick_ok (m := 4) l2 (by omega) (by omega) (by omega)
  obtain ⟨r4, g4, e4, hr4, l4, x4⟩ := F__law_pick_ok (m := 10) l3 (by omega) (by omega) (by omega)
  have ha : a ≤ L.length := by omega
  obtain ⟨od, ho, i2⟩ : ∃ od ∈ oddL, ixA g2 (.d (.lst [.str "rows", .str "", .str "Row", .str "elder ", .str "behindx", .non, .bl true, .int 0, .tup [.str "row"], .lst [.str "own"]])) (.d (.int (r2 : Int))) = some (.d od) := by
    have hr : r2 < oddL.length := by show r2 < 10; omega
    refine ⟨oddL[r2], List.getElem_mem hr, ?_⟩
    have e : ixA g2 (.d (.lst oddL)) (.d (.int (r2 : Int))) = L2.atI (oddL.map Av.d) (r2 : Int) := rfl
    exact e.trans (by rw [Fh.atI_nat (by rw [List.length_map]; exact hr), List.getElem_map])
  obtain ⟨wd, hw, i3⟩ : ∃ wd ∈ PRw, ixA g3 (.d (.tup [.str "behind", .str "elder", .str "own", .str "row"])) (.d (.int (r3 : Int))) = some (.d (.str wd)) := by
    have hr : r3 < PRw.length := by show r3 < 4; omega
    refine ⟨PRw[r3], List.getElem_mem hr, ?_⟩
    have e : ixA g3 (.d (.tup (PRw.map .str))) (.d (.int (r3 : Int))) = L2.atI ((PRw.map Dv.str).map Av.d) (r3 : Int) := rfl
    exact e.trans (by rw [Fh.atI_nat (by rw [List.length_map, List.length_map]; exact hr), List.getElem_map, List.getElem_map])
  have sp := spoil_ok hL ha ho hw
  have hA : (sSet 2 (vCallI F__law_pick (aCons (vVar 0) (aCons (vAddX (vCB true lenD (aCons (vVar 1) aNil)) (vC (.int 1))) aNil)))) [some (.ref n), some (.d (.tup (L.map .str))), none, none, none, none] h = some (.nx [some (.ref n), some (.d (.tup (L.map .str))), some (.d (.int (a : Int))), none, none, none], g1) := by wp_walk using vAddX, sn, List.length_map, ad1, e1
  have m10 : ∀ a b c d e f g h i j : Dv, mkL [.d a, .d b, .d c, .d d, .d e, .d f, .d g, .d h, .d i, .d j] = .d (.lst [a, b, c, d, e, f, g, h, i, j]) := fun _ _ _ _ _ _ _ _ _ _ => rfl
  have hB : (sSet 3 (vIx (vLstF (aCons (vC (.str "rows")) (aCons (vC (.str "")) (aCons (vC (.str "Row")) (aCons (vC (.str "elder ")) (aCons (vC (.str "behindx")) (aCons (vC .non) (aCons (vC (.bl true)) (aCons (vC (.int 0)) (aCons (vTup (aCons (vC (.str "row")) aNil)) (aCons (vLstF (aCons (vC (.str "own")) aNil)) aNil))))))))))) (vCallI F__law_pick (aCons (vVar 0) (aCons (vC (.int 10)) aNil))))) [some (.ref n), some (.d (.tup (L.map .str))), some (.d (.int (a : Int))), none, none, none] g1 = some (.nx [some (.ref n), some (.d (.tup (L.map .str))), some (.d (.int (a : Int))), some (.d od), none, none], g2) := by wp_walk using m10, e2, i2
  have hC : (sSet 4 (vIx (vTup (aCons (vC (.str "behind")) (aCons (vC (.str "elder")) (aCons (vC (.str "own")) (aCons (vC (.str "row")) aNil))))) (vCallI F__law_pick (aCons (vVar 0) (aCons (vC (.int 4)) aNil))))) [some (.ref n), some (.d (.tup (L.map .str))), some (.d (.int (a : Int))), some (.d od), none, none] g2 = some (.nx [some (.ref n), some (.d (.tup (L.map .str))), some (.d (.int (a : Int))), some (.d od), some (.d (.str wd)), none], g3) := by wp_walk using e3, i3
  have iT : itT (.d (.tup (L.map .str))) = some ((L.map Dv.str).map .d) := rfl
  have s1 := fun G => slTk (L := L) (a := a) (G := G)
  have s2 := fun G => slDr (L := L) (a := a) (G := G)
  have s3 := fun G => slTk (L := L) (a := 1) (G := G)
  have s4 := fun G => slDr (L := L) (a := a + 1) (G := G)
  have s3 : ∀ G, slF G (.d (.tup (L.map .str))) none (some 1) = some (.d (.tup ((L.take 1).map .str))) := s3
  have tl : (L.take a).length ≤ 4 := by rw [List.length_take]; omega
  have dl : (L.drop a).length ≤ 4 := by rw [List.length_drop]; omega
  have dl2 : (L.drop (a + 1)).length ≤ 4 := by rw [List.length_drop]; omega
  have tl1 : (L.take 1).length ≤ 4 := by rw [List.length_take]; omega
  have t1 : ∀ (o : Dv) (G : AH), addX (.d (.tup ((L.take a).map .str))) (.d (.tup [o])) G = some (.d (.tup ((L.take a).map .str ++ [o])), G) := fun o G => addT (by rw [List.length_map]; show _ + 1 ≤ 100; omega)
  have t2 : ∀ (o : Dv) (G : AH), addX (.d (.tup ((L.take a).map .str ++ [o]))) (.d (.tup ((L.drop a).map .str))) G = some (.d (.tup (c0 L a o)), G) := fun o G => addT (by rw [List.length_append, List.length_map, List.length_map]; show _ + 1 + _ ≤ 100; omega)
  have t3 : ∀ (G : AH), addX (.d (.tup ((L.take a).map .str ++ [.str wd]))) (.d (.tup ((L.drop (a + 1)).map .str))) G = some (.d (.tup (c5 L a wd)), G) := fun G => addT (by rw [List.length_append, List.length_map, List.length_map]; show _ + 1 + _ ≤ 100; omega)
  have t4 : ∀ (G : AH), addX (.d (.tup (L.map .str))) (.d (.tup ((L.take 1).map .str))) G = some (.d (.tup (L.map .str ++ (L.take 1).map .str)), G) := fun G => addT (by rw [List.length_map, List.length_map]; omega)
  have rv : mkT (((L.map Dv.str).map Av.d).reverse) = .d (.tup (L.map .str).reverse) := by rw [← List.map_reverse, mkT_map]
  have hD : (sSet 5 (vLstF (aCons (vAddX (vAddX (vSl (vVar 1) oNo (oSome (vVar 2))) (vTup (aCons (vVar 3) aNil))) (vSl (vVar 1) (oSome (vVar 2)) oNo)) (aCons (vAddX (vAddX (vSl (vVar 1) oNo (oSome (vVar 2))) (vTup (aCons (vVar 4) aNil))) (vSl (vVar 1) (oSome (vVar 2)) oNo)) (aCons (vRevT (vVar 1)) (aCons (vAddX (vVar 1) (vSl (vVar 1) oNo (oSome (vC (.int 1))))) (aCons (vSl (vVar 1) (oSome (vVar 2)) oNo) aNil))))))) [some (.ref n), some (.d (.tup (L.map .str))), some (.d (.int (a : Int))), some (.d od), some (.d (.str wd)), none] g3 = some (.nx [some (.ref n), some (.d (.tup (L.map .str))), some (.d (.int (a : Int))), some (.d od), some (.d (.str wd)), some (.d (.lst [.tup (c0 L a od), .tup (c0 L a (.str wd)), .tup (L.map .str).reverse, .tup (L.map .str ++ (L.take 1).map .str), .tup ((L.drop a).map .str)]))], g3) := by
    wp_walk using vAddX, vSl, oNo, oSome, intA, s1, t1, t2, s2, vRevT, rv, s3, t4
  have ad2 : ∀ G, addX (.d (.int (a : Int))) (.d (.int 1)) G = some (.d (.int ((a + 1 : Nat) : Int)), G) := fun G => rfl
  have lx : listX [.tup (L.map .str)] = some (.lst (L.map .str)) := x_list_tup
  have pS : Dv.purs (L.map .str) = true := by
    rw [Fd.purs_all]
    refine List.all_eq_true.mpr fun d hd => ?_
    obtain ⟨y, _, rfl⟩ := List.mem_map.mp hd
    rfl
  have sh : (Dv.lst (L.map .str)).sh = true := pS
  have pu : (Dv.lst (L.map .str)).pur = false := rfl
  have q1 : eqX (.int (L.length : Int)) (.int 1) = some (.bl (decide (L.length = 1))) := by
    rw [x_eqE okE_int okE_int, same_int]
    exact congrArg (fun b => some (Dv.bl b)) (by
      by_cases c : L.length = 1
      · rw [decide_eq_true c, decide_eq_true (by omega)]
      · rw [decide_eq_false c, decide_eq_false (by omega)])
  have ixX : ∀ G, itX G (.d (.tup (L.map .str))) = some ((L.map Dv.str).map .d) := fun _ => rfl
  have sA : strA (.d (.str " ")) = some " " := rfl
  have ad3 : ∀ G, addX (.d (.lst [.tup (c0 L a od), .tup (c0 L a (.str wd)), .tup (L.map .str).reverse, .tup (L.map .str ++ (L.take 1).map .str), .tup ((L.drop a).map .str)])) (.d (.lst [.tup (c5 L a wd), .lst (L.map .str), .bl (decide (L.length = 1)), .str (Txt.join " " L), .tup [.tup (L.map .str)]])) G = some (.d (.lst [.tup (c0 L a od), .tup (c0 L a (.str wd)), .tup (L.map .str).reverse, .tup (L.map .str ++ (L.take 1).map .str), .tup ((L.drop a).map .str), .tup (c5 L a wd), .lst (L.map .str), .bl (decide (L.length = 1)), .str (Txt.join " " L), .tup [.tup (L.map .str)]]), G) := fun G => addLs (by show 5 + 5 ≤ 100; decide)
  have hE : (sSet 5 (vAddX (vVar 5) (vLstF (aCons (vAddX (vAddX (vSl (vVar 1) oNo (oSome (vVar 2))) (vTup (aCons (vVar 4) aNil))) (vSl (vVar 1) (oSome (vAddX (vVar 2) (vC (.int 1)))) oNo)) (aCons (vCB true listX (aCons (vVar 1) aNil)) (aCons (vOp true eqX (vCB true lenD (aCons (vVar 1) aNil)) (vC (.int 1))) (aCons (vJoin (vC (.str " ")) (vVar 1)) (aCons (vTup (aCons (vVar 1) aNil)) aNil)))))))) [some (.ref n), some (.d (.tup (L.map .str))), some (.d (.int (a : Int))), some (.d od), some (.d (.str wd)), some (.d (.lst [.tup (c0 L a od), .tup (c0 L a (.str wd)), .tup (L.map .str).reverse, .tup (L.map .str ++ (L.take 1).map .str), .tup ((L.drop a).map .str)]))] g3 = some (.nx [some (.ref n), some (.d (.tup (L.map .str))), some (.d (.int (a : Int))), some (.d od), some (.d (.str wd)), some (.d (.lst [.tup (c0 L a od), .tup (c0 L a (.str wd)), .tup (L.map .str).reverse, .tup (L.map .str ++ (L.take 1).map .str), .tup ((L.drop a).map .str), .tup (c5 L a wd), .lst (L.map .str), .bl (decide (L.length = 1)), .str (Txt.join " " L), .tup [.tup (L.map .str)]]))], g3) := by
    wp_walk using vAddX, vSl, oNo, oSome, intA, s1, t1, ad2, s4, t3, sn, lx, sh, pu, List.length_map, q1, vJoin, sA, ixX, strAs, if_pos hz, ad3
  obtain ⟨d, hd, i5⟩ : ∃ d ∈ ([.tup (c0 L a od), .tup (c0 L a (.str wd)), .tup (L.map .str).reverse, .tup (L.map .str ++ (L.take 1).map .str), .tup ((L.drop a).map .str), .tup (c5 L a wd), .lst (L.map .str), .bl (decide (L.length = 1)), .str (Txt.join " " L), .tup [.tup (L.map .str)]] : List Dv), ixA g4 (.d (.lst [.tup (c0 L a od), .tup (c0 L a (.str wd)), .tup (L.map .str).reverse, .tup (L.map .str ++ (L.take 1).map .str), .tup ((L.drop a).map .str), .tup (c5 L a wd), .lst (L.map .str), .bl (decide (L.length = 1)), .str (Txt.join " " L), .tup [.tup (L.map .str)]])) (.d (.int (r4 : Int))) = some (.d d) := by
    generalize hS : ([.tup (c0 L a od), .tup (c0 L a (.str wd)), .tup (L.map .str).reverse, .tup (L.map .str ++ (L.take 1).map .str), .tup ((L.drop a).map .str), .tup (c5 L a wd), .lst (L.map .str), .bl (decide (L.length = 1)), .str (Txt.join " " L), .tup [.tup (L.map .str)]] : List Dv) = S
    have hr : r4 < S.length := by rw [← hS]; show r4 < 10; omega
    refine ⟨S[r4], List.getElem_mem hr, ?_⟩
    have e : ixA g4 (.d (.lst S)) (.d (.int (r4 : Int))) = L2.atI (S.map Av.d) (r4 : Int) := rfl
    exact e.trans (by rw [Fh.atI_nat (by rw [List.length_map]; exact hr), List.getElem_map])
  have hF : (sRet (vIx (vVar 5) (vCallI F__law_pick (aCons (vVar 0) (aCons (vC (.int 10)) aNil))))) [some (.ref n), some (.d (.tup (L.map .str))), some (.d (.int (a : Int))), some (.d od), some (.d (.str wd)), some (.d (.lst [.tup (c0 L a od), .tup (c0 L a (.str wd)), .tup (L.map .str).reverse, .tup (L.map .str ++ (L.take 1).map .str), .tup ((L.drop a).map .str), .tup (c5 L a wd), .lst (L.map .str), .bl (decide (L.length = 1)), .str (Txt.join " " L), .tup [.tup (L.map .str)]]))] g3 = some (.rt (.d d), g4) := by wp_walk using e4, i5
  refine ⟨d, g4, ?_, sp d hd, l4.mono (by omega), ((x1.trans x2).trans x3).trans x4⟩
  show (m__law_spoilt [some (.ref n), some (.d (.tup (L.map .str))), none, none, none, none] h).bind _ = _
  unfold m__law_spoilt
  rw [seq_ex hA (seq_ex hB (seq_ex hC (seq_ex hD (seq_ex hE hF))))]
  rfl
def GL : List Dv := goodL.map fun L => .tup (L.map .str)
theorem all_eq : P__law_all [] = some (.lst GL) := by kernel_rfl
theorem good_1 : (goodL.all fun L => goodB (L.map .str)) = true := by decide +kernel
theorem asks_good {L : List Str} (hL : L ∈ goodL) : P_is_asks [.tup (L.map .str)] = some (.bl true) := by
  have k0 := (Bool.and_eq_true _ _).mp (List.all_eq_true.mp ok_L L hL)
  have k1 := isB_ok ((Bool.and_eq_true _ _).mp k0.1).1
  rw [List.all_eq_true.mp good_1 L hL] at k1
  exact k1
theorem GL_pur : Dv.purs GL = true := by decide +kernel
theorem isnt_b {a b : Bool} : isD true (.bl a) (.bl b) = some (.bl (!decide (a = b))) := rfl
theorem law_holds (ns : List Int) (hl : ns.length ≤ 63) : ∃ h', F_law [.d (.frl ns)] [] = some (.d (.bl true), h') := by
  have th := thaw_lst (l := GL) (h := []) GL_pur
  have th : thaw (.lst GL) [] = some (.ref 0, [.lv (.lst (GL.map .d))]) := th
  have hA : (sSet 1 (vCallT P__law_all aNil)) [some (.d (.frl ns)), none, none, none, none, none, none, none, none] [] = some (.nx [some (.d (.frl ns)), some (.ref 0), none, none, none, none, none, none, none], [.lv (.lst (GL.map .d))]) := by
    wp_walk using all_eq, th
  have lvA : ([Nd.lv (.lst (GL.map Av.d))] : AH)[0]? = some (.lv (.lst (GL.map .d))) := rfl
  have hB : ∃ z2, (sFor (iAny (vVar 1)) (gNm 2) (sIf (tvB (vOp true (isD true) (vCallP P_is_asks (aCons (vVar 2) aNil)) (vC (.bl true)))) (sRet (vC (.bl false))) sNext)) [some (.d (.frl ns)), some (.ref 0), none, none, none, none, none, none, none] [.lv (.lst (GL.map .d))] = some (.nx [some (.d (.frl ns)), some (.ref 0), z2, none, none, none, none, none, none], [.lv (.lst (GL.map .d))]) := by
    have lk : ([Nd.lv (.lst (GL.map Av.d))] : AH).set 0 (.lk (.lst (GL.map .d))) = [.lk (.lst (GL.map .d))] := rfl
    have ul : unlk (some 0) ([Nd.lk (.lst (GL.map Av.d))] : AH) = [.lv (.lst (GL.map .d))] := rfl
    wp_walk using iAny_eq, iAnyM_at lvA, lk
    generalize hr : runFor _ _ _ _ _ = rr
    obtain ⟨e', h3, rfl, ⟨z2, rfl⟩, rfl⟩ := runFor_use2 hr (fun i env g => (∃ z2, env = [some (.d (.frl ns)), some (.ref 0), z2, none, none, none, none, none, none]) ∧ g = [.lk (.lst (GL.map .d))]) ⟨⟨_, rfl⟩, rfl⟩ (by
      rintro i x env g hx ⟨⟨z2, rfl⟩, rfl⟩
      obtain ⟨d, hd, rfl⟩ := map_of_get hx
      obtain ⟨L, hL, rfl⟩ := List.mem_map.mp (List.mem_of_getElem? hd)
      have sn : mapO (snap 8 [Nd.lk (.lst (GL.map .d))]) [.d (.tup (L.map .str))] = some [.tup (L.map .str)] := by rw [mapO, snap_d]; rfl
      refine ⟨_, _, rfl, [some (.d (.frl ns)), some (.ref 0), some (.d (.tup (L.map .str))), none, none, none, none, none, none], _, ?_, ⟨_, rfl⟩, rfl⟩
      wp_walk using sn, asks_good hL, isnt_b)
    refine ⟨z2, ?_⟩
    wp_walk using ul
  obtain ⟨z2, hB⟩ := hB
  have g2l : ∃ z3, (sFor (iAny (vTup (aCons (vC .non) (aCons (vC (.bl true)) (aCons (vC (.bl false)) (aCons (vC (.int 0)) (aCons (vC (.int 7)) (aCons (vC (.str "")) (aCons (vC (.str "own")) (aCons (vC (.str "row")) (aCons (vLstF aNil) (aCons vDK (aCons (vLstF (aCons (vC (.str "own")) aNil)) (aCons (vDisp [((vC (.str "own")), (vC (.int 1)))]) (aCons (vTup (aCons (vC .non) aNil)) (aCons (vTup (aCons (vC (.int 0)) aNil)) (aCons (vTup (aCons (vTup aNil) aNil)) (aCons (vTup (aCons (vC (.str "")) aNil)) aNil)))))))))))))))))) (gNm 3) (sIf (tvB (vOp true (isD true) (vCallP P_is_asks (aCons (vVar 3) aNil)) (vC (.bl false)))) (sRet (vC (.bl false))) sNext)) [some (.d (.frl ns)), some (.ref 0), z2, none, none, none, none, none, none] [.lv (.lst (GL.map .d))] = some (.nx [some (.d (.frl ns)), some (.ref 0), z2, z3, none, none, none, none, none], [.lv (.lst (GL.map .d)), .lv (.dK []), .lv (.dK [(.inr "own", .d (.int 1))])]) := by
    have mk0 : mkT [] = .d (.tup []) := rfl
    have mkl0 : mkL [] = .d (.lst []) := rfl
    have mk16 : mkT [.d .non, .d (.bl true), .d (.bl false), .d (.int 0), .d (.int 7), .d (.str ""), .d (.str "own"), .d (.str "row"), .d (.lst []), .ref 1, .d (.lst [.str "own"]), .ref 2, .d (.tup [.non]), .d (.tup [.int 0]), .d (.tup [.tup []]), .d (.tup [.str ""])] = .tup [.d .non, .d (.bl true), .d (.bl false), .d (.int 0), .d (.int 7), .d (.str ""), .d (.str "own"), .d (.str "row"), .d (.lst []), .ref 1, .d (.lst [.str "own"]), .ref 2, .d (.tup [.non]), .d (.tup [.int 0]), .d (.tup [.tup []]), .d (.tup [.str ""])] := rfl
    have dk : ∀ env : Fh.Env, vDK env [.lv (.lst (GL.map .d))] = some (.ref 1, [.lv (.lst (GL.map .d)), .lv (.dK [])]) := fun _ => rfl
    have dp : ∀ env : Fh.Env, vDisp [((vC (.str "own")), (vC (.int 1)))] env [.lv (.lst (GL.map .d)), .lv (.dK [])] = some (.ref 2, [.lv (.lst (GL.map .d)), .lv (.dK []), .lv (.dK [(.inr "own", .d (.int 1))])]) := fun _ => rfl
    have d1 : dAt [.lv (.lst (GL.map .d)), .lv (.dK []), .lv (.dK [(.inr "own", .d (.int 1))])] 1 [] := rfl
    have d2 : dAt [.lv (.lst (GL.map .d)), .lv (.dK []), .lv (.dK [(.inr "own", .d (.int 1))])] 2 [(.inr "own", .int 1)] := rfl
    have hTx : (vTup (aCons (vC .non) (aCons (vC (.bl true)) (aCons (vC (.bl false)) (aCons (vC (.int 0)) (aCons (vC (.int 7)) (aCons (vC (.str "")) (aCons (vC (.str "own")) (aCons (vC (.str "row")) (aCons (vLstF aNil) (aCons vDK (aCons (vLstF (aCons (vC (.str "own")) aNil)) (aCons (vDisp [((vC (.str "own")), (vC (.int 1)))]) (aCons (vTup (aCons (vC .non) aNil)) (aCons (vTup (aCons (vC (.int 0)) aNil)) (aCons (vTup (aCons (vTup aNil) aNil)) (aCons (vTup (aCons (vC (.str "")) aNil)) aNil))))))))))))))))) [some (.d (.frl ns)), some (.ref 0), z2, none, none, none, none, none, none] [.lv (.lst (GL.map .d))] = some (.tup [.d .non, .d (.bl true), .d (.bl false), .d (.int 0), .d (.int 7), .d (.str ""), .d (.str "own"), .d (.str "row"), .d (.lst []), .ref 1, .d (.lst [.str "own"]), .ref 2, .d (.tup [.non]), .d (.tup [.int 0]), .d (.tup [.tup []]), .d (.tup [.str ""])], [.lv (.lst (GL.map .d)), .lv (.dK []), .lv (.dK [(.inr "own", .d (.int 1))])]) := by
      have sz16 : 16 ≤ sizeLine := by decide
      have dk' := dk [some (.d (.frl ns)), some (.ref 0), z2, none, none, none, none, none, none]
      have dp' := dp [some (.d (.frl ns)), some (.ref 0), z2, none, none, none, none, none, none]
      generalize hD1 : vDK = V1 at dk'
      generalize hD2 : vDisp [((vC (.str "own")), (vC (.int 1)))] = V2 at dp'
      wp_walk using mk0, mkl0, dk', dp', sz16, mk16
    generalize ([.lv (.lst (GL.map .d)), .lv (.dK []), .lv (.dK [(.inr "own", .d (.int 1))])] : AH) = H2 at d1 d2 hTx
    generalize hTU : (vTup (aCons (vC .non) (aCons (vC (.bl true)) (aCons (vC (.bl false)) (aCons (vC (.int 0)) (aCons (vC (.int 7)) (aCons (vC (.str "")) (aCons (vC (.str "own")) (aCons (vC (.str "row")) (aCons (vLstF aNil) (aCons vDK (aCons (vLstF (aCons (vC (.str "own")) aNil)) (aCons (vDisp [((vC (.str "own")), (vC (.int 1)))]) (aCons (vTup (aCons (vC .non) aNil)) (aCons (vTup (aCons (vC (.int 0)) aNil)) (aCons (vTup (aCons (vTup aNil) aNil)) (aCons (vTup (aCons (vC (.str "")) aNil)) aNil))))))))))))))))) = TU at hTx
    wp_walk using iAny_eq, hTx, iAnyM_T
    generalize hr : runFor _ _ _ _ _ = rr
    obtain ⟨e', h3, rfl, ⟨z3, rfl⟩, rfl⟩ := runFor_use2 hr (fun i env g => (∃ z3, env = [some (.d (.frl ns)), some (.ref 0), z2, z3, none, none, none, none, none]) ∧ g = H2) ⟨⟨_, rfl⟩, rfl⟩ (by
      rintro i x env g hx ⟨⟨z3, rfl⟩, rfl⟩
      obtain ⟨d, sn, pd⟩ : ∃ d, mapO (snap 8 g) [x] = some [d] ∧ P_is_asks [d] = some (.bl false) := by
        have one : ∀ d : Dv, mapO (snap 8 g) [.d d] = some [d] := fun d => by rw [mapO, snap_d]; rfl
        have hm := List.mem_of_getElem? hx
        simp only [List.mem_cons, List.not_mem_nil, or_false] at hm
        rcases hm with rfl | rfl | rfl | rfl | rfl | rfl | rfl | rfl | rfl | rfl | rfl | rfl | rfl | rfl | rfl | rfl
        · exact ⟨_, one _, isB_ok (by decide +kernel)⟩
        · exact ⟨_, one _, isB_ok (by decide +kernel)⟩
        · exact ⟨_, one _, isB_ok (by decide +kernel)⟩
        · exact ⟨_, one _, isB_ok (by decide +kernel)⟩
        · exact ⟨_, one _, isB_ok (by decide +kernel)⟩
        · exact ⟨_, one _, isB_ok (by decide +kernel)⟩
        · exact ⟨_, one _, isB_ok (by decide +kernel)⟩
        · exact ⟨_, one _, isB_ok (by decide +kernel)⟩
        · exact ⟨_, one _, isB_ok (by decide +kernel)⟩
        · exact ⟨.dct [], by rw [mapO, snap_dAt d1]; rfl, isB_ok (by decide +kernel)⟩
        · exact ⟨_, one _, isB_ok (by decide +kernel)⟩
        · exact ⟨.dct [(.inr "own", .int 1)], by rw [mapO, snap_dAt d2]; rfl, isB_ok (by decide +kernel)⟩
        · exact ⟨_, one _, isB_ok (by decide +kernel)⟩
        · exact ⟨_, one _, isB_ok (by decide +kernel)⟩
        · exact ⟨_, one _, isB_ok (by decide +kernel)⟩
        · exact ⟨_, one _, isB_ok (by decide +kernel)⟩
      refine ⟨_, _, rfl, [some (.d (.frl ns)), some (.ref 0), z2, some x, none, none, none, none, none], _, ?_, ⟨_, rfl⟩, rfl⟩
      wp_walk using sn, pd, isnt_b)
    exact ⟨z3, rfl⟩
  obtain ⟨z3, hC⟩ := g2l
  have lvB : lAt [.lv (.lst (GL.map .d)), .lv (.dK []), .lv (.dK [(.inr "own", .d (.int 1))])] 0 GL := rfl
  generalize ([.lv (.lst (GL.map .d)), .lv (.dK []), .lv (.dK [(.inr "own", .d (.int 1))])] : AH) = H2 at lvB hC
  have hD : ∃ z4 z5 z6 z7 z8 z9 g', (sFor (iRg1 (vAddH (vC (.int 4)) (vCB true (minmaxD minI) (aCons (vC (.int 30)) (aCons (vCB true lenD (aCons (vVar 0) aNil)) aNil))))) (gNm 4) (sSeq (sSet 5 (vCallT P__law_left (aCons (vVar 0) (aCons (vVar 4) aNil))))
  (sSeq (sSet 3 (vCallI F__law_spoilt (aCons (vVar 5) (aCons (vIx (vVar 1) (vCallI F__law_pick (aCons (vVar 5) (aCons (vC (.int 16)) aNil)))) aNil))))
  (sSeq (sSet 6 (vAnd (vIsi "tuple" (vVar 3)) (vOp true eqX (vCB true lenD (aCons (vLc (iAny (vVar 1)) [8] (gNm 8) (tvB (vOp true eqX (vVar 8) (vVar 3))) (vVar 8)) aNil)) (vC (.int 1)))))
  (sSeq (sSet 7 (vCallP P_is_asks (aCons (vVar 3) aNil)))
  (sIf (tvOr (tvNot (tvB (vIsi "bool" (vVar 7)))) (tvB (vOp true neX (vVar 7) (vVar 6)))) (sRet (vC (.bl false))) sNext)))))) [some (.d (.frl ns)), some (.ref 0), z2, z3, none, none, none, none, none] H2 = some (.nx [some (.d (.frl ns)), some (.ref 0), z2, z4, z5, z6, z7, z8, z9], g') := by
    obtain ⟨m, hm, hm2⟩ : ∃ m : Nat, (4 : Int) + (if (ns.length : Int) < 30 then (ns.length : Int) else 30) = (m : Int) ∧ m ≤ 34 := by
      refine ⟨((4 : Int) + (if (ns.length : Int) < 30 then (ns.length : Int) else 30)).toNat, ?_, ?_⟩ <;> (split <;> omega)
    walk_at "ev"
    rw [hm, rgO_ok (by omega) (by omega) (by omega) (by omega)]
    simp only [bS]
    generalize hr : runFor _ _ _ _ _ = rr
    obtain ⟨e', h3, rfl, ⟨z4, z5, z6, z7, z8, z9, rfl⟩, _⟩ := runFor_use2 hr (fun i env g => (∃ z4 z5 z6 z7 z8 z9, env = [some (.d (.frl ns)), some (.ref 0), z2, z4, z5, z6, z7, z8, z9]) ∧ lAt g 0 GL) ⟨⟨_, _, _, _, _, _, rfl⟩, lvB⟩ (by
      rintro i x env g hx ⟨⟨z4, z5, z6, z7, z8, z9, rfl⟩, lv⟩
      obtain ⟨hi, rfl⟩ := rng_get hx
      rw [Int.zero_add]
      refine ⟨_, _, rfl, ?_⟩
      obtain ⟨a, s, e1, s1, s2⟩ := eq__law_left (ns := ns) (k := i) (by omega)
      have th := thaw_lst (l := [.int a, .int s, .int 0]) (h := g) rfl
      have l0 : Lh g.length 0 (g ++ [.lv (.lst [.d (.int a), .d (.int s), .d (.int 0)])]) := .of (z := ⟨a, s, 0⟩) app_new s1 s2 (Int.le_refl 0) (Int.le_refl 0)
      have hgl : 0 < g.length := lv.lt
      have lv1 := lv.app (t := [.lv (.lst [.d (.int a), .d (.int s), .d (.int 0)])])
      have hgn0 : g.length ≠ 0 := by omega
      generalize hgn : g.length = n at *
      obtain ⟨r, g1, f1, hr1, l1, x1⟩ := F__law_pick_ok (m := 16) l0 (by omega) (by omega) (by omega)
      have lv2 := x1.lAt lv1 (by omega)
      obtain ⟨L, hL, i1⟩ : ∃ L ∈ goodL, ixA g1 (.ref 0) (.d (.int (r : Int))) = some (.d (.tup (L.map .str))) := by
        have hlen : r < goodL.length := by rw [show goodL.length = 16 from by decide +kernel]; omega
        refine ⟨goodL[r], List.getElem_mem hlen, ix_lAt lv2 ?_⟩
        show (goodL.map _)[r]? = _
        rw [List.getElem?_map, List.getElem?_eq_getElem hlen]; rfl
      obtain ⟨d, g2, f2, hd, l2, x2⟩ := F__law_spoilt_ok l1 (by omega) hL
      have lv3 := x2.lAt lv2 (by omega)
      have sn : ∀ G, mapO (snap 8 G) [.d d] = some [d] := fun G => by rw [mapO, snap_d]; rfl
      have h0 : (sSet 5 (vCallT P__law_left (aCons (vVar 0) (aCons (vVar 4) aNil)))) [some (.d (.frl ns)), some (.ref 0), z2, z4, some (.d (.int (i : Int))), z6, z7, z8, z9] g = some (.nx [some (.d (.frl ns)), some (.ref 0), z2, z4, some (.d (.int (i : Int))), some (.ref n), z7, z8, z9], g ++ [.lv (.lst [.d (.int a), .d (.int s), .d (.int 0)])]) := by
        wp_walk using e1, th, hgn
      have h1 : (sSet 3 (vCallI F__law_spoilt (aCons (vVar 5) (aCons (vIx (vVar 1) (vCallI F__law_pick (aCons (vVar 5) (aCons (vC (.int 16)) aNil)))) aNil)))) [some (.d (.frl ns)), some (.ref 0), z2, z4, some (.d (.int (i : Int))), some (.ref n), z7, z8, z9] (g ++ [.lv (.lst [.d (.int a), .d (.int s), .d (.int 0)])]) = some (.nx [some (.d (.frl ns)), some (.ref 0), z2, some (.d d), some (.d (.int (i : Int))), some (.ref n), z7, z8, z9], g2) := by
        wp_walk using f1, i1, f2
      have nb : ∀ b : Bool, neX (.bl b) (.bl b) = some (.bl false) := fun b => by cases b <;> exact isB_ok (by decide +kernel)
      obtain ⟨b, h2, pd⟩ : ∃ b : Bool, (sSet 6 (vAnd (vIsi "tuple" (vVar 3)) (vOp true eqX (vCB true lenD (aCons (vLc (iAny (vVar 1)) [8] (gNm 8) (tvB (vOp true eqX (vVar 8) (vVar 3))) (vVar 8)) aNil)) (vC (.int 1))))) [some (.d (.frl ns)), some (.ref 0), z2, some (.d d), some (.d (.int (i : Int))), some (.ref n), z7, z8, z9] g2 = some (.nx [some (.d (.frl ns)), some (.ref 0), z2, some (.d d), some (.d (.int (i : Int))), some (.ref n), some (.d (.bl b)), z8, z9], g2) ∧ P_is_asks [d] = some (.bl b) := by
        rcases hd with ⟨es, rfl, ho⟩ | hn
        · have ho := (Bool.and_eq_true _ _).mp ho
          refine ⟨goodB es, ?_, isB_ok ho.1⟩
          have eq := fun g hg => isB_ok (List.all_eq_true.mp ho.2 g hg)
          have rl := relock lv3
          have lk : (g2.set 0 (.lk (.lst (GL.map .d))))[0]? = some (.lk (.lst (GL.map .d))) := set_get lv3
          have ul : unlk (some 0) (g2.set 0 (.lk (.lst (GL.map .d)))) = g2 := by rw [unlk_at lk]; exact rl
          have c1 : runLc [some (.d (.frl ns)), some (.ref 0), z2, some (.d (.tup es)), some (.d (.int (i : Int))), some (.ref n), z7, z8, none] (gNm 8) (tvB (vOp true eqX (vVar 8) (vVar 3))) (vVar 8) (GL.map .d) (g2.set 0 (.lk (.lst (GL.map .d)))) = some (((GL.filter fun x => isB (eqX x (.tup es)) true).map fun d => d).map .d, g2.set 0 (.lk (.lst (GL.map .d)))) := runLc_nm (fun x => isB (eqX x (.tup es)) true) (fun d => d) fun x hx => by
            obtain ⟨g, hg, rfl⟩ := List.mem_map.mp hx
            have e := eq g hg
            have cb : isB (eqX (.tup (g.map .str)) (.tup es)) true = sameS es g := by
              rw [e]
              show (sameS es g == true) = _
              cases sameS es g <;> rfl
            refine ⟨?_, fun _ => rfl⟩
            rw [cb]
            wp_walk using e
          have fl : ((GL.filter fun x => isB (eqX x (.tup es)) true).map fun d => d).length = (goodL.filter (sameS es)).length := by
            rw [List.length_map]
            unfold GL
            rw [List.filter_map, List.length_map]
            congr 1
            refine List.filter_congr fun g hg => ?_
            show isB (eqX (.tup (g.map .str)) (.tup es)) true = _
            rw [eq g hg]
            show (sameS es g == true) = _
            cases sameS es g <;> rfl
          have fl16 : (goodL.filter (sameS es)).length ≤ 16 := Nat.le_trans (List.length_filter_le _ _) (by decide +kernel)
          generalize ((GL.filter fun x => isB (eqX x (.tup es)) true).map fun d => d) = F at c1 fl
          have zF : F.length ≤ sizeLine := le_sz (by omega)
          have q1 : eqX (.int (F.length : Int)) (.int 1) = some (.bl (goodB es)) := by
            rw [x_eqE okE_int okE_int, same_int, fl]
            exact congrArg (fun b => some (Dv.bl b)) (by
              unfold goodB
              by_cases c : (goodL.filter (sameS es)).length = 1
              · rw [decide_eq_true c, decide_eq_true (by omega)]
              · rw [decide_eq_false c, decide_eq_false (by omega)])
          wp_walk using iAny_eq, iAnyM_at (show g2[0]? = _ from lv3), c1, List.length_map, if_pos zF, mkL_map, ul, q1
        · have hn := (Bool.and_eq_true _ _).mp hn
          have it : isT "tuple" d = some false := by
            have := isB_ok hn.2
            obtain ⟨b, h1, h2⟩ := Option.map_eq_some_iff.mp this
            cases h2
            exact h1
          refine ⟨false, ?_, isB_ok hn.1⟩
          wp_walk using it
      have h3 : (sSet 7 (vCallP P_is_asks (aCons (vVar 3) aNil))) [some (.d (.frl ns)), some (.ref 0), z2, some (.d d), some (.d (.int (i : Int))), some (.ref n), some (.d (.bl b)), z8, z9] g2 = some (.nx [some (.d (.frl ns)), some (.ref 0), z2, some (.d d), some (.d (.int (i : Int))), some (.ref n), some (.d (.bl b)), some (.d (.bl b)), z9], g2) := by
        wp_walk using sn, pd
      have h4 : (sIf (tvOr (tvNot (tvB (vIsi "bool" (vVar 7)))) (tvB (vOp true neX (vVar 7) (vVar 6)))) (sRet (vC (.bl false))) sNext) [some (.d (.frl ns)), some (.ref 0), z2, some (.d d), some (.d (.int (i : Int))), some (.ref n), some (.d (.bl b)), some (.d (.bl b)), z9] g2 = some (.nx [some (.d (.frl ns)), some (.ref 0), z2, some (.d d), some (.d (.int (i : Int))), some (.ref n), some (.d (.bl b)), some (.d (.bl b)), z9], g2) := by
        wp_walk using nb
      exact ⟨_, _, seq_ex h0 (seq_ex h1 (seq_ex h2 (seq_ex h3 h4))), ⟨_, _, _, _, _, _, rfl⟩, lv3⟩)
    exact ⟨_, _, _, _, _, _, _, rfl⟩
  obtain ⟨z4, z5, z6, z7, z8, z9, g', hD⟩ := hD
  refine ⟨g', ?_⟩
  show (m_law [some (.d (.frl ns)), none, none, none, none, none, none, none, none] []).bind _ = _
  unfold m_law
  rw [seq_ex hA (seq_ex hB (seq_ex hC (seq_ex hD rfl)))]
  rfl
def d_is_asks : He.DefD := ⟨("is_asks", none), "is_asks", "is_asks", defArgs s_is_asks, defBody s_is_asks, defScope s_is_asks, [], []⟩
def d__law_cell_at : He.DefD := ⟨("_law_cell_at", none), "_law_cell_at", "_law_cell_at", defArgs s__law_cell_at, defBody s__law_cell_at, defScope s__law_cell_at, [], []⟩
def d__law_left : He.DefD := ⟨("_law_left", none), "_law_left", "_law_left", defArgs s__law_left, defBody s__law_left, defScope s__law_left, [], []⟩
def d__law_pick : He.DefD := ⟨("_law_pick", none), "_law_pick", "_law_pick", defArgs s__law_pick, defBody s__law_pick, defScope s__law_pick, [], []⟩
def d__law_all : He.DefD := ⟨("_law_all", none), "_law_all", "_law_all", defArgs s__law_all, defBody s__law_all, defScope s__law_all, [], []⟩
def d__law_spoilt : He.DefD := ⟨("_law_spoilt", none), "_law_spoilt", "_law_spoilt", defArgs s__law_spoilt, defBody s__law_spoilt, defScope s__law_spoilt, [], []⟩
def d_law : He.DefD := ⟨("law", none), "law", "law", defArgs s_law, defBody s_law, defScope s_law, [], []⟩
def fnL : List He.DefD := [d_is_asks, d__law_cell_at, d__law_left, d__law_pick, d__law_all, d__law_spoilt, d_law]
def faL : List He.Fa := [.glo "is_asks", .glo "_law_cell_at", .glo "_law_left", .glo "_law_pick", .glo "_law_all", .glo "_law_spoilt", .glo "law", .free "all", .free "bool", .free "int", .free "isinstance", .free "len", .free "list", .free "max", .free "min", .free "range", .free "str", .free "tuple", .free "zip", .glo "PROMISES"]
abbrev R : PySem.W.OpenRow := PySem.W.OpenLaw.row PySem.Challenge.rw_farcopies_k17_what_is_asked
def csL : List He.TupC := [("PROMISES", (["behind", "elder", "own", "row"] : List Str).map .str)]
abbrev hk : PySem.W.Hook := He.hookY 4 faL fnL [] csL []
def ob (s : PySem.W.SharedT) : He.AlY := He.obsYG 4 faL fnL [] csL [] (HandSHeadRun.getT s)
theorem ob_eq (s : PySem.W.SharedT) : ob s = hk.obs s.abs := He.obsYG_eq (HandSHeadRun.getT_eq s)
theorem run (w : World) : HandSHeadRun.RunEq R (PySem.W.view R.prog [9]) hk ob 4000 ["PROMISES", "is_asks", "_law_cell_at", "_law_left", "_law_pick", "_law_all", "_law_spoilt"] w := by
  intro os
  kernel_rfl
theorem txt_of {w : World} {K : PySem.W.Frag} {h : Heap} {mg : Str → Option Value} (X : K.In h) (G : h.Ns mainGlobals mg) (c : He.SaysY faL fnL [] csL [] w K) : Txt K mg where
  f_is_asks := c.def_ 0 (d := d_is_asks) rfl
  g_is_asks := He.glo_ok X G (c.fact 0 (f := .glo "is_asks") rfl)
  f__law_cell_at := c.def_ 1 (d := d__law_cell_at) rfl
  g__law_cell_at := He.glo_ok X G (c.fact 1 (f := .glo "_law_cell_at") rfl)
  f__law_left := c.def_ 2 (d := d__law_left) rfl
  g__law_left := He.glo_ok X G (c.fact 2 (f := .glo "_law_left") rfl)
  f__law_pick := c.def_ 3 (d := d__law_pick) rfl
  g__law_pick := He.glo_ok X G (c.fact 3 (f := .glo "_law_pick") rfl)
  f__law_all := c.def_ 4 (d := d__law_all) rfl
  g__law_all := He.glo_ok X G (c.fact 4 (f := .glo "_law_all") rfl)
  f__law_spoilt := c.def_ 5 (d := d__law_spoilt) rfl
  g__law_spoilt := He.glo_ok X G (c.fact 5 (f := .glo "_law_spoilt") rfl)
  f_law := c.def_ 6 (d := d_law) rfl
  g_law := He.glo_ok X G (c.fact 6 (f := .glo "law") rfl)
  n_all := He.free_ok X G (c.fact 7 (f := .free "all") rfl)
  n_bool := He.free_ok X G (c.fact 8 (f := .free "bool") rfl)
  n_int := He.free_ok X G (c.fact 9 (f := .free "int") rfl)
  n_isinstance := He.free_ok X G (c.fact 10 (f := .free "isinstance") rfl)
  n_len := He.free_ok X G (c.fact 11 (f := .free "len") rfl)
  n_list := He.free_ok X G (c.fact 12 (f := .free "list") rfl)
  n_max := He.free_ok X G (c.fact 13 (f := .free "max") rfl)
  n_min := He.free_ok X G (c.fact 14 (f := .free "min") rfl)
  n_range := He.free_ok X G (c.fact 15 (f := .free "range") rfl)
  n_str := He.free_ok X G (c.fact 16 (f := .free "str") rfl)
  n_tuple := He.free_ok X G (c.fact 17 (f := .free "tuple") rfl)
  n_zip := He.free_ok X G (c.fact 18 (f := .free "zip") rfl)
  k_PROMISES := ⟨_, He.glo_ok X G (c.fact 19 (f := .glo "PROMISES") rfl), rfl⟩
  t_PROMISES := He.tupS_ok (ss := (["behind", "elder", "own", "row"] : List Str)) (c.tup 0 (t := ("PROMISES", (["behind", "elder", "own", "row"] : List Str).map .str)) rfl)
end Lw
open PySem PySem.W PySem.Calls PyProof.Rows
theorem PySem.Challenge.cw_farcopies_k17_what_is_asked_holds : PySem.Challenge.rw_farcopies_k17_what_is_asked.Holds := by
  w_on; o_law
  refine HandSHeadRun.head_any (r := OpenLaw.row PySem.Challenge.rw_farcopies_k17_what_is_asked) (q := view (OpenLaw.row PySem.Challenge.rw_farcopies_k17_what_is_asked).prog [9]) (H := Lw.hk) (ob := Lw.ob) (M := 4000) (loose := ["PROMISES", "is_asks", "_law_cell_at", "_law_left", "_law_pick", "_law_all", "_law_spoilt"]) (d := HandSHeadRun.topDef (OpenLaw.row PySem.Challenge.rw_farcopies_k17_what_is_asked).prog 9) (kwd := []) Lw.ob_eq
    (by kernel_rfl) (fun s => by kernel_rfl) Lw.run (by kernel_rfl) (by kernel_rfl) (by kernel_rfl) (by rfl) (by first | assumption | decide +kernel) (by decide +kernel) ⟨rfl, rfl, rfl, rfl, rfl, by decide +kernel⟩ ?hw ?hc
  case hw => w_witness2
  case hc =>
    refine L2.walk_ofE (l := PySem.Challenge.rw_farcopies_k17_what_is_asked) (n := 63) (k := 3) (x := "_law_script") (CX := L2.CX0) rfl (by decide) (by kernel_rfl) ⟨rfl, by decide, by decide⟩ ?F (fun _ _ _ _ z => z)
    intro w mg fa h Y G hmg0
    obtain ⟨K, KX, c⟩ := Y
    have hmg : mg ("law" : PySem.Str) = some (.ref fa) := by
      have e : (HandSHeadRun.topDef (OpenLaw.row PySem.Challenge.rw_farcopies_k17_what_is_asked).prog 9).name = ("law" : PySem.Str) := by kernel_rfl
      rw [← e]
      exact hmg0
    have T := Lw.txt_of KX G c
    have e := hmg.symm.trans T.g_law
    cases e
    obtain ⟨fd, F⟩ := T.f_law
    have b := L2.FunD.bindsA (ps := ["_law_script"]) F fun _ _ _ _ _ _ us hl => match us, hl with | [_], _ => rfl
    exact ⟨K, fd, Fh.spI K 1 Lw.F_law, KX, fun s u => b s [u] rfl, fun H a ns hl hO hS => Fh.law_spI hO hS (Lw.law_holds ns hl), fun base _ _ => Lw.ok_law T F⟩
