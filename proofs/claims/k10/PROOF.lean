import PyProof.Rows.All
import Wide.All
import OpenK.AllK
import Wide.FinOn
import HandS.ForExc
import HandS.Comp
import HandS.Iter
import HandS.Text
import HandS.Deep
import HandS.TupAny
import HandS.TupMul
import HandS.IsInst
import HandS.ExcIs
import HandS.Zip
import HandS.Defaults
import HandS.HeadEnd
import HandS.HeadHook1
import HandS.HeadHook2
import HandS.HeadHook4
import HandS.Head2
import KE.KDictKeyed
import KE.KDictDisplayH
import HandS.Strs
import HandS.ExcOwn
import HandS.TryOnly
import PyProof.EqAt
import PyProof.FactsAll.tuple_2
import PyProof.FactsAll.tuple_3
import HandS.Conv
import PySem.Challenge.RW_leastloss_k10_lost_in
set_option Elab.async false
set_option linter.all false
set_option maxRecDepth 100000
set_option maxHeartbeats 0
/-! data, what stands for it in the abstract heap, what is owned apart -/
namespace Lz
open PySem PySem.Spec PyProof.Rows L2

/-- a test that the kernel doesn't look into -/
noncomputable def cif {α : Type} (c : Prop) (a b : α) : α := @ite α c (Classical.propDecidable c) a b
theorem cif_pos {α : Type} {c : Prop} {a b : α} (h : c) : cif c a b = a := by unfold cif; rw [if_pos h]
theorem cif_neg {α : Type} {c : Prop} {a b : α} (h : ¬ c) : cif c a b = b := by unfold cif; rw [if_neg h]
@[simp] theorem cif_t {α : Type} {a b : α} : cif True a b = a := cif_pos trivial
@[simp] theorem cif_f {α : Type} {a b : α} : cif False a b = b := cif_neg id
/-! ### data -/
inductive D where
  | non | bl (b : Bool) | int (i : Int) | str (s : Str)
  | tup (xs : List D) | lst (xs : List D) | scr (ns : List Int)
  | dct (ks : List (D × D)) | obj (c : Str) (fs : List (Str × D))
  | ob (c : Str) (fs : List (Str × Bool × D))

mutual
def D.toPy : D → PyData
  | .non => .none
  | .bl b => .bool b
  | .int i => .int i
  | .str s => .str s
  | .tup xs => .tuple (D.toPys xs)
  | .lst xs => .list (D.toPys xs)
  | .scr ns => .list (ns.map .int)
  | .dct _ => .dict []
  | .obj _ _ => .dict []
  | .ob _ _ => .dict []
def D.toPys : List D → List PyData
  | [] => []
  | x :: xs => x.toPy :: D.toPys xs
end
theorem toPys_map : ∀ xs : List D, D.toPys xs = xs.map D.toPy
  | [] => by rw [D.toPys]; rfl
  | x :: xs => by rw [D.toPys, toPys_map xs]; rfl

/-- a slot's content: whether it is owned, the data -/
abbrev T := Bool × D
/-- an expression's answer: data (owned by nobody else if the flag is up), or the owned thing of a slot -/
inductive XV where
  | v (o : Bool) (d : D)
  | b (i : Nat)
abbrev Env := List (Option T)
/-- what running ends in -/
inductive R (α : Type) where
  | ok (a : α) (ρ : Env)
  | exc (c : Str) (ρ : Env)
  | bad
def R.bind {α β : Type} (r : R α) (k : α → Env → R β) : R β := match r with
  | .ok a ρ => k a ρ
  | .exc c ρ => .exc c ρ
  | .bad => .bad

/-! ### dicts with tuples as keys -/
mutual
def nkD : D → Option NestedKey
  | .bl b => some (.num (if b then 1 else 0))
  | .int i => some (.num i)
  | .tup xs => (nkDs xs).map .tup
  | _ => none
def nkDs : List D → Option (List NestedKey)
  | [] => some []
  | x :: xs => (nkD x).bind fun k => (nkDs xs).map (k :: ·)
end
-- no texts in it
mutual
def nkT : NestedKey → Bool
  | .none => true
  | .num _ => true
  | .text _ => false
  | .tup ks => nkTs ks
def nkTs : List NestedKey → Bool
  | [] => true
  | k :: ks => nkT k && nkTs ks
end
mutual
theorem nkT_hash (w w' : World) : ∀ k : NestedKey, nkT k = true → k.hash w = k.hash w'
  | .none, _ => by rw [NestedKey.hash, NestedKey.hash]
  | .num i, _ => by rw [NestedKey.hash, NestedKey.hash]
  | .text x, h => by rw [nkT] at h; cases h
  | .tup ks, h => by
    rw [nkT] at h
    rw [NestedKey.hash, NestedKey.hash, nkTs_hash w w' ks h]
theorem nkTs_hash (w w' : World) : ∀ ks : List NestedKey, nkTs ks = true → NestedKey.hashes w ks = NestedKey.hashes w' ks
  | [], _ => by rw [NestedKey.hashes, NestedKey.hashes]
  | k :: ks, h => by
    rw [nkTs, Bool.and_eq_true] at h
    rw [NestedKey.hashes, NestedKey.hashes, nkT_hash w w' k h.1, nkTs_hash w w' ks h.2]
end
mutual
theorem nkD_T : ∀ (d : D) (k : NestedKey), nkD d = some k → nkT k = true
  | .non, _, h => by rw [nkD] at h; cases h; all_goals exact nofun
  | .bl b, _, h => by rw [nkD] at h; cases h; rw [nkT]
  | .int i, _, h => by rw [nkD] at h; cases h; rw [nkT]
  | .str s, _, h => by rw [nkD] at h; cases h; all_goals exact nofun
  | .tup xs, _, h => by
    rw [nkD] at h
    cases e : nkDs xs with
    | none => rw [e] at h; cases h
    | some ks => rw [e] at h; cases h; rw [nkT]; exact nkDs_T xs ks e
  | .lst xs, _, h => by rw [nkD] at h; cases h; all_goals exact nofun
  | .scr xs, _, h => by rw [nkD] at h; cases h; all_goals exact nofun
  | .dct xs, _, h => by rw [nkD] at h; cases h; all_goals exact nofun
  | .obj c xs, _, h => by rw [nkD] at h; cases h; all_goals exact nofun
  | .ob c xs, _, h => by rw [nkD] at h; cases h; all_goals exact nofun
theorem nkDs_T : ∀ (ds : List D) (ks : List NestedKey), nkDs ds = some ks → nkTs ks = true
  | [], _, h => by rw [nkDs] at h; cases h; rw [nkTs]
  | d :: ds, _, h => by
    rw [nkDs] at h
    cases e : nkD d with
    | none => rw [e] at h; cases h
    | some k =>
      rw [e] at h
      cases e2 : nkDs ds with
      | none => rw [e2] at h; cases h
      | some ks =>
        rw [e2] at h
        cases h
        rw [nkTs, nkD_T d k e, nkDs_T ds ks e2]; rfl
end
abbrev DEnt := NestedKey × Addr × Value
/-- what is true of a dict's own object -/
def dPhi (a : Addr) (es : List DEnt) (h : Heap) : Prop := ∃ o arr ep, h.get? a = some o ∧ o.ExactDict ∧ o.data = .dict arr ep ∧ ∀ w : World, arr.toList = es.map fun x => (⟨x.1.hash w, .ref x.2.1, x.2.2⟩ : DictEntry)
structure DFm (a : Addr) (es : List DEnt) (vs : List V) (kvs : List (D × D)) : Prop where
  sys : (a == sysModules) = false
  nd : (es.map (·.1)).Nodup
  vals : Vals vs (es.map (·.2.2))
  keys : es.map (fun x => some x.1) = kvs.map (fun p => nkD p.1)
  dep : ∀ x ∈ es, x.1.depth ≤ 8
/-! ### data in the abstract heap -/
def KTup (K : PySem.W.Frag) (a : Addr) (xs : List V) : Prop :=
  ∃ (o : Obj) (its : Array Value) (n : Nat), K.lookup a = some o ∧ o.cls = .type "tuple" ∧ o.dict = none ∧ o.data = .seq its n ∧ its.size ≤ sizeLine ∧ Vals xs its.toList
def KLst (K : PySem.W.Frag) (a : Addr) (xs : List V) : Prop :=
  ∃ (o : Obj) (its : Array Value) (n : Nat), K.lookup a = some o ∧ o.cls = .type "list" ∧ o.dict = none ∧ o.data = .seq its n ∧ its.size ≤ sizeLine ∧ Vals xs its.toList

mutual
inductive Rep (K : PySem.W.Frag) (H : Hp) (av : Addr → Prop) : V → D → Prop
  | non : Rep K H av .non .non
  | bl (b : Bool) : Rep K H av (.bl b) (.bl b)
  | int (i : Int) : Rep K H av (.int i) (.int i)
  | str (x : Str) : Rep K H av (.str x) (.str x)
  | tup {a : Addr} {o : Obj} {vs : List V} {ds : List D} : ¬ av a → H a = some (.frz o (.tup vs)) → o.dict = none → RepAll K H av vs ds → Rep K H av (.ref a) (.tup ds)
  | ktup {a : Addr} {vs : List V} {ds : List D} : KTup K a vs → RepAll K H av vs ds → Rep K H av (.ref a) (.tup ds)
  | lst {a : Addr} {vs : List V} {ds : List D} : ¬ av a → H a = some (.lst vs) → RepAll K H av vs ds → Rep K H av (.ref a) (.lst ds)
  | scr {a : Addr} {o : Obj} {ns : List Int} : ¬ av a → H a = some (.frz o (.lst (ns.map V.int))) → Rep K H av (.ref a) (.scr ns)
  | kscr {a : Addr} {ns : List Int} : KLst K a (ns.map V.int) → Rep K H av (.ref a) (.scr ns)
  | obj {a C dx : Addr} {c : Str} {fs : List (Str × V)} {gs : List (Str × D)} : ¬ av a → H a = some (.ins C dx fs) → C = He.ga K c → fs.map (·.1) = gs.map (·.1) → RepAll K H av (fs.map (·.2)) (gs.map (·.2)) → Rep K H av (.ref a) (.obj c gs)
  | ob {a C dx : Addr} {c : Str} {fs : List (Str × V)} {gs : List (Str × Bool × D)} : ¬ av a → H a = some (.ins C dx fs) → C = He.ga K c → fs.map (·.1) = gs.map (·.1) → RepAll K H av (fs.map (·.2)) (gs.map (·.2.2)) → Rep K H av (.ref a) (.ob c gs)
  | dct {a : Addr} {es : List DEnt} {vs : List V} {kvs : List (D × D)} : ¬ av a → H a = some (.ext (dPhi a es)) → DFm a es vs kvs → RepAll K H av (es.map fun x => .ref x.2.1) (kvs.map (·.1)) → RepAll K H av vs (kvs.map (·.2)) → Rep K H av (.ref a) (.dct kvs)
inductive RepAll (K : PySem.W.Frag) (H : Hp) (av : Addr → Prop) : List V → List D → Prop
  | nil : RepAll K H av [] []
  | cons {v : V} {vs : List V} {d : D} {ds : List D} : Rep K H av v d → RepAll K H av vs ds → RepAll K H av (v :: vs) (d :: ds)
end

section
variable {K : PySem.W.Frag} {H H' : Hp} {av av' : Addr → Prop}
/-- what may change under pure data -/
structure Kp (H H' : Hp) (av av' : Addr → Prop) : Prop where
  keep : ∀ b o, H b = some o → ¬ av b → H' b = some o
  less : ∀ b, av' b → av b ∨ H b = none
theorem Kp.not (k : Kp H H' av av') {a : Addr} {o : HO} (h : H a = some o) (n : ¬ av a) : ¬ av' a := fun q => by
  rcases k.less a q with q | q
  · exact n q
  · rw [h] at q; cases q
mutual
theorem Rep.mono (k : Kp H H' av av') : ∀ {v : V} {d : D}, Rep K H av v d → Rep K H' av' v d
  | _, _, .non => .non
  | _, _, .bl b => .bl b
  | _, _, .int i => .int i
  | _, _, .str x => .str x
  | _, _, .tup n h e r => .tup (k.not h n) (k.keep _ _ h n) e (RepAll.mono k r)
  | _, _, .ktup h r => .ktup h (RepAll.mono k r)
  | _, _, .lst n h r => .lst (k.not h n) (k.keep _ _ h n) (RepAll.mono k r)
  | _, _, .scr n h => .scr (k.not h n) (k.keep _ _ h n)
  | _, _, .kscr h => .kscr h
  | _, _, .obj n h e m r => .obj (k.not h n) (k.keep _ _ h n) e m (RepAll.mono k r)
  | _, _, .ob n h e m r => .ob (k.not h n) (k.keep _ _ h n) e m (RepAll.mono k r)
  | _, _, .dct n h f r1 r2 => .dct (k.not h n) (k.keep _ _ h n) f (RepAll.mono k r1) (RepAll.mono k r2)
theorem RepAll.mono (k : Kp H H' av av') : ∀ {vs : List V} {ds : List D}, RepAll K H av vs ds → RepAll K H' av' vs ds
  | _, _, .nil => .nil
  | _, _, .cons h r => .cons (Rep.mono k h) (RepAll.mono k r)
end
theorem Kp.weak (h : ∀ b, av' b → av b) : Kp H H av av' := ⟨fun _ _ h _ => h, fun b q => .inl (h b q)⟩
theorem Kp.laid {p : Addr} {o : HO} (h : H p = none) : Kp H (upd H p o) av av := ⟨fun b u q _ => by rw [upd_ne (ne_of_none q h)]; exact q, fun _ q => .inl q⟩
theorem RepAll.length : ∀ {vs : List V} {ds : List D}, RepAll K H av vs ds → vs.length = ds.length
  | _, _, .nil => rfl
  | _, _, .cons _ r => by rw [List.length_cons, List.length_cons, RepAll.length r]
theorem RepAll.get : ∀ {vs : List V} {ds : List D} {i : Nat} {v : V}, RepAll K H av vs ds → vs[i]? = some v → ∃ d, ds[i]? = some d ∧ Rep K H av v d
  | _, _, _, _, .nil, h => by simp at h
  | _, _, 0, v, .cons r _, h => by simp at h; subst h; exact ⟨_, rfl, r⟩
  | _, _, i + 1, v, .cons _ t, h => by
    obtain ⟨d, h1, h2⟩ := RepAll.get (i := i) (v := v) t (by simpa using h)
    exact ⟨d, by simpa using h1, h2⟩
theorem RepAll.getD : ∀ {vs : List V} {ds : List D} {i : Nat} {d : D}, RepAll K H av vs ds → ds[i]? = some d → ∃ v, vs[i]? = some v ∧ Rep K H av v d
  | _, _, _, _, .nil, h => by simp at h
  | _, _, 0, v, .cons r _, h => by simp at h; subst h; exact ⟨_, rfl, r⟩
  | _, _, i + 1, v, .cons _ t, h => by
    obtain ⟨d, h1, h2⟩ := RepAll.getD (i := i) (d := v) t (by simpa using h)
    exact ⟨d, by simpa using h1, h2⟩
theorem RepAll.append : ∀ {vs us : List V} {ds es : List D}, RepAll K H av vs ds → RepAll K H av us es → RepAll K H av (vs ++ us) (ds ++ es)
  | _, _, _, _, .nil, r => r
  | _, _, _, _, .cons h t, r => .cons h (RepAll.append t r)
theorem RepAll.take : ∀ {vs : List V} {ds : List D} (n : Nat), RepAll K H av vs ds → RepAll K H av (vs.take n) (ds.take n)
  | _, _, 0, _ => by simp; exact .nil
  | _, _, _ + 1, .nil => by simp; exact .nil
  | _, _, n + 1, .cons h t => .cons h (RepAll.take n t)
theorem RepAll.drop : ∀ {vs : List V} {ds : List D} (n : Nat), RepAll K H av vs ds → RepAll K H av (vs.drop n) (ds.drop n)
  | _, _, 0, r => r
  | _, _, _ + 1, .nil => by simp; exact .nil
  | _, _, n + 1, .cons _ t => RepAll.drop n t
theorem RepAll.set {x : V} {e : D} (q : Rep K H av x e) : ∀ {vs : List V} {ds : List D} (n : Nat), RepAll K H av vs ds → RepAll K H av (vs.set n x) (ds.set n e)
  | _, _, _, .nil => by simp; exact .nil
  | _, _, 0, .cons _ t => .cons q t
  | _, _, n + 1, .cons h t => .cons h (RepAll.set q n t)
theorem RepAll.rep {vs : List V} {ds : List D} (r : RepAll K H av vs ds) : ∀ n : Nat, RepAll K H av (List.replicate n vs).flatten (List.replicate n ds).flatten
  | 0 => .nil
  | n + 1 => by
    rw [List.replicate_succ, List.replicate_succ, List.flatten_cons, List.flatten_cons]
    exact r.append (RepAll.rep r n)
theorem KTup.sq {a : Addr} {vs : List V} (h : KTup K a vs) : SqT K H a vs := let ⟨o, its, n, h1, h2, _, h3⟩ := h; .inr ⟨o, its, n, h1, h2, h3⟩
/-- a tuple that has no dict of its own -/
def TupD (K : PySem.W.Frag) (H : Hp) (a : Addr) : Prop := (∃ o vs, H a = some (.frz o (.tup vs)) ∧ o.dict = none) ∨ ∃ o, K.lookup a = some o ∧ o.cls = .type "tuple" ∧ o.dict = none

/-! ### owned apart -/
/-- an owned object's attributes: pure ones, owned lists -/
inductive OwnFs (K : PySem.W.Frag) (H : Hp) (av : Addr → Prop) : List (Str × V) → List (Str × Bool × D) → List Addr → Prop
  | nil : OwnFs K H av [] [] []
  | pure {f : Str} {v : V} {d : D} {fs : List (Str × V)} {gs : List (Str × Bool × D)} {w : List Addr} : Rep K H av v d → OwnFs K H av fs gs w → OwnFs K H av ((f, v) :: fs) ((f, false, d) :: gs) w
  | lst {f : Str} {b : Addr} {vs : List V} {ds : List D} {fs : List (Str × V)} {gs : List (Str × Bool × D)} {w : List Addr} : H b = some (.lst vs) → RepAll K H av vs ds → OwnFs K H av fs gs w → OwnFs K H av ((f, .ref b) :: fs) ((f, true, .lst ds) :: gs) (b :: w)
theorem OwnFs.mono {K : PySem.W.Frag} {H H' : Hp} {av av' : Addr → Prop} (k : Kp H H' av av') : ∀ {fs : List (Str × V)} {gs : List (Str × Bool × D)} {w : List Addr}, (∀ b ∈ w, H' b = H b) → OwnFs K H av fs gs w → OwnFs K H' av' fs gs w
  | _, _, _, _, .nil => .nil
  | _, _, _, hw, .pure r t => .pure (r.mono k) (OwnFs.mono k hw t)
  | _, _, _, hw, .lst h r t => .lst (by rw [hw _ List.mem_cons_self]; exact h) (r.mono k) (OwnFs.mono k (fun b hb => hw b (List.mem_cons_of_mem _ hb)) t)
theorem OwnFs.there {K : PySem.W.Frag} {H : Hp} {av : Addr → Prop} : ∀ {fs : List (Str × V)} {gs : List (Str × Bool × D)} {w : List Addr}, OwnFs K H av fs gs w → ∀ b ∈ w, H b ≠ none
  | _, _, _, .nil, b, hb => by cases hb
  | _, _, _, .pure _ t, b, hb => OwnFs.there t b hb
  | _, _, _, .lst h _ t, b, hb => by
    rcases List.mem_cons.mp hb with rfl | hb
    · rw [h]; simp
    · exact OwnFs.there t b hb
theorem OwnFs.names {K : PySem.W.Frag} {H : Hp} {av : Addr → Prop} : ∀ {fs : List (Str × V)} {gs : List (Str × Bool × D)} {w : List Addr}, OwnFs K H av fs gs w → fs.map (·.1) = gs.map (·.1)
  | _, _, _, .nil => rfl
  | _, _, _, .pure _ t => by rw [List.map_cons, List.map_cons, OwnFs.names t]
  | _, _, _, .lst _ _ t => by rw [List.map_cons, List.map_cons, OwnFs.names t]
/-- all of them as pure data, where what was owned is given free -/
theorem OwnFs.rep {K : PySem.W.Frag} {H : Hp} {av av' : Addr → Prop} (k : ∀ b, av' b → av b) : ∀ {fs : List (Str × V)} {gs : List (Str × Bool × D)} {w : List Addr}, (∀ b ∈ w, ¬ av' b) → OwnFs K H av fs gs w → RepAll K H av' (fs.map (·.2)) (gs.map (·.2.2))
  | _, _, _, _, .nil => .nil
  | _, _, _, hw, .pure r t => .cons (r.mono (Kp.weak k)) (OwnFs.rep k hw t)
  | _, _, _, hw, .lst h r t => .cons (.lst (hw _ List.mem_cons_self) h (r.mono (Kp.weak k))) (OwnFs.rep k (fun b hb => hw b (List.mem_cons_of_mem _ hb)) t)
inductive Own (K : PySem.W.Frag) (H : Hp) (av : Addr → Prop) : V → T → List Addr → Prop
  | pure {v : V} {d : D} : Rep K H av v d → Own K H av v (false, d) []
  | lst {a : Addr} {vs : List V} {ds : List D} : H a = some (.lst vs) → RepAll K H av vs ds → Own K H av (.ref a) (true, .lst ds) [a]
  | obj {a C dx : Addr} {c : Str} {fs : List (Str × V)} {gs : List (Str × D)} : H a = some (.ins C dx fs) → C = He.ga K c → fs.map (·.1) = gs.map (·.1) → RepAll K H av (fs.map (·.2)) (gs.map (·.2)) → Own K H av (.ref a) (true, .obj c gs) [a]
  | ob {a C dx : Addr} {c : Str} {fs : List (Str × V)} {gs : List (Str × Bool × D)} {w : List Addr} : H a = some (.ins C dx fs) → C = He.ga K c → OwnFs K H av fs gs w → Own K H av (.ref a) (true, .ob c gs) (a :: w)
  | dct {a : Addr} {es : List DEnt} {vs : List V} {kvs : List (D × D)} : H a = some (.ext (dPhi a es)) → DFm a es vs kvs → RepAll K H av (es.map fun x => .ref x.2.1) (kvs.map (·.1)) → RepAll K H av vs (kvs.map (·.2)) → Own K H av (.ref a) (true, .dct kvs) [a]
abbrev VT := V × T
inductive OwnAll (K : PySem.W.Frag) (H : Hp) (av : Addr → Prop) : List VT → List Addr → Prop
  | nil : OwnAll K H av [] []
  | cons {v : V} {t : T} {L : List VT} {w ws : List Addr} : Own K H av v t w → OwnAll K H av L ws → OwnAll K H av ((v, t) :: L) (w ++ ws)
theorem Own.mono {v : V} {t : T} {w : List Addr} (k : Kp H H' av av') (hw : ∀ b ∈ w, H' b = H b) (h : Own K H av v t w) : Own K H' av' v t w := by
  cases h with
  | pure r => exact .pure (r.mono k)
  | lst h r => exact .lst (by rw [hw _ (by simp)]; exact h) (r.mono k)
  | obj h e m r => exact .obj (by rw [hw _ (by simp)]; exact h) e m (r.mono k)
  | ob h e r => exact .ob (by rw [hw _ (by simp)]; exact h) e (r.mono k fun b hb => hw b (List.mem_cons_of_mem _ hb))
  | dct h f r1 r2 => exact .dct (by rw [hw _ (by simp)]; exact h) f (r1.mono k) (r2.mono k)
theorem OwnAll.mono (k : Kp H H' av av') : ∀ {L : List VT} {ws : List Addr}, (∀ b ∈ ws, H' b = H b) → OwnAll K H av L ws → OwnAll K H' av' L ws
  | _, _, _, .nil => .nil
  | _, _, hw, .cons h t => .cons (h.mono k fun b hb => hw b (List.mem_append_left _ hb)) (OwnAll.mono k (fun b hb => hw b (List.mem_append_right _ hb)) t)
theorem Own.there {v : V} {t : T} {w : List Addr} (h : Own K H av v t w) : ∀ b ∈ w, H b ≠ none := by
  cases h with
  | pure r => intro b hb; cases hb
  | lst h r => intro b hb; have e : b = _ := List.mem_singleton.mp hb; subst e; rw [h]; simp
  | obj h e m r => intro b hb; have e : b = _ := List.mem_singleton.mp hb; subst e; rw [h]; simp
  | ob h e r =>
    intro b hb
    rcases List.mem_cons.mp hb with rfl | hb
    · rw [h]; simp
    · exact r.there b hb
  | dct h f r1 r2 => intro b hb; have e : b = _ := List.mem_singleton.mp hb; subst e; rw [h]; simp
theorem OwnAll.there : ∀ {L : List VT} {ws : List Addr}, OwnAll K H av L ws → ∀ b ∈ ws, H b ≠ none
  | _, _, .nil, b, hb => by cases hb
  | _, _, .cons h t, b, hb => by
    rcases List.mem_append.mp hb with hb | hb
    · exact h.there b hb
    · exact OwnAll.there t b hb
theorem OwnAll.get : ∀ {L : List VT} {ws : List Addr} {v : V} {t : T}, OwnAll K H av L ws → (v, t) ∈ L → ∃ w, Own K H av v t w ∧ ∀ b ∈ w, b ∈ ws
  | _, _, _, _, .nil, h => by cases h
  | _, _, v, t, .cons (w := w) h r, hm => by
    rcases List.mem_cons.mp hm with e | hm
    · cases e; exact ⟨_, h, fun b hb => List.mem_append_left _ hb⟩
    · obtain ⟨w', h1, h2⟩ := OwnAll.get r hm
      exact ⟨w', h1, fun b hb => List.mem_append_right _ (h2 b hb)⟩
theorem OwnAll.perm {L L' : List VT} (p : L.Perm L') : ∀ {ws : List Addr}, OwnAll K H av L ws → ∃ ws', OwnAll K H av L' ws' ∧ ws.Perm ws' := by
  induction p with
  | nil => intro ws h; exact ⟨ws, h, .refl _⟩
  | cons x _ ih =>
    intro ws h
    cases h with
    | cons h t =>
      obtain ⟨ws', h1, h2⟩ := ih t
      exact ⟨_, .cons h h1, h2.append_left _⟩
  | swap x y l =>
    intro ws h
    cases h with
    | cons h t =>
      cases t with
      | cons h2 t =>
        refine ⟨_, .cons h2 (.cons h t), ?_⟩
        rw [← List.append_assoc, ← List.append_assoc]
        exact List.perm_append_comm.append_right _
  | trans _ _ ih1 ih2 =>
    intro ws h
    obtain ⟨w1, a1, b1⟩ := ih1 h
    obtain ⟨w2, a2, b2⟩ := ih2 a1
    exact ⟨w2, a2, b1.trans b2⟩

structure SepW (K : PySem.W.Frag) (H : Hp) (L : List VT) (ws : List Addr) : Prop where
  own : OwnAll K H (· ∈ ws) L ws
  nd : ws.Nodup
def Sep (K : PySem.W.Frag) (H : Hp) (L : List VT) : Prop := ∃ ws, SepW K H L ws
theorem Sep.perm {L L' : List VT} (p : L.Perm L') (s : Sep K H L) : Sep K H L' := by
  obtain ⟨ws, h, n⟩ := s
  obtain ⟨ws', h', q⟩ := h.perm p
  exact ⟨ws', h'.mono (Kp.weak fun b hb => q.mem_iff.mpr hb) (fun _ _ => rfl), q.nodup_iff.mp n⟩
theorem Sep.drop {x : VT} {L : List VT} (s : Sep K H (x :: L)) : Sep K H L := by
  obtain ⟨ws, h, n⟩ := s
  cases h with
  | cons h t => exact ⟨_, t.mono (Kp.weak fun b hb => List.mem_append_right _ hb) fun _ _ => rfl, (List.nodup_append.mp n).2.1⟩
theorem Sep.drops {L L' : List VT} (s : Sep K H (L ++ L')) : Sep K H L' := by
  induction L with
  | nil => exact s
  | cons x L ih => exact ih s.drop
theorem Sep.drop_mid {A B C : List VT} (s : Sep K H (A ++ (B ++ C))) : Sep K H (A ++ C) := by
  have p : (A ++ (B ++ C)).Perm (B ++ (A ++ C)) := by
    rw [← List.append_assoc, ← List.append_assoc]
    exact List.perm_append_comm.append_right _
  exact (s.perm p).drops
theorem SepW.pure {L : List VT} {ws : List Addr} {v : V} {d : D} (s : SepW K H L ws) (r : Rep K H (· ∈ ws) v d) : SepW K H ((v, (false, d)) :: L) ws :=
  ⟨.cons (w := []) (.pure r) s.own, s.nd⟩
theorem SepW.rep {L : List VT} {ws : List Addr} {v : V} {d : D} (s : SepW K H L ws) (h : (v, (false, d)) ∈ L) : Rep K H (· ∈ ws) v d := by
  obtain ⟨w, o, _⟩ := s.own.get h
  cases o with
  | pure r => exact r
theorem Sep.dup {L : List VT} {v : V} {d : D} (s : Sep K H L) (h : (v, (false, d)) ∈ L) : Sep K H ((v, (false, d)) :: L) := by
  obtain ⟨ws, s⟩ := s
  exact ⟨ws, s.pure (s.rep h)⟩
/-- nobody owns it any more -/
theorem Sep.freeze {L : List VT} {v : V} {o : Bool} {d : D} (s : Sep K H ((v, (o, d)) :: L)) : Sep K H ((v, (false, d)) :: L) := by
  cases o with
  | false => exact s
  | true =>
    obtain ⟨ws, h, n⟩ := s
    cases h with
    | @cons _ _ _ w ws' h t =>
      cases h with
      | @lst a vs ds h r =>
        obtain ⟨n1, n2⟩ := List.nodup_cons.mp n
        have k : Kp H H (fun b => b ∈ [a] ++ ws') (fun b => b ∈ ws') := Kp.weak fun b hb => List.mem_append_right _ hb
        exact ⟨ws', .cons (w := []) (.pure (.lst n1 h (r.mono k))) (t.mono k fun _ _ => rfl), n2⟩
      | @obj a C dx c fs gs h e m r =>
        obtain ⟨n1, n2⟩ := List.nodup_cons.mp n
        have k : Kp H H (fun b => b ∈ [a] ++ ws') (fun b => b ∈ ws') := Kp.weak fun b hb => List.mem_append_right _ hb
        exact ⟨ws', .cons (w := []) (.pure (.obj n1 h e m (r.mono k))) (t.mono k fun _ _ => rfl), n2⟩
      | @dct a es vs kvs h f r1 r2 =>
        obtain ⟨n1, n2⟩ := List.nodup_cons.mp n
        have k : Kp H H (fun b => b ∈ [a] ++ ws') (fun b => b ∈ ws') := Kp.weak fun b hb => List.mem_append_right _ hb
        exact ⟨ws', .cons (w := []) (.pure (.dct n1 h f (r1.mono k) (r2.mono k))) (t.mono k fun _ _ => rfl), n2⟩
      | @ob a C dx c fs gs w' h e r =>
        have n' : (a :: (w' ++ ws')).Nodup := n
        obtain ⟨n1, n2⟩ := List.nodup_cons.mp n'
        obtain ⟨n3, n4, n5⟩ := List.nodup_append.mp n2
        have k : Kp H H (fun b => b ∈ (a :: w') ++ ws') (fun b => b ∈ ws') := Kp.weak fun b hb => List.mem_append_right _ hb
        refine ⟨ws', .cons (w := []) (.pure (.ob (fun q => n1 (List.mem_append_right _ q)) h e r.names (r.rep (fun b hb => List.mem_append_right _ hb) fun b hb q => n5 b hb b q rfl))) (t.mono k fun _ _ => rfl), n4⟩
theorem SepW.fresh {L : List VT} {ws : List Addr} {p : Addr} (s : SepW K H L ws) (h : H p = none) : p ∉ ws := fun q => s.own.there p q h
/-- a new thing that nobody owns -/
theorem SepW.laid {L : List VT} {ws : List Addr} {p : Addr} {o : HO} (s : SepW K H L ws) (h : H p = none) : SepW K (upd H p o) L ws :=
  ⟨s.own.mono (Kp.laid h) fun b hb => upd_ne fun e => s.fresh h (e ▸ hb), s.nd⟩
theorem SepW.newTup {L : List VT} {ws : List Addr} {p : Addr} {o : Obj} {vs : List V} {ds : List D} (s : SepW K H L ws) (h : H p = none) (ho : o.dict = none) (r : RepAll K H (· ∈ ws) vs ds) : SepW K (upd H p (.frz o (.tup vs))) ((.ref p, (false, .tup ds)) :: L) ws :=
  (s.laid h).pure (.tup (s.fresh h) upd_same ho (r.mono (Kp.laid h)))
theorem Kp.laidO {p : Addr} {o : HO} {ws : List Addr} (h : H p = none) : Kp H (upd H p o) (· ∈ ws) (· ∈ p :: ws) :=
  ⟨fun b u q _ => by rw [upd_ne (ne_of_none q h)]; exact q, fun b q => by
    rcases List.mem_cons.mp q with e | q
    · exact .inr (e ▸ h)
    · exact .inl q⟩
theorem SepW.newLst {L : List VT} {ws : List Addr} {p : Addr} {vs : List V} {ds : List D} (s : SepW K H L ws) (h : H p = none) (r : RepAll K H (· ∈ ws) vs ds) : SepW K (upd H p (.lst vs)) ((.ref p, (true, .lst ds)) :: L) (p :: ws) :=
  ⟨.cons (w := [p]) (.lst upd_same (r.mono (Kp.laidO h))) (s.own.mono (Kp.laidO h) fun b hb => upd_ne fun e => s.fresh h (e ▸ hb)), List.nodup_cons.mpr ⟨s.fresh h, s.nd⟩⟩
/-- an owned list changes -/
theorem SepW.chgLst {L : List VT} {ws : List Addr} {v : V} {ds0 : List D} {vs : List V} {ds : List D} {a : Addr} (s : SepW K H ((v, (true, .lst ds0)) :: L) ws) (hv : v = .ref a) (r : RepAll K H (· ∈ ws) vs ds) : SepW K (upd H a (.lst vs)) ((.ref a, (true, .lst ds)) :: L) ws := by
  subst hv
  obtain ⟨h, n⟩ := s
  cases h with
  | @cons _ _ _ w ws' h t =>
    have ew : w = [a] := by cases h <;> rfl
    subst ew
    have n1 := (List.nodup_cons.mp n).1
    have k : Kp H (upd H a (.lst vs)) (· ∈ [a] ++ ws') (· ∈ [a] ++ ws') := ⟨fun b o q nb => by
      have ne : b ≠ a := fun e => nb (by rw [e]; simp)
      rw [upd_ne ne]; exact q, fun _ q => .inl q⟩
    exact ⟨.cons (.lst upd_same (r.mono k)) (t.mono k fun b hb => upd_ne fun e => n1 (by rw [← e]; exact hb)), n⟩
/-! ### looking at what is there -/
theorem SepW.tup {L : List VT} {ws : List Addr} {v : V} {o : Bool} {ds : List D} (s : SepW K H L ws) (hm0 : (v, (o, D.tup ds)) ∈ L) : ∃ a vs, v = .ref a ∧ SqT K H a vs ∧ RepAll K H (· ∈ ws) vs ds ∧ TupD K H a := by
  obtain ⟨w, q, _⟩ := s.own.get hm0
  cases q with
  | pure r =>
    cases r with
    | tup n h e r => exact ⟨_, _, rfl, .inl (.inr ⟨_, h⟩), r, .inl ⟨_, _, h, e⟩⟩
    | ktup h r =>
      have h' := h
      obtain ⟨o, its, n, h1, h2, h3, _⟩ := h'
      exact ⟨_, _, rfl, h.sq, r, .inr ⟨o, h1, h2, h3⟩⟩
theorem SepW.lst {L : List VT} {ws : List Addr} {v : V} {o : Bool} {ds : List D} (s : SepW K H L ws) (hm0 : (v, (o, D.lst ds)) ∈ L) : ∃ a vs, v = .ref a ∧ H a = some (.lst vs) ∧ RepAll K H (· ∈ ws) vs ds := by
  obtain ⟨w, q, _⟩ := s.own.get hm0
  cases q with
  | pure r =>
    cases r with
    | lst n h r => exact ⟨_, _, rfl, h, r⟩
  | lst h r => exact ⟨_, _, rfl, h, r⟩
theorem SepW.scr {L : List VT} {ws : List Addr} {v : V} {o : Bool} {ns : List Int} (s : SepW K H L ws) (hm0 : (v, (o, D.scr ns)) ∈ L) : ∃ a, v = .ref a ∧ SqL K H a (ns.map V.int) := by
  obtain ⟨w, q, _⟩ := s.own.get hm0
  cases q with
  | pure r =>
    cases r with
    | scr n h => exact ⟨_, rfl, .inl (.inr ⟨_, h⟩)⟩
    | kscr h => exact ⟨_, rfl, .inr h⟩
theorem SepW.obj {L : List VT} {ws : List Addr} {v : V} {o : Bool} {c : Str} {gs : List (Str × D)} (s : SepW K H L ws) (hm0 : (v, (o, D.obj c gs)) ∈ L) :
    ∃ a dx fs, v = .ref a ∧ H a = some (.ins (He.ga K c) dx fs) ∧ fs.map (·.1) = gs.map (·.1) ∧ RepAll K H (· ∈ ws) (fs.map (·.2)) (gs.map (·.2)) := by
  obtain ⟨w, q, _⟩ := s.own.get hm0
  cases q with
  | pure r =>
    cases r with
    | obj n h e m r => subst e; exact ⟨_, _, _, rfl, h, m, r⟩
  | obj h e m r => subst e; exact ⟨_, _, _, rfl, h, m, r⟩
theorem SepW.int {L : List VT} {ws : List Addr} {v : V} {o : Bool} {i : Int} (s : SepW K H L ws) (hm0 : (v, (o, D.int i)) ∈ L) : v = .int i := by
  obtain ⟨w, q, _⟩ := s.own.get hm0
  cases q with | pure r => cases r with | int i => rfl
theorem SepW.bl {L : List VT} {ws : List Addr} {v : V} {o : Bool} {i : Bool} (s : SepW K H L ws) (hm0 : (v, (o, D.bl i)) ∈ L) : v = .bl i := by
  obtain ⟨w, q, _⟩ := s.own.get hm0
  cases q with | pure r => cases r with | bl i => rfl
theorem SepW.str {L : List VT} {ws : List Addr} {v : V} {o : Bool} {i : Str} (s : SepW K H L ws) (hm0 : (v, (o, D.str i)) ∈ L) : v = .str i := by
  obtain ⟨w, q, _⟩ := s.own.get hm0
  cases q with | pure r => cases r with | str i => rfl
theorem SepW.non {L : List VT} {ws : List Addr} {v : V} {o : Bool} (s : SepW K H L ws) (hm0 : (v, (o, D.non)) ∈ L) : v = .non := by
  obtain ⟨w, q, _⟩ := s.own.get hm0
  cases q with | pure r => cases r with | non => rfl
/-- as data that is looked at -/
theorem SepW.any {L : List VT} {ws : List Addr} {v : V} {o : Bool} {d : D} (s : SepW K H L ws) (hm0 : (v, (o, d)) ∈ L) : Rep K H (fun _ => False) v d := by
  obtain ⟨w, q, _⟩ := s.own.get hm0
  have k : Kp H H (· ∈ ws) (fun _ => False) := Kp.weak fun b hb => hb.elim
  cases q with
  | pure r => exact r.mono k
  | lst h r => exact .lst (fun q => q) h (r.mono k)
  | obj h e m r => exact .obj (fun q => q) h e m (r.mono k)
  | ob h e r => exact .ob (fun q => q) h e r.names (r.rep (fun b hb => hb.elim) fun b _ q => q)
  | dct h f r1 r2 => exact .dct (fun q => q) h f (r1.mono k) (r2.mono k)
theorem dp_ints : ∀ ns : List Int, DpAll K H (ns.map V.int) (ns.map PyData.int)
  | [] => .nil
  | n :: ns => .cons (.int n) (dp_ints ns)
mutual
theorem Rep.dp : ∀ {v : V} {d : D}, Rep K H av v d → d.toPy.canLay0 = true → Dp K H v d.toPy
  | _, _, .non, _ => by rw [D.toPy]; exact .non
  | _, _, .bl b, _ => by rw [D.toPy]; exact .bl b
  | _, _, .int i, _ => by rw [D.toPy]; exact .int i
  | _, _, .str x, _ => by rw [D.toPy]; exact .str x
  | _, _, .tup n h1 e r, q => by
    rw [D.toPy] at q ⊢
    rw [PyData.canLay0] at q
    exact .tup (.inl (.inr ⟨_, h1⟩)) (RepAll.dp r q)
  | _, _, .ktup h1 r, q => by
    rw [D.toPy] at q ⊢
    rw [PyData.canLay0] at q
    exact .tup h1.sq (RepAll.dp r q)
  | _, _, .lst n h1 r, q => by
    rw [D.toPy] at q ⊢
    rw [PyData.canLay0] at q
    exact .lst (.inl (.inl h1)) (RepAll.dp r q)
  | _, _, .scr (ns := ns) n h1, q => by
    rw [D.toPy]
    exact .lst (.inl (.inr ⟨_, h1⟩)) (dp_ints ns)
  | _, _, .kscr (ns := ns) h1, q => by
    rw [D.toPy]
    exact .lst (.inr h1) (dp_ints ns)
  | _, _, .obj n h1 e m r, q => by
    rw [D.toPy, PyData.canLay0] at q
    cases q
  | _, _, .ob n h1 e m r, q => by
    rw [D.toPy, PyData.canLay0] at q
    cases q
  | _, _, .dct n h1 f r1 r2, q => by
    rw [D.toPy, PyData.canLay0] at q
    cases q
theorem RepAll.dp : ∀ {vs : List V} {ds : List D}, RepAll K H av vs ds → PyData.canLayAll0 (D.toPys ds) = true → DpAll K H vs (D.toPys ds)
  | _, _, .nil, _ => by rw [D.toPys]; exact .nil
  | _, _, .cons h1 t, q => by
    rw [D.toPys] at q ⊢
    rw [PyData.canLayAll0, Bool.and_eq_true] at q
    exact .cons (Rep.dp h1 q.1) (RepAll.dp t q.2)
end
end
end Lz
/-! slots, states, the judgement that an expression does what a function of the slots says -/
namespace Lz
open PySem PySem.Spec PyProof.Rows L2

abbrev Sg := L2.St
/-! ### slots -/
def gt : Env → Nat → Option T
  | [], _ => none
  | x :: _, 0 => x
  | _ :: r, n + 1 => gt r n
def pt : Env → Nat → Option T → Env
  | [], _, _ => []
  | _ :: r, 0, x => x :: r
  | y :: r, n + 1, x => y :: pt r n x
def SOk : Sg → Env → Prop
  | [], [] => True
  | s :: σ, t :: ρ => (t.isSome = true → s.isSome = true) ∧ SOk σ ρ
  | _, _ => False
def slotsL : Sg → Env → List VT
  | some v :: σ, some t :: ρ => (v, t) :: slotsL σ ρ
  | _ :: σ, _ :: ρ => slotsL σ ρ
  | _, _ => []
theorem gt_pt_same : ∀ (ρ : Env) (i : Nat) (x : Option T), i < ρ.length → gt (pt ρ i x) i = x
  | [], _, _, h => by simp at h
  | _ :: r, 0, x, h => rfl
  | _ :: r, i + 1, x, h => gt_pt_same r i x (by simpa using h)
theorem gt_pt_ne : ∀ (ρ : Env) (i j : Nat) (x : Option T), i ≠ j → gt (pt ρ i x) j = gt ρ j
  | [], _, _, _, h => rfl
  | _ :: r, 0, 0, x, h => absurd rfl h
  | _ :: r, 0, j + 1, x, h => rfl
  | _ :: r, i + 1, 0, x, h => rfl
  | _ :: r, i + 1, j + 1, x, h => gt_pt_ne r i j x (by omega)
theorem pt_len : ∀ (ρ : Env) (i : Nat) (x : Option T), (pt ρ i x).length = ρ.length
  | [], _, _ => rfl
  | _ :: r, 0, x => rfl
  | _ :: r, i + 1, x => by show (pt r i x).length + 1 = _; rw [pt_len r i x]; rfl
theorem gt_lt : ∀ {ρ : Env} {i : Nat} {t : T}, gt ρ i = some t → i < ρ.length
  | [], _, _, h => by cases h
  | _ :: r, 0, _, h => by simp
  | _ :: r, i + 1, t, h => by have := gt_lt (ρ := r) (i := i) h; simp; omega
theorem SOk.len : ∀ {σ : Sg} {ρ : Env}, SOk σ ρ → σ.length = ρ.length
  | [], [], _ => rfl
  | [], _ :: _, h => h.elim
  | _ :: _, [], h => h.elim
  | _ :: σ, _ :: ρ, h => by simp; exact SOk.len h.2
theorem SOk.slot : ∀ {σ : Sg} {ρ : Env} {i : Nat} {t : T}, SOk σ ρ → gt ρ i = some t → ∃ v, σ[i]? = some (some v)
  | [], _ :: _, _, _, h, _ => h.elim
  | _, [], _, _, _, e => by cases e
  | s :: σ, x :: ρ, 0, t, h, e => by
    have e' : x = some t := e
    subst e'
    have := h.1 rfl
    obtain ⟨v, rfl⟩ := Option.isSome_iff_exists.mp this
    exact ⟨v, rfl⟩
  | s :: σ, x :: ρ, i + 1, t, h, e => by
    obtain ⟨v, q⟩ := SOk.slot (i := i) (t := t) h.2 e
    exact ⟨v, by simpa using q⟩
theorem SOk.put : ∀ {σ : Sg} {ρ : Env} (i : Nat) (v : V) (t : T), SOk σ ρ → SOk (σ.set i (some v)) (pt ρ i (some t))
  | [], [], i, v, t, h => by cases i <;> exact trivial
  | [], _ :: _, _, _, _, h => h.elim
  | _ :: _, [], _, _, _, h => h.elim
  | s :: σ, x :: ρ, 0, v, t, h => ⟨fun _ => rfl, h.2⟩
  | s :: σ, x :: ρ, i + 1, v, t, h => ⟨h.1, SOk.put i v t h.2⟩
theorem SOk.clear : ∀ {σ : Sg} {ρ : Env} (i : Nat), SOk σ ρ → SOk σ (pt ρ i none)
  | [], [], i, h => trivial
  | [], _ :: _, _, h => h.elim
  | _ :: _, [], _, h => h.elim
  | s :: σ, x :: ρ, 0, h => ⟨fun q => (by cases q), h.2⟩
  | s :: σ, x :: ρ, i + 1, h => ⟨h.1, SOk.clear i h.2⟩
theorem SOk.keep {v : V} {t : T} : ∀ {σ : Sg} {ρ : Env} (i : Nat), SOk σ ρ → σ[i]? = some (some v) → SOk σ (pt ρ i (some t))
  | [], [], i, h, _ => trivial
  | [], _ :: _, _, h, _ => h.elim
  | _ :: _, [], _, h, _ => h.elim
  | s :: σ, x :: ρ, 0, h, e => ⟨fun _ => by simp at e; subst e; rfl, h.2⟩
  | s :: σ, x :: ρ, i + 1, h, e => ⟨h.1, SOk.keep i h.2 (by simpa using e)⟩
theorem slots_take : ∀ {σ : Sg} {ρ : Env} {i : Nat} {v : V} {t : T}, σ[i]? = some (some v) → gt ρ i = some t → (slotsL σ ρ).Perm ((v, t) :: slotsL σ (pt ρ i none))
  | [], _, _, _, _, h, _ => by simp at h
  | _, [], _, _, _, _, e => by cases e
  | s :: σ, x :: ρ, 0, v, t, h, e => by
    have e' : x = some t := e
    have h' : s = some v := by simpa using h
    subst e' h'
    exact .refl _
  | s :: σ, x :: ρ, i + 1, v, t, h, e => by
    have ih := slots_take (σ := σ) (ρ := ρ) (i := i) (v := v) (t := t) (by simpa using h) e
    cases s with
    | none => exact ih
    | some u =>
      cases x with
      | none => exact ih
      | some y => exact (ih.cons _).trans (.swap _ _ _)
theorem slots_mem {σ : Sg} {ρ : Env} {i : Nat} {v : V} {t : T} (h : σ[i]? = some (some v)) (e : gt ρ i = some t) : (v, t) ∈ slotsL σ ρ := (slots_take h e).mem_iff.mpr List.mem_cons_self
theorem slots_set_none : ∀ (σ : Sg) (ρ : Env) (i : Nat) (x : Option V), slotsL (σ.set i x) (pt ρ i none) = slotsL σ (pt ρ i none)
  | [], _, i, _ => by cases i <;> rfl
  | s :: σ, [], i, x => by cases i <;> (cases s <;> cases x <;> rfl)
  | s :: σ, y :: ρ, 0, x => by cases s <;> cases x <;> rfl
  | s :: σ, y :: ρ, i + 1, x => by
    have ih := slots_set_none σ ρ i x
    cases s <;> cases y <;> first | exact ih | (show _ :: _ = _ :: _; rw [ih])
theorem pt_pt : ∀ (ρ : Env) (i : Nat) (x y : Option T), pt (pt ρ i x) i y = pt ρ i y
  | [], _, _, _ => rfl
  | _ :: r, 0, _, _ => rfl
  | z :: r, i + 1, x, y => by show z :: _ = z :: _; rw [pt_pt r i x y]
theorem slots_put {σ : Sg} {ρ : Env} {i : Nat} {v : V} {t : T} (hσ : i < σ.length) (hρ : i < ρ.length) : (slotsL (σ.set i (some v)) (pt ρ i (some t))).Perm ((v, t) :: slotsL σ (pt ρ i none)) := by
  have h := slots_take (σ := σ.set i (some v)) (ρ := pt ρ i (some t)) (i := i) (v := v) (t := t) (by simp [hσ]) (gt_pt_same ρ i _ hρ)
  have e : pt (pt ρ i (some t)) i none = pt ρ i none := pt_pt ρ i _ _
  rw [e, slots_set_none] at h
  exact h
theorem pt_none : ∀ (ρ : Env) (i : Nat), gt ρ i = none → pt ρ i none = ρ
  | [], _, _ => rfl
  | x :: r, 0, h => by have h' : x = none := h; subst h'; rfl
  | x :: r, i + 1, h => by show x :: pt r i none = x :: r; rw [pt_none r i h]
theorem pt_self : ∀ (ρ : Env) (i : Nat) (t : T), gt ρ i = some t → pt ρ i (some t) = ρ
  | [], _, _, _ => rfl
  | x :: r, 0, t, h => by have h' : x = some t := h; subst h'; rfl
  | x :: r, i + 1, t, h => by show x :: pt r i (some t) = x :: r; rw [pt_self r i t h]
/-- a slot's content behind a change of it alone: v stays -/
theorem slots_keep {σ : Sg} {ρ : Env} {i : Nat} {v : V} {t : T} (h : σ[i]? = some (some v)) (hρ : i < ρ.length) : (slotsL σ (pt ρ i (some t))).Perm ((v, t) :: slotsL σ (pt ρ i none)) := by
  have q := slots_take (σ := σ) (ρ := pt ρ i (some t)) h (gt_pt_same ρ i _ hρ)
  rw [pt_pt] at q
  exact q

/-! ### states -/
structure Stt (K : PySem.W.Frag) (hs : List VT) (σ : Sg) (H : Hp) (ρ : Env) : Prop where
  ok : SOk σ ρ
  sep : Sep K H (slotsL σ ρ ++ hs)
def ResV (σ : Sg) (x : XV) (v : V) : Prop := match x with
  | .b i => σ[i]? = some (some v)
  | .v _ _ => True
def hld (x : XV) (v : V) : List VT := match x with
  | .v o d => [(v, (o, d))]
  | .b _ => []
def fin (K : PySem.W.Frag) (W : WX) (hs : List VT) (σ : Sg) (r : R XV) (Q : VK) : Prop := match r with
  | .ok x ρ => ∀ v H, ResV σ x v → Stt K (hld x v ++ hs) σ H ρ → Q v H
  | .exc c ρ => ∀ H, Stt K hs σ H ρ → W (.ref (He.ga K c)) none σ H
  | .bad => False
def tE (K : PySem.W.Frag) (W : WX) (f : Env → R XV) : TE := fun σ H Q => ∃ ρ hs, Stt K hs σ H ρ ∧ fin K W hs σ (f ρ) Q
def SE (X : Cx) (W : WX) (e : Expr) (f : Env → R XV) : Prop := PE X e (tE X.K W f)
def view (x : XV) (ρ : Env) : Option D := match x with
  | .v _ d => some d
  | .b i => (gt ρ i).map (·.2)

section
variable {K : PySem.W.Frag} {W : WX} {hs : List VT} {σ : Sg} {H : Hp} {ρ : Env} {x : XV} {v : V}
theorem Stt.dropA {A : List VT} (s : Stt K (A ++ hs) σ H ρ) : Stt K hs σ H ρ := ⟨s.ok, s.sep.drop_mid⟩
theorem Stt.mem (s : Stt K hs σ H ρ) (h : ResV σ x v) (hm : ∀ p ∈ hld x v, p ∈ hs) {d : D} (e : view x ρ = some d) : ∃ o, (v, (o, d)) ∈ slotsL σ ρ ++ hs := by
  cases x with
  | v o d' =>
    have e' : d' = d := Option.some.inj e
    subst e'
    exact ⟨o, List.mem_append_right _ (hm _ (List.mem_singleton.mpr rfl))⟩
  | b i =>
    have e' : (gt ρ i).map (·.2) = some d := e
    cases q : gt ρ i with
    | none => rw [q] at e'; cases e'
    | some t =>
      rw [q] at e'
      have e2 : t.2 = d := Option.some.inj e'
      subst e2
      exact ⟨t.1, List.mem_append_left _ (slots_mem h q)⟩
theorem fin_bind {k : XV → Env → R XV} {r : R XV} {Q : VK} (A : List VT) (h : fin K W hs σ (r.bind k) Q) :
    fin K W (A ++ hs) σ r (fun v H1 => ∃ x ρ1, ResV σ x v ∧ Stt K (hld x v ++ (A ++ hs)) σ H1 ρ1 ∧ fin K W hs σ (k x ρ1) Q) := by
  cases r with
  | ok x ρ => exact fun v H1 hv s => ⟨x, ρ, hv, s, h⟩
  | exc c ρ => exact fun H1 s => h H1 s.dropA
  | bad => exact h
theorem fin_bind0 {k : XV → Env → R XV} {r : R XV} {Q : VK} (h : fin K W hs σ (r.bind k) Q) :
    fin K W hs σ r (fun v H1 => ∃ x ρ1, ResV σ x v ∧ Stt K (hld x v ++ hs) σ H1 ρ1 ∧ fin K W hs σ (k x ρ1) Q) := fin_bind [] h
theorem fin_mono {r : R XV} {Q Q' : VK} (h : fin K W hs σ r Q) (m : ∀ v H, Q v H → Q' v H) : fin K W hs σ r Q' := by
  cases r with
  | ok x ρ => exact fun v H1 hv s => m _ _ (h v H1 hv s)
  | exc c ρ => exact h
  | bad => exact h
end

theorem PE.weak {X : Cx} {e : Expr} {t t' : TE} (h : PE X e t) (w : ∀ σ H Q, t' σ H Q → t σ H Q) : PE X e t' := ⟨fun pins s σ H Q I q => h.run pins s σ H Q I (w σ H Q q)⟩

/-! ### names, constants -/
def sVar (i : Nat) (ρ : Env) : R XV := match gt ρ i with
  | some (true, _) => .ok (.b i) ρ
  | some (false, d) => .ok (.v false d) ρ
  | none => .bad
def sC (d : D) (ρ : Env) : R XV := .ok (.v false d) ρ

section
variable {X : Cx} {W : WX}
theorem se_var {i : Nat} {x : Str} {pos : Pos} (hN : X.N[i]? = some x) (hv : Vis X.env.scope x) (hd : (x == ("__debug__" : Str)) = false) (hcd : (x == ("__classdict__" : Str)) = false) : SE X W (.Name x pos) (sVar i) := by
  refine PE.weak (pe_var hN hv hd hcd) fun σ H Q h => ?_
  obtain ⟨ρ, hs, s, f⟩ := h
  unfold sVar at f
  cases e : gt ρ i with
  | none => rw [e] at f; exact f.elim
  | some t =>
    obtain ⟨o, d⟩ := t
    rw [e] at f
    obtain ⟨v, hv⟩ := s.ok.slot e
    refine ⟨v, hv, ?_⟩
    cases o with
    | true => exact f v H hv s
    | false =>
      refine f v H trivial ⟨s.ok, ?_⟩
      have q := s.sep.dup (v := v) (d := d) (List.mem_append_left _ (slots_mem hv e))
      exact q.perm List.perm_middle.symm
theorem fin_c {K : PySem.W.Frag} {hs : List VT} {σ : Sg} {H : Hp} {ρ : Env} {Q : VK} {v : V} {d : D} (s : Stt K hs σ H ρ) (r : ∀ av, Rep K H av v d) (f : fin K W hs σ (sC d ρ) Q) : Q v H := by
  refine f v H trivial ⟨s.ok, ?_⟩
  obtain ⟨ws, q⟩ := s.sep
  exact Sep.perm List.perm_middle.symm ⟨ws, q.pure (r _)⟩
theorem se_cst {e : Expr} {v : V} {d : D} (h : PE X e (tC v)) (r : ∀ H av, Rep X.K H av v d) : SE X W e (sC d) :=
  PE.weak h fun σ H Q ⟨ρ, hs, s, f⟩ => fin_c s (r H) f
theorem se_int {i j pos} : SE X W (.Constant (.int i) j pos) (sC (.int i)) := se_cst pe_int fun _ _ => .int i
theorem se_bl {i j pos} : SE X W (.Constant (.bool i) j pos) (sC (.bl i)) := se_cst pe_bl fun _ _ => .bl i
theorem se_non {j pos} : SE X W (.Constant .none j pos) (sC .non) := se_cst pe_non fun _ _ => .non
theorem se_str {x j pos} : SE X W (.Constant (.str x) j pos) (sC (.str x)) := se_cst pe_str fun _ _ => .str x
end

/-! ### operators on values -/
def rOp (K : PySem.W.Frag) (f : D → D → Option T) : R2 := fun x y H Q => ∃ L d e o o' t, Sep K H L ∧ (x, (o, d)) ∈ L ∧ (y, (o', e)) ∈ L ∧ f d e = some t ∧ ∀ w H', Sep K H' ((w, t) :: L) → Q w H'
def rUnD (K : PySem.W.Frag) (f : D → Option T) : V → Hp → VK → Prop := fun x H Q => ∃ L d o t, Sep K H L ∧ (x, (o, d)) ∈ L ∧ f d = some t ∧ ∀ w H', Sep K H' ((w, t) :: L) → Q w H'
def op2 (f : D → D → Option T) (x y : XV) (ρ : Env) : R XV := match view x ρ, view y ρ with
  | some d, some e => (match f d e with
    | some t => .ok (.v t.1 t.2) ρ
    | none => .bad)
  | _, _ => .bad
def op1 (f : D → Option T) (x : XV) (ρ : Env) : R XV := match view x ρ with
  | some d => (match f d with
    | some t => .ok (.v t.1 t.2) ρ
    | none => .bad)
  | _ => .bad
def sBin (f : D → D → Option T) (a b : Env → R XV) (ρ : Env) : R XV := (a ρ).bind fun x ρ => (b ρ).bind fun y ρ => op2 f x y ρ
def sUn (f : D → Option T) (a : Env → R XV) (ρ : Env) : R XV := (a ρ).bind fun x ρ => op1 f x ρ

section
variable {K : PySem.W.Frag} {W : WX} {hs A : List VT} {σ : Sg} {H : Hp} {ρ : Env} {x y : XV} {v u : V} {Q : VK}
/-- what the answer leaves -/
theorem Stt.done {t : T} {w : V} {H' : Hp} (s : Stt K (A ++ hs) σ H ρ) (q : Sep K H' ((w, t) :: (slotsL σ ρ ++ (A ++ hs)))) : Stt K (hld (.v t.1 t.2) w ++ hs) σ H' ρ := by
  refine ⟨s.ok, ?_⟩
  have p : ((w, t) :: (slotsL σ ρ ++ (A ++ hs))).Perm (slotsL σ ρ ++ ((w, t) :: (A ++ hs))) := List.perm_middle.symm
  have q1 := q.perm p
  have e : slotsL σ ρ ++ ((w, t) :: (A ++ hs)) = (slotsL σ ρ ++ [(w, t)]) ++ (A ++ hs) := by simp
  rw [e] at q1
  have q2 := q1.drop_mid
  rw [List.append_assoc] at q2
  exact q2
theorem op2_ok {f : D → D → Option T} (s : Stt K (A ++ hs) σ H ρ) (hx : ResV σ x v) (hy : ResV σ y u) (mx : ∀ p ∈ hld x v, p ∈ A ++ hs) (my : ∀ p ∈ hld y u, p ∈ A ++ hs)
    (h : fin K W hs σ (op2 f x y ρ) Q) : rOp K f v u H Q := by
  unfold op2 at h
  cases ex : view x ρ with
  | none => rw [ex] at h; exact h.elim
  | some d =>
    cases ey : view y ρ with
    | none => rw [ex, ey] at h; exact h.elim
    | some e =>
      rw [ex, ey] at h
      dsimp only at h
      cases ef : f d e with
      | none => rw [ef] at h; exact h.elim
      | some t =>
        rw [ef] at h
        obtain ⟨o, m1⟩ := s.mem hx mx ex
        obtain ⟨o', m2⟩ := s.mem hy my ey
        exact ⟨_, d, e, o, o', t, s.sep, m1, m2, ef, fun w H' q => h w H' trivial (s.done q)⟩
theorem op1_ok {f : D → Option T} (s : Stt K (A ++ hs) σ H ρ) (hx : ResV σ x v) (mx : ∀ p ∈ hld x v, p ∈ A ++ hs) (h : fin K W hs σ (op1 f x ρ) Q) : rUnD K f v H Q := by
  unfold op1 at h
  cases ex : view x ρ with
  | none => rw [ex] at h; exact h.elim
  | some d =>
    rw [ex] at h
    dsimp only at h
    cases ef : f d with
    | none => rw [ef] at h; exact h.elim
    | some t =>
      rw [ef] at h
      obtain ⟨o, m1⟩ := s.mem hx mx ex
      exact ⟨_, d, o, t, s.sep, m1, ef, fun w H' q => h w H' trivial (s.done q)⟩
end
section
variable {X : Cx} {W : WX} {a b : Expr} {fa fb : Env → R XV} {pos : Pos}
theorem tOp_of {f : D → D → Option T} {σ : Sg} {H : Hp} {Q : VK} (h : tE X.K W (sBin f fa fb) σ H Q) : tOp (rOp X.K f) (tE X.K W fa) (tE X.K W fb) σ H Q := by
  obtain ⟨ρ, hs, s, h⟩ := h
  refine ⟨ρ, hs, s, fin_mono (fin_bind0 h) fun v H1 ⟨x, ρ1, hx, s1, h1⟩ => ?_⟩
  refine ⟨ρ1, hld x v ++ hs, s1, fin_mono (fin_bind (hld x v) h1) fun u H2 ⟨y, ρ2, hy, s2, h2⟩ => ?_⟩
  rw [← List.append_assoc] at s2
  exact op2_ok s2 hx hy (fun p hp => by simp [hp]) (fun p hp => by simp [hp]) h2
theorem se_bin {op : Operator} {f : D → D → Option T} (ho : OpR X (binaryOp op) (rOp X.K f)) (ha : SE X W a fa) (hb : SE X W b fb) : SE X W (.BinOp a op b pos) (sBin f fa fb) :=
  PE.weak (pe_op ho ha hb) fun _ _ _ => tOp_of
theorem se_cmp {op : CmpOp} {f : D → D → Option T} (ho : OpR X (compareOp op) (rOp X.K f)) (ha : SE X W a fa) (hb : SE X W b fb) (hm : behindInMarks op b = false) : SE X W (.Compare a [op] [b] pos) (sBin f fa fb) :=
  PE.weak (pe_cmpR ho ha hb hm) fun _ _ _ => tOp_of
theorem se_ix {f : D → D → Option T} (ho : IxR X (rOp X.K f)) (ha : SE X W a fa) (hb : SE X W b fb) (hs : PlainIx b) : SE X W (.Subscript a b pos) (sBin f fa fb) :=
  PE.weak (pe_ix ho ha hb hs) fun _ _ _ => tOp_of
theorem se_un {op : UnaryOp} {f : D → Option T} (ho : UnR X (unaryOp op) (rUnD X.K f)) (ha : SE X W a fa) : SE X W (.UnaryOp op a pos) (sUn f fa) := by
  refine PE.weak (pe_un ho ha) fun σ H Q h => ?_
  obtain ⟨ρ, hs, s, h⟩ := h
  refine ⟨ρ, hs, s, fin_mono (fin_bind0 h) fun v H1 ⟨x, ρ1, hx, s1, h1⟩ => ?_⟩
  exact op1_ok s1 hx (fun p hp => by simp [hp]) h1
end
end Lz
/-! tests, and or not, chains, argument lists, displays, calls of built-ins, slices, methods -/
namespace Lz
open PySem PySem.Spec PyProof.Rows L2

theorem Stt.perm {K : PySem.W.Frag} {hs hs' : List VT} {σ : Sg} {H : Hp} {ρ : Env} (s : Stt K hs σ H ρ) (p : hs.Perm hs') : Stt K hs' σ H ρ := ⟨s.ok, s.sep.perm (p.append_left _)⟩

/-! ### tests -/
def finB (K : PySem.W.Frag) (W : WX) (hs : List VT) (σ : Sg) (r : R Bool) (Q : Bool → Hp → Prop) : Prop := match r with
  | .ok c ρ => ∀ H, Stt K hs σ H ρ → Q c H
  | .exc c ρ => ∀ H, Stt K hs σ H ρ → W (.ref (He.ga K c)) none σ H
  | .bad => False
def tT (K : PySem.W.Frag) (W : WX) (g : Env → R Bool) : TT := fun σ H Q => ∃ ρ hs, Stt K hs σ H ρ ∧ finB K W hs σ (g ρ) Q
def SB (X : Cx) (W : WX) (e : Expr) (g : Env → R Bool) : Prop := PT X e (tT X.K W g)
def SW (X : Cx) (W : WX) (e : Expr) (g : Env → R Bool) : Prop := PW X e (tT X.K W g)
def asB (x : XV) (ρ : Env) : R Bool := match view x ρ with
  | some (.bl c) => .ok c ρ
  | _ => .bad
def sB (f : Env → R XV) (ρ : Env) : R Bool := (f ρ).bind asB
def bAnd (f g : Env → R Bool) (ρ : Env) : R Bool := (f ρ).bind fun c ρ => if c = true then g ρ else .ok false ρ
def bOr (f g : Env → R Bool) (ρ : Env) : R Bool := (f ρ).bind fun c ρ => if c = true then .ok true ρ else g ρ
def bNot (f : Env → R Bool) (ρ : Env) : R Bool := (f ρ).bind fun c ρ => .ok (!c) ρ
def sOfB (f : Env → R Bool) (ρ : Env) : R XV := (f ρ).bind fun c ρ => .ok (.v false (.bl c)) ρ
def sAnd (f : Env → R Bool) (g : Env → R XV) (ρ : Env) : R XV := (f ρ).bind fun c ρ => if c = true then g ρ else .ok (.v false (.bl false)) ρ
def sOr (f : Env → R Bool) (g : Env → R XV) (ρ : Env) : R XV := (f ρ).bind fun c ρ => if c = true then .ok (.v false (.bl true)) ρ else g ρ

section
variable {K : PySem.W.Frag} {W : WX} {hs : List VT} {σ : Sg} {H : Hp} {ρ : Env} {x : XV} {v : V}
theorem PT.weak {X : Cx} {e : Expr} {t t' : TT} (h : PT X e t) (w : ∀ σ H Q, t' σ H Q → t σ H Q) : PT X e t' := ⟨fun pins s σ H Q I q => h.run pins s σ H Q I (w σ H Q q)⟩
theorem PW.weak {X : Cx} {e : Expr} {t t' : TT} (h : PW X e t) (w : ∀ σ H Q, t' σ H Q → t σ H Q) : PW X e t' := ⟨fun wh pins s σ H Q I q => h.run wh pins s σ H Q I (w σ H Q q)⟩
theorem asB_ok {Q : Bool → Hp → Prop} (s : Stt K (hld x v ++ hs) σ H ρ) (hx : ResV σ x v) (h : finB K W hs σ (asB x ρ) Q) : ∃ c, v = .bl c ∧ Q c H := by
  unfold asB at h
  cases ex : view x ρ with
  | none => rw [ex] at h; exact h.elim
  | some d =>
    rw [ex] at h
    cases d <;> first | exact h.elim | skip
    rename_i c
    obtain ⟨o, m⟩ := s.mem hx (fun p hp => by simp [hp]) ex
    obtain ⟨ws, q⟩ := s.sep
    exact ⟨c, q.bl m, h H s.dropA⟩
/-- an R of one kind bound to an R of another -/
theorem finB_bindE {r : R XV} {k : XV → Env → R Bool} {Q : Bool → Hp → Prop} (h : finB K W hs σ (r.bind k) Q) :
    fin K W hs σ r (fun v H1 => ∃ x ρ1, ResV σ x v ∧ Stt K (hld x v ++ hs) σ H1 ρ1 ∧ finB K W hs σ (k x ρ1) Q) := by
  cases r with
  | ok x ρ => exact fun v H1 hv s => ⟨x, ρ, hv, s, h⟩
  | exc c ρ => exact h
  | bad => exact h
theorem finB_bindB {r : R Bool} {k : Bool → Env → R Bool} {Q : Bool → Hp → Prop} (h : finB K W hs σ (r.bind k) Q) :
    finB K W hs σ r (fun c H1 => ∃ ρ1, Stt K hs σ H1 ρ1 ∧ finB K W hs σ (k c ρ1) Q) := by
  cases r with
  | ok c ρ => exact fun H1 s => ⟨ρ, s, h⟩
  | exc c ρ => exact h
  | bad => exact h
theorem fin_bindB {r : R Bool} {k : Bool → Env → R XV} {Q : VK} (h : fin K W hs σ (r.bind k) Q) :
    finB K W hs σ r (fun c H1 => ∃ ρ1, Stt K hs σ H1 ρ1 ∧ fin K W hs σ (k c ρ1) Q) := by
  cases r with
  | ok c ρ => exact fun H1 s => ⟨ρ, s, h⟩
  | exc c ρ => exact h
  | bad => exact h
end
section
variable {X : Cx} {W : WX} {a b : Expr} {fa fb : Env → R XV} {ga gb : Env → R Bool} {pos : Pos} {rest : List Expr}
theorem sb_val {e : Expr} (h : SE X W e fa) (he : ∀ whole, isTrue e X.env whole = (do let v ← whole; standAt e.pos; holding [v] (truthy v))) : SB X W e (sB fa) := by
  refine PT.weak (pt_val h he) fun σ H Q h => ?_
  obtain ⟨ρ, hs, s, h⟩ := h
  exact ⟨ρ, hs, s, fin_mono (finB_bindE h) fun v H1 ⟨x, ρ1, hx, s1, h1⟩ => asB_ok s1 hx h1⟩
theorem sb_cmp {op : CmpOp} {f : D → D → Option T} (ho : OpR X (compareOp op) (rOp X.K f)) (ha : SE X W a fa) (hb : SE X W b fb) (hm : behindInMarks op b = false) : SB X W (.Compare a [op] [b] pos) (sB (sBin f fa fb)) := by
  refine PT.weak (pt_cmpR ho ha hb hm) fun σ H Q h => ?_
  obtain ⟨ρ, hs, s, h⟩ := h
  refine tOp_of (f := f) (Q := fun x H' => ∃ k, x = V.bl k ∧ Q k H') ⟨ρ, hs, s, ?_⟩
  exact fin_mono (finB_bindE h) fun v H1 ⟨x, ρ1, hx, s1, h1⟩ => asB_ok s1 hx h1
theorem sw_and1 (ha : SB X W a ga) : SW X W (.BoolOp .And [a] pos) ga := pw_and1 ha
theorem sw_or1 (ha : SB X W a ga) : SW X W (.BoolOp .Or [a] pos) ga := pw_or1 ha
theorem sw_and (ha : SB X W a ga) (hb : SW X W (.BoolOp .And (b :: rest) pos) gb) : SW X W (.BoolOp .And (a :: b :: rest) pos) (bAnd ga gb) := by
  refine PW.weak (pw_and ha hb) fun σ H Q h => ?_
  obtain ⟨ρ, hs, s, h⟩ := h
  refine ⟨ρ, hs, s, ?_⟩
  have h2 := finB_bindB h
  revert h2
  cases ga ρ with
  | ok c ρ1 =>
    intro h2 H1 s1
    obtain ⟨ρ2, s2, h3⟩ := h2 H1 s1
    cases c with
    | true => exact iteT ⟨ρ2, hs, s2, h3⟩
    | false => exact iteF (h3 H1 s2)
  | exc c ρ1 => exact id
  | bad => exact id
theorem sw_or (ha : SB X W a ga) (hb : SW X W (.BoolOp .Or (b :: rest) pos) gb) : SW X W (.BoolOp .Or (a :: b :: rest) pos) (bOr ga gb) := by
  refine PW.weak (pw_or ha hb) fun σ H Q h => ?_
  obtain ⟨ρ, hs, s, h⟩ := h
  refine ⟨ρ, hs, s, ?_⟩
  have h2 := finB_bindB h
  revert h2
  cases ga ρ with
  | ok c ρ1 =>
    intro h2 H1 s1
    obtain ⟨ρ2, s2, h3⟩ := h2 H1 s1
    cases c with
    | true => exact iteT (h3 H1 s2)
    | false => exact iteF ⟨ρ2, hs, s2, h3⟩
  | exc c ρ1 => exact id
  | bad => exact id
theorem SW.sb {e : Expr} (h : SW X W e ga) : SB X W e ga := PW.pt h
theorem sb_not (ha : SB X W a ga) : SB X W (.UnaryOp .Not a pos) (bNot ga) := by
  refine PT.weak (pt_not ha) fun σ H Q h => ?_
  obtain ⟨ρ, hs, s, h⟩ := h
  refine ⟨ρ, hs, s, ?_⟩
  have h2 := finB_bindB h
  revert h2
  cases ga ρ with
  | ok c ρ1 =>
    intro h2 H1 s1
    obtain ⟨ρ2, s2, h3⟩ := h2 H1 s1
    exact h3 H1 s2
  | exc c ρ1 => exact id
  | bad => exact id
theorem fin_bl {K : PySem.W.Frag} {hs : List VT} {σ : Sg} {H : Hp} {ρ : Env} {Q : VK} {c : Bool} (s : Stt K hs σ H ρ) (f : fin K W hs σ (.ok (.v false (.bl c)) ρ) Q) : Q (.bl c) H := fin_c (d := .bl c) s (fun _ => .bl c) f
/-- the value of an expression that is a bool -/
theorem tB_of {σ : Sg} {H : Hp} {Q : VK} {k : Bool → Env → R XV} {R' : Bool → Hp → Prop} (h : ∃ ρ hs, Stt X.K hs σ H ρ ∧ fin X.K W hs σ ((sB fa ρ).bind k) Q)
    (n : ∀ c H1 ρ1 hs, Stt X.K hs σ H1 ρ1 → fin X.K W hs σ (k c ρ1) Q → R' c H1) : tE X.K W fa σ H (fun x H1 => ∃ c, x = .bl c ∧ R' c H1) := by
  obtain ⟨ρ, hs, s, h⟩ := h
  refine ⟨ρ, hs, s, ?_⟩
  unfold sB at h
  cases e : fa ρ with
  | ok x ρ1 =>
    rw [e] at h
    intro v H1 hx s1
    have h' : fin X.K W hs σ ((asB x ρ1).bind k) Q := h
    unfold asB at h'
    cases ex : view x ρ1 with
    | none => rw [ex] at h'; exact h'.elim
    | some d =>
      rw [ex] at h'
      cases d <;> first | exact h'.elim | skip
      rename_i c
      obtain ⟨o, m⟩ := s1.mem hx (fun p hp => by simp [hp]) ex
      obtain ⟨ws, q⟩ := s1.sep
      exact ⟨c, q.bl m, n c H1 ρ1 hs s1.dropA h'⟩
  | exc c ρ1 => rw [e] at h; exact h
  | bad => rw [e] at h; exact h
theorem se_one {op} (h : SE X W a fa) : SE X W (.BoolOp op [a] pos) fa := pe_one h
theorem se_and (ha : SE X W a fa) (hb : SE X W (.BoolOp .And (b :: rest) pos) fb) : SE X W (.BoolOp .And (a :: b :: rest) pos) (sAnd (sB fa) fb) := by
  refine PE.weak (pe_and ha hb) fun σ H Q h => ?_
  refine tB_of (k := fun c ρ => if c = true then fb ρ else .ok (.v false (.bl false)) ρ) h fun c H1 ρ1 hs s1 h1 => ?_
  cases c with
  | true => exact iteT ⟨ρ1, hs, s1, h1⟩
  | false => exact iteF (fin_bl s1 h1)
theorem se_or (ha : SE X W a fa) (hb : SE X W (.BoolOp .Or (b :: rest) pos) fb) : SE X W (.BoolOp .Or (a :: b :: rest) pos) (sOr (sB fa) fb) := by
  refine PE.weak (pe_or ha hb) fun σ H Q h => ?_
  refine tB_of (k := fun c ρ => if c = true then .ok (.v false (.bl true)) ρ else fb ρ) h fun c H1 ρ1 hs s1 h1 => ?_
  cases c with
  | true => exact iteT (fin_bl s1 h1)
  | false => exact iteF ⟨ρ1, hs, s1, h1⟩
theorem se_not (ha : SE X W a fa) : SE X W (.UnaryOp .Not a pos) (sOfB (bNot (sB fa))) := by
  refine PE.weak (pe_not ha) fun σ H Q h => ?_
  obtain ⟨ρ, hs, s, h⟩ := h
  refine tB_of (k := fun c ρ => .ok (.v false (.bl (!c))) ρ) ⟨ρ, hs, s, ?_⟩ fun c H1 ρ1 hs s1 h1 => fin_bl s1 h1
  unfold sOfB bNot at h
  cases e : sB fa ρ with
  | ok c ρ1 => rw [e] at h; exact h
  | exc c ρ1 => rw [e] at h; exact h
  | bad => rw [e] at h; exact h
/-- a <= b <= c (any two comparisons) -/
def sChain (f f' : D → D → Option T) (fa fb fc : Env → R XV) (ρ : Env) : R XV :=
  (fa ρ).bind fun x ρ => (fb ρ).bind fun y ρ => match view x ρ, view y ρ with
    | some d, some e => (match f d e with
      | some (_, .bl true) => (fc ρ).bind fun z ρ => op2 f' y z ρ
      | some (_, .bl false) => .ok (.v false (.bl false)) ρ
      | _ => .bad)
    | _, _ => .bad
theorem tChain_of {fc : Env → R XV} {f f' : D → D → Option T} {σ : Sg} {H : Hp} {Q : VK} (h : tE X.K W (sChain f f' fa fb fc) σ H Q) :
    tChain (rOp X.K f) (rOp X.K f') (tE X.K W fa) (tE X.K W fb) (tE X.K W fc) σ H Q := by
  obtain ⟨ρ, hs, s, h⟩ := h
  refine ⟨ρ, hs, s, fin_mono (fin_bind0 h) fun v H1 ⟨x, ρ1, hx, s1, h1⟩ => ?_⟩
  refine ⟨ρ1, hld x v ++ hs, s1, fin_mono (fin_bind (hld x v) h1) fun u H2 ⟨y, ρ2, hy, s2, h2⟩ => ?_⟩
  cases ex : view x ρ2 with
  | none => rw [ex] at h2; exact h2.elim
  | some d =>
    cases ey : view y ρ2 with
    | none => rw [ex, ey] at h2; exact h2.elim
    | some e =>
      rw [ex, ey] at h2
      dsimp only at h2
      cases ef : f d e with
      | none => rw [ef] at h2; exact h2.elim
      | some t =>
        obtain ⟨o, td⟩ := t
        rw [ef] at h2
        have s2' := s2
        rw [← List.append_assoc] at s2'
        obtain ⟨o1, m1⟩ := s2'.mem hx (fun p hp => by simp [hp]) ex
        obtain ⟨o2, m2⟩ := s2'.mem hy (fun p hp => by simp [hp]) ey
        cases td <;> first | exact h2.elim | skip
        rename_i k
        refine ⟨_, d, e, o1, o2, _, s2'.sep, m1, m2, ef, fun w H3 q3 => ?_⟩
        obtain ⟨ws, q4⟩ := q3
        have ew := q4.bl List.mem_cons_self
        have q5 : Sep X.K H3 (slotsL σ ρ2 ++ ((hld y u ++ hld x v) ++ hs)) := Sep.drop ⟨ws, q4⟩
        have s3 : Stt X.K (hld y u ++ (hld x v ++ hs)) σ H3 ρ2 := ⟨s2.ok, by rw [← List.append_assoc (hld y u)]; exact q5⟩
        refine ⟨k, ew, ?_⟩
        cases k with
        | false => exact iteF (fin_bl s3.dropA.dropA h2)
        | true =>
          refine iteT ⟨ρ2, hld y u ++ (hld x v ++ hs), s3, ?_⟩
          have h3 : fin X.K W hs σ ((fc ρ2).bind fun z ρ => op2 f' y z ρ) Q := h2
          have h4 := fin_bind (hld y u ++ hld x v) h3
          rw [List.append_assoc] at h4
          refine fin_mono h4 fun w' H4 ⟨z, ρ3, hz, s4, h5⟩ => ?_
          rw [← List.append_assoc, ← List.append_assoc] at s4
          exact op2_ok s4 hy hz (fun p hp => by simp [hp]) (fun p hp => by simp [hp]) h5
theorem se_chain {op op' : CmpOp} {c : Expr} {fc : Env → R XV} {f f' : D → D → Option T} (ho : OpR X (compareOp op) (rOp X.K f)) (ho' : OpR X (compareOp op') (rOp X.K f')) (ha : SE X W a fa) (hb : SE X W b fb) (hc : SE X W c fc)
    (hm : lastMarks [op, op'] [b, c] = false) : SE X W (.Compare a [op, op'] [b, c] pos) (sChain f f' fa fb fc) :=
  PE.weak (pe_chain ho ho' ha hb hc hm) fun _ _ _ => tChain_of
theorem sb_chain {op op' : CmpOp} {c : Expr} {fc : Env → R XV} {f f' : D → D → Option T} (ho : OpR X (compareOp op) (rOp X.K f)) (ho' : OpR X (compareOp op') (rOp X.K f')) (ha : SE X W a fa) (hb : SE X W b fb) (hc : SE X W c fc)
    (hm : lastMarks [op, op'] [b, c] = false) : SB X W (.Compare a [op, op'] [b, c] pos) (sB (sChain f f' fa fb fc)) := by
  refine PT.weak (pt_chain ho ho' ha hb hc hm) fun σ H Q h => ?_
  obtain ⟨ρ, hs, s, h⟩ := h
  refine tChain_of (f := f) (f' := f') (Q := fun x H' => ∃ k, x = V.bl k ∧ Q k H') ⟨ρ, hs, s, ?_⟩
  exact fin_mono (finB_bindE h) fun v H1 ⟨x, ρ1, hx, s1, h1⟩ => asB_ok s1 hx h1
end

/-! ### argument lists -/
def ResVs (σ : Sg) : List XV → List V → Prop
  | [], [] => True
  | x :: xs, v :: vs => ResV σ x v ∧ ResVs σ xs vs
  | _, _ => False
def hlds : List XV → List V → List VT
  | x :: xs, v :: vs => hld x v ++ hlds xs vs
  | _, _ => []
def finA (K : PySem.W.Frag) (W : WX) (hs : List VT) (σ : Sg) (r : R (List XV)) (Q : List V → Hp → Prop) : Prop := match r with
  | .ok xs ρ => ∀ vs H, ResVs σ xs vs → Stt K (hlds xs vs ++ hs) σ H ρ → Q vs H
  | .exc c ρ => ∀ H, Stt K hs σ H ρ → W (.ref (He.ga K c)) none σ H
  | .bad => False
def tA (K : PySem.W.Frag) (W : WX) (f : Env → R (List XV)) : TA := fun σ H Q => ∃ ρ hs, Stt K hs σ H ρ ∧ finA K W hs σ (f ρ) Q
def SA (X : Cx) (W : WX) (es : List Expr) (f : Env → R (List XV)) : Prop := PA X es (tA X.K W f)
def sNil (ρ : Env) : R (List XV) := .ok [] ρ
def sCons (f : Env → R XV) (g : Env → R (List XV)) (ρ : Env) : R (List XV) := (f ρ).bind fun x ρ => (g ρ).bind fun xs ρ => .ok (x :: xs) ρ
theorem PA.weak {X : Cx} {es : List Expr} {t t' : TA} (h : PA X es t) (w : ∀ σ H Q, t' σ H Q → t σ H Q) : PA X es t' := ⟨fun pos pins s σ H Q I q => h.run pos pins s σ H Q I (w σ H Q q)⟩
section
variable {K : PySem.W.Frag} {W : WX} {hs : List VT} {σ : Sg} {H : Hp} {ρ : Env}
theorem fin_bindA {k : List XV → Env → R XV} {r : R (List XV)} {Q : VK} (A : List VT) (h : fin K W hs σ (r.bind k) Q) :
    finA K W (A ++ hs) σ r (fun vs H1 => ∃ xs ρ1, ResVs σ xs vs ∧ Stt K (hlds xs vs ++ (A ++ hs)) σ H1 ρ1 ∧ fin K W hs σ (k xs ρ1) Q) := by
  cases r with
  | ok x ρ => exact fun v H1 hv s => ⟨x, ρ, hv, s, h⟩
  | exc c ρ => exact fun H1 s => h H1 s.dropA
  | bad => exact h
theorem fin_bindA0 {k : List XV → Env → R XV} {r : R (List XV)} {Q : VK} (h : fin K W hs σ (r.bind k) Q) :
    finA K W hs σ r (fun vs H1 => ∃ xs ρ1, ResVs σ xs vs ∧ Stt K (hlds xs vs ++ hs) σ H1 ρ1 ∧ fin K W hs σ (k xs ρ1) Q) := fin_bindA [] h
theorem finA_mono {r : R (List XV)} {Q Q' : List V → Hp → Prop} (h : finA K W hs σ r Q) (m : ∀ v H, Q v H → Q' v H) : finA K W hs σ r Q' := by
  cases r with
  | ok x ρ => exact fun v H hv s => m _ _ (h v H hv s)
  | exc c ρ => exact h
  | bad => exact h
theorem sa_nil {X : Cx} : SA X W [] sNil := by
  refine PA.weak pa_nil fun σ H Q h => ?_
  obtain ⟨ρ, hs, s, h⟩ := h
  exact h [] H trivial s
theorem sa_cons {X : Cx} {e : Expr} {es : List Expr} {f : Env → R XV} {g : Env → R (List XV)} (ha : SE X W e f) (hr : SA X W es g) (hst : starEach (e :: es) X.env = (false, eval e X.env) :: starEach es X.env) : SA X W (e :: es) (sCons f g) := by
  refine PA.weak (pa_cons ha hr hst) fun σ H Q h => ?_
  obtain ⟨ρ, hs, s, h⟩ := h
  refine ⟨ρ, hs, s, ?_⟩
  unfold sCons at h
  cases e1 : f ρ with
  | ok x ρ1 =>
    rw [e1] at h
    intro v H1 hx s1
    have h' : finA X.K W hs σ ((g ρ1).bind fun xs ρ => .ok (x :: xs) ρ) Q := h
    refine ⟨ρ1, hld x v ++ hs, s1, ?_⟩
    cases e2 : g ρ1 with
    | ok xs ρ2 =>
      rw [e2] at h'
      intro vs H2 hxs s2
      refine h' (v :: vs) H2 ⟨hx, hxs⟩ (s2.perm ?_)
      show (hlds xs vs ++ (hld x v ++ hs)).Perm ((hld x v ++ hlds xs vs) ++ hs)
      rw [List.append_assoc, ← List.append_assoc, ← List.append_assoc]
      exact List.perm_append_comm.append_right _
    | exc c ρ2 => rw [e2] at h'; exact fun H2 s2 => h' H2 s2.dropA
    | bad => rw [e2] at h'; exact h'
  | exc c ρ1 => rw [e1] at h; exact h
  | bad => rw [e1] at h; exact h
end

/-! ### given away: nobody owns it any more -/
def frz (x : XV) (ρ : Env) : R D := match x with
  | .v _ d => .ok d ρ
  | .b i => (match gt ρ i with
    | some t => .ok t.2 (pt ρ i (some (false, t.2)))
    | none => .bad)
def frzs : List XV → Env → R (List D)
  | [], ρ => .ok [] ρ
  | x :: xs, ρ => (frz x ρ).bind fun d ρ => (frzs xs ρ).bind fun ds ρ => .ok (d :: ds) ρ
def prs : List V → List D → List VT
  | v :: vs, d :: ds => (v, (false, d)) :: prs vs ds
  | _, _ => []
section
variable {K : PySem.W.Frag} {W : WX} {hs : List VT} {σ : Sg} {H : Hp} {ρ ρ' : Env}
theorem frz_ok {x : XV} {v : V} {d : D} (s : Stt K (hld x v ++ hs) σ H ρ) (hx : ResV σ x v) (e : frz x ρ = .ok d ρ') : Stt K ((v, (false, d)) :: hs) σ H ρ' := by
  cases x with
  | v o d' =>
    cases e
    refine ⟨s.ok, ?_⟩
    have q : Sep K H ((v, (o, d)) :: (slotsL σ ρ ++ hs)) := s.sep.perm List.perm_middle
    exact q.freeze.perm List.perm_middle.symm
  | b i =>
    unfold frz at e
    dsimp only at e
    cases q : gt ρ i with
    | none => rw [q] at e; cases e
    | some t =>
      rw [q] at e
      obtain ⟨o, dd⟩ := t
      obtain ⟨rfl, rfl⟩ : dd = d ∧ pt ρ i (some (false, dd)) = ρ' := by
        injection e with e1 e2
        exact ⟨e1, e2⟩
      have hi : i < ρ.length := gt_lt q
      have hx' : σ[i]? = some (some v) := hx
      have p := slots_take hx' q
      have p2 := slots_keep (t := (false, dd)) hx' hi
      have q1 : Sep K H ((v, (o, dd)) :: (slotsL σ (pt ρ i none) ++ hs)) := s.sep.perm (p.append_right hs)
      have q2 := q1.freeze
      have q3 := q2.dup (v := v) (d := dd) List.mem_cons_self
      refine ⟨s.ok.keep i hx', ?_⟩
      have p3 : ((v, (false, dd)) :: ((v, (false, dd)) :: (slotsL σ (pt ρ i none) ++ hs))).Perm (slotsL σ (pt ρ i (some (false, dd))) ++ ((v, (false, dd)) :: hs)) := by
        refine List.Perm.trans ?_ List.perm_middle.symm
        exact List.Perm.cons _ (p2.symm.append_right hs)
      exact q3.perm p3
theorem frzs_ok : ∀ {xs : List XV} {vs : List V} {ds : List D} {hs : List VT} {ρ ρ' : Env}, Stt K (hlds xs vs ++ hs) σ H ρ → ResVs σ xs vs → frzs xs ρ = .ok ds ρ' → Stt K (prs vs ds ++ hs) σ H ρ' ∧ vs.length = ds.length
  | [], [], ds, hs, ρ, ρ', s, _, e => by cases e; exact ⟨s, rfl⟩
  | [], _ :: _, _, _, _, _, _, h, _ => h.elim
  | _ :: _, [], _, _, _, _, _, h, _ => h.elim
  | x :: xs, v :: vs, ds, hs, ρ, ρ', s, h, e => by
    unfold frzs at e
    cases e1 : frz x ρ with
    | ok d ρ1 =>
      rw [e1] at e
      have e' : (frzs xs ρ1).bind (fun ds ρ => .ok (d :: ds) ρ) = .ok ds ρ' := e
      cases e2 : frzs xs ρ1 with
      | ok ds' ρ2 =>
        rw [e2] at e'
        cases e'
        have s' : Stt K (hld x v ++ (hlds xs vs ++ hs)) σ H ρ := by rw [← List.append_assoc]; exact s
        have s1 := frz_ok s' h.1 e1
        have s2 : Stt K (hlds xs vs ++ ((v, (false, d)) :: hs)) σ H ρ1 := s1.perm List.perm_middle.symm
        obtain ⟨s3, hl⟩ := frzs_ok s2 h.2 e2
        exact ⟨s3.perm List.perm_middle, by rw [List.length_cons, List.length_cons, hl]⟩
      | exc c ρ2 => rw [e2] at e'; cases e'
      | bad => rw [e2] at e'; cases e'
    | exc c ρ1 => rw [e1] at e; cases e
    | bad => rw [e1] at e; cases e
theorem prs_rep {L : List VT} {ws : List Addr} (s : SepW K H L ws) : ∀ {vs : List V} {ds : List D}, vs.length = ds.length → (∀ p ∈ prs vs ds, p ∈ L) → RepAll K H (· ∈ ws) vs ds
  | [], [], _, _ => .nil
  | [], _ :: _, h, _ => by cases h
  | _ :: _, [], h, _ => by cases h
  | v :: vs, d :: ds, h, m => .cons (s.rep (m _ List.mem_cons_self)) (prs_rep s (by simpa using h) fun p hp => m p (List.mem_cons_of_mem _ hp))
end
abbrev lim : Nat := 16777216
theorem lim_eq : lim = sizeLine := sizeLine_eq.symm
def sTup (f : Env → R (List XV)) (ρ : Env) : R XV := (f ρ).bind fun xs ρ => (frzs xs ρ).bind fun ds ρ => if ds.length ≤ lim then .ok (.v false (.tup ds)) ρ else .bad
def sLst (f : Env → R (List XV)) (ρ : Env) : R XV := (f ρ).bind fun xs ρ => (frzs xs ρ).bind fun ds ρ => if ds.length ≤ lim then .ok (.v true (.lst ds)) ρ else .bad
section
variable {X : Cx} {W : WX} {es : List Expr} {f : Env → R (List XV)} {pos : Pos}
theorem frzs_exc {K : PySem.W.Frag} : ∀ {xs : List XV} {ρ ρ' : Env} {c : Str}, frzs xs ρ ≠ .exc c ρ'
  | [], _, _, _, h => by cases h
  | x :: xs, ρ, ρ', c, h => by
    unfold frzs at h
    cases e1 : frz x ρ with
    | ok d ρ1 =>
      rw [e1] at h
      have h' : (frzs xs ρ1).bind (fun ds ρ => .ok (d :: ds) ρ) = .exc c ρ' := h
      cases e2 : frzs xs ρ1 with
      | ok ds' ρ2 => rw [e2] at h'; cases h'
      | exc c2 ρ2 => exact frzs_exc (K := K) e2
      | bad => rw [e2] at h'; cases h'
    | exc c ρ1 =>
      unfold frz at e1
      cases x with
      | v o d => cases e1
      | b i =>
        dsimp only at e1
        cases q : gt ρ i with
        | none => rw [q] at e1; cases e1
        | some t => rw [q] at e1; cases e1
    | bad => rw [e1] at h; cases h
/-- a tuple display: the new tuple is known to its object -/
theorem Inv.tupF {X : Cx} {pins : List (Addr × Obj)} {σ : Sg} {H : Hp} {s : Shared} {xs : List V} {its : List Value} {t' : Nat} (I : Inv X pins σ H s) (r : Vals xs its) (hz : xs.length ≤ sizeLine) :
    Inv X pins σ (upd H s.heap.objs.size (.frz { cls := .type "tuple", data := .seq its.toArray } (.tup xs))) { s with heap := s.heap.push { cls := .type "tuple", data := .seq its.toArray }, toks := t' } :=
  I.laid (fun _ _ e => Heap.get?_push_of_some _ e) (Nat.le_refl _) ⟨Heap.get?_push_size _ rfl, hz, its, r, IsTup.new _ _⟩
def rNewT (xs : List V) (H : Hp) (Q : VK) : Prop := ∀ (p : Addr) (o : Obj), H p = none → o.dict = none → Q (.ref p) (upd H p (.frz o (.tup xs)))
theorem rNewT.use {X : Cx} {pins : List (Addr × Obj)} {σ : Sg} {H : Hp} {s : Shared} {xs : List V} {its : List Value} {t' : Nat} {Q : VK} (q : rNewT xs H Q) (I : Inv X pins σ H s) (r : Vals xs its) (hz : xs.length ≤ sizeLine) :
    EP X pins σ Q (.ref s.heap.objs.size) { s with heap := s.heap.push { cls := .type "tuple", data := .seq its.toArray }, toks := t' } :=
  ⟨.ref s.heap.objs.size, _, Inv.tupF I r hz, rfl, q _ _ (I.hok.fresh (Nat.le_refl _)) rfl⟩
theorem rNewT.of {K : PySem.W.Frag} {L : List VT} {H : Hp} {Q : VK} {ws : List Addr} {vs : List V} {ds : List D} (s : SepW K H L ws) (r : RepAll K H (· ∈ ws) vs ds) (q : ∀ w H', Sep K H' ((w, (false, D.tup ds)) :: L) → Q w H') : rNewT vs H Q :=
  fun p o hp ho => q _ _ ⟨ws, s.newTup hp ho r⟩
theorem pe_tupF {k : Nat} {t : TA} (h : PA X es t) : PE X (.Tuple es k pos) (fun σ H Q => t σ H fun xs H1 => xs.length ≤ sizeLine ∧ rNewT xs H1 Q) := by
  refine ⟨fun pins s σ H Q I hq => wpAny_Tuple_spliced (thn (h.run pos pins s σ H _ I hq) fun us s1 hh => ?_)⟩
  obtain ⟨xs, H1, I1, r, z, q⟩ := hh
  exact ⟨by rw [← r.length]; exact z, q.use (t' := s1.toks) I1 r z⟩
theorem se_tup {k : Nat} (h : SA X W es f) : SE X W (.Tuple es k pos) (sTup f) := by
  refine PE.weak (pe_tupF h) fun σ H Q h => ?_
  obtain ⟨ρ, hs, s, h⟩ := h
  refine ⟨ρ, hs, s, finA_mono (fin_bindA0 h) fun vs H1 ⟨xs, ρ1, hx, s1, h1⟩ => ?_⟩
  cases e : frzs xs ρ1 with
  | exc c ρ2 => exact (frzs_exc (K := X.K) e).elim
  | bad => rw [e] at h1; exact h1.elim
  | ok ds ρ2 =>
    rw [e] at h1
    have h2 : fin X.K W hs σ (if ds.length ≤ lim then .ok (.v false (.tup ds)) ρ2 else .bad) Q := h1
    obtain ⟨s2, hl⟩ := frzs_ok s1 hx e
    by_cases hz : ds.length ≤ lim
    · rw [if_pos hz] at h2
      obtain ⟨ws, q⟩ := s2.sep
      exact ⟨by rw [hl]; exact hz, rNewT.of q (prs_rep q hl fun p hp => by simp [hp]) fun w H' q' => h2 w H' trivial (s2.done (t := (false, .tup ds)) q')⟩
    · rw [if_neg hz] at h2; exact h2.elim
theorem se_lst (h : SA X W es f) : SE X W (.List es pos) (sLst f) := by
  refine PE.weak (pe_lst h) fun σ H Q h => ?_
  obtain ⟨ρ, hs, s, h⟩ := h
  refine ⟨ρ, hs, s, finA_mono (fin_bindA0 h) fun vs H1 ⟨xs, ρ1, hx, s1, h1⟩ => ?_⟩
  cases e : frzs xs ρ1 with
  | exc c ρ2 => exact (frzs_exc (K := X.K) e).elim
  | bad => rw [e] at h1; exact h1.elim
  | ok ds ρ2 =>
    rw [e] at h1
    have h2 : fin X.K W hs σ (if ds.length ≤ lim then .ok (.v true (.lst ds)) ρ2 else .bad) Q := h1
    obtain ⟨s2, hl⟩ := frzs_ok s1 hx e
    by_cases hz : ds.length ≤ lim
    · rw [if_pos hz] at h2
      refine ⟨by rw [hl]; exact hz, fun p hp => ?_⟩
      obtain ⟨ws, q⟩ := s2.sep
      have r := prs_rep q hl fun p hp => by simp [hp]
      exact h2 _ _ trivial (s2.done (t := (true, .lst ds)) ⟨_, q.newLst hp r⟩)
    · rw [if_neg hz] at h2; exact h2.elim
end

/-! ### built-ins -/
def views : List XV → Env → Option (List D)
  | [], _ => some []
  | x :: xs, ρ => (view x ρ).bind fun d => (views xs ρ).map fun ds => d :: ds
abbrev Mems (L : List VT) : List V → List D → Prop := Paired fun v d => ∃ o, (v, (o, d)) ∈ L
def rCl (K : PySem.W.Frag) (cf : List D → Option T) : List V → Hp → VK → Prop := fun vs H Q => ∃ L ds t, Sep K H L ∧ Mems L vs ds ∧ cf ds = some t ∧ ∀ w H', Sep K H' ((w, t) :: L) → Q w H'
def opN (cf : List D → Option T) (xs : List XV) (ρ : Env) : R XV := match views xs ρ with
  | some ds => (match cf ds with
    | some t => .ok (.v t.1 t.2) ρ
    | none => .bad)
  | none => .bad
def sCl (cf : List D → Option T) (f : Env → R (List XV)) (ρ : Env) : R XV := (f ρ).bind (opN cf)
section
variable {K : PySem.W.Frag} {W : WX} {hs A : List VT} {σ : Sg} {H : Hp} {ρ : Env}
theorem views_mem {B : List VT} (s : Stt K B σ H ρ) : ∀ {xs : List XV} {vs : List V} {ds : List D}, ResVs σ xs vs → (∀ p ∈ hlds xs vs, p ∈ B) → views xs ρ = some ds → Mems (slotsL σ ρ ++ B) vs ds
  | [], [], _, _, _, e => by cases e; exact .nil
  | [], _ :: _, _, h, _, _ => h.elim
  | _ :: _, [], _, h, _, _ => h.elim
  | x :: xs, v :: vs, ds, h, m, e => by
    unfold views at e
    cases e1 : view x ρ with
    | none => rw [e1] at e; cases e
    | some d =>
      rw [e1] at e
      have e' : (views xs ρ).map (fun ds => d :: ds) = some ds := e
      cases e2 : views xs ρ with
      | none => rw [e2] at e'; cases e'
      | some ds' =>
        rw [e2] at e'
        cases e'
        exact .cons (s.mem h.1 (fun p hp => m p (List.mem_append_left _ hp)) e1) (views_mem s h.2 (fun p hp => m p (List.mem_append_right _ hp)) e2)
theorem opN_ok {cf : List D → Option T} {xs : List XV} {vs : List V} {Q : VK} (s : Stt K (A ++ hs) σ H ρ) (hx : ResVs σ xs vs) (m : ∀ p ∈ hlds xs vs, p ∈ A ++ hs) (h : fin K W hs σ (opN cf xs ρ) Q) : rCl K cf vs H Q := by
  unfold opN at h
  cases e : views xs ρ with
  | none => rw [e] at h; exact h.elim
  | some ds =>
    rw [e] at h
    dsimp only at h
    cases ef : cf ds with
    | none => rw [ef] at h; exact h.elim
    | some t =>
      rw [ef] at h
      exact ⟨_, ds, t, s.sep, views_mem s hx m e, ef, fun w H' q => h w H' trivial (s.done q)⟩
end
section
variable {X : Cx} {W : WX} {e : Expr} {es : List Expr} {f : Env → R (List XV)} {p pos : Pos} {x : Str}
theorem tCB_of {cf : List D → Option T} {σ : Sg} {H : Hp} {Q : VK} (h : tE X.K W (sCl cf f) σ H Q) : tCB (rCl X.K cf) (tA X.K W f) σ H Q := by
  obtain ⟨ρ, hs, s, h⟩ := h
  refine ⟨ρ, hs, s, finA_mono (fin_bindA0 h) fun vs H1 ⟨xs, ρ1, hx, s1, h1⟩ => ?_⟩
  exact opN_ok s1 hx (fun p hp => by simp [hp]) h1
theorem se_callB {id : String} {cf : List D → Option T} (hc : CallR X (.builtin id) (rCl X.K cf)) (hg : Gl X x) (hm : X.mg x = none) (hv : bootBuiltins x = some (.builtin id)) (ha : SA X W (e :: es) f) (hn : x ≠ "__name__") (hdb : (x == ("__debug__" : Str)) = false)
    (he : starEach (e :: es) X.env = (false, eval e X.env) :: starEach es X.env) (hpl : (backTo pos (starEach es X.env)).any (·.1) = false) : SE X W (.Call (.Name x p) (e :: es) [] pos) (sCl cf f) :=
  PE.weak (pe_callB hc hg hm hv ha hn hdb he hpl) fun _ _ _ => tCB_of
theorem se_callTy {T : String} {cf : List D → Option Lz.T} (hc : CallR X (.type T) (rCl X.K cf)) (hg : Gl X x) (hm : X.mg x = none) (hv : bootBuiltins x = some (.type T)) (ha : SA X W (e :: es) f) (hn : x ≠ "__name__") (hdb : (x == ("__debug__" : Str)) = false)
    (he : starEach (e :: es) X.env = (false, eval e X.env) :: starEach es X.env) (hpl : (backTo pos (starEach es X.env)).any (·.1) = false) : SE X W (.Call (.Name x p) (e :: es) [] pos) (sCl cf f) :=
  PE.weak (pe_callTy hc hg hm hv ha hn hdb he hpl) fun _ _ _ => tCB_of
end

/-! ### slices -/
def sOpt (f : Option (Env → R XV)) (ρ : Env) : R (Option Int) := match f with
  | none => .ok none ρ
  | some f => (f ρ).bind fun x ρ => match view x ρ with
    | some (.int i) => .ok (some i) ρ
    | _ => .bad
def finO (K : PySem.W.Frag) (W : WX) (hs : List VT) (σ : Sg) (r : R (Option Int)) (Q : Option Int → Hp → Prop) : Prop := match r with
  | .ok c ρ => ∀ H, Stt K hs σ H ρ → Q c H
  | .exc c ρ => ∀ H, Stt K hs σ H ρ → W (.ref (He.ga K c)) none σ H
  | .bad => False
def tO (K : PySem.W.Frag) (W : WX) (g : Env → R (Option Int)) : TO := fun σ H Q => ∃ ρ hs, Stt K hs σ H ρ ∧ finO K W hs σ (g ρ) Q
def SO (X : Cx) (W : WX) (e : Option Expr) (g : Env → R (Option Int)) : Prop := PO X e (tO X.K W g)
theorem PO.weak {X : Cx} {e : Option Expr} {t t' : TO} (h : PO X e t) (w : ∀ σ H Q, t' σ H Q → t σ H Q) : PO X e t' := ⟨fun pins s σ H Q I q => h.run pins s σ H Q I (w σ H Q q)⟩
def rSl (K : PySem.W.Frag) (f : D → Option Int → Option Int → Option T) : V → Option Int → Option Int → Hp → VK → Prop := fun x lo hi H Q => ∃ L d o t, Sep K H L ∧ (x, (o, d)) ∈ L ∧ f d lo hi = some t ∧ ∀ w H', Sep K H' ((w, t) :: L) → Q w H'
def sSl (f : D → Option Int → Option Int → Option T) (a : Env → R XV) (lo hi : Option (Env → R XV)) (ρ : Env) : R XV :=
  (a ρ).bind fun x ρ => (sOpt lo ρ).bind fun l ρ => (sOpt hi ρ).bind fun h ρ => op1 (fun d => f d l h) x ρ
section
variable {K : PySem.W.Frag} {W : WX} {hs : List VT} {σ : Sg} {H : Hp} {ρ : Env}
theorem fin_bindO {k : Option Int → Env → R XV} {r : R (Option Int)} {Q : VK} (A : List VT) (h : fin K W hs σ (r.bind k) Q) :
    finO K W (A ++ hs) σ r (fun c H1 => ∃ ρ1, Stt K (A ++ hs) σ H1 ρ1 ∧ fin K W hs σ (k c ρ1) Q) := by
  cases r with
  | ok c ρ => exact fun H1 s => ⟨ρ, s, h⟩
  | exc c ρ => exact fun H1 s => h H1 s.dropA
  | bad => exact h
theorem so_none {X : Cx} : SO X W none (sOpt none) := PO.weak po_none fun σ H Q ⟨ρ, hs, s, h⟩ => h H s
theorem so_some {X : Cx} {e : Expr} {f : Env → R XV} (h : SE X W e f) : SO X W (some e) (sOpt (some f)) := by
  refine PO.weak (po_some h) fun σ H Q h => ?_
  obtain ⟨ρ, hs, s, h⟩ := h
  refine ⟨ρ, hs, s, ?_⟩
  unfold sOpt at h
  dsimp only at h
  cases e1 : f ρ with
  | ok x ρ1 =>
    rw [e1] at h
    intro v H1 hx s1
    have h' : finO X.K W hs σ (match view x ρ1 with | some (.int i) => .ok (some i) ρ1 | _ => .bad) Q := h
    cases ex : view x ρ1 with
    | none => rw [ex] at h'; exact h'.elim
    | some d =>
      rw [ex] at h'
      cases d <;> first | exact h'.elim | skip
      rename_i i
      obtain ⟨o, m⟩ := s1.mem hx (fun p hp => by simp [hp]) ex
      obtain ⟨ws, q⟩ := s1.sep
      exact ⟨i, q.int m, h' H1 s1.dropA⟩
  | exc c ρ1 => rw [e1] at h; exact h
  | bad => rw [e1] at h; exact h
theorem finO_mono {r : R (Option Int)} {Q Q' : Option Int → Hp → Prop} (h : finO K W hs σ r Q) (m : ∀ c H, Q c H → Q' c H) : finO K W hs σ r Q' := by
  cases r with
  | ok x ρ => exact fun H s => m _ _ (h H s)
  | exc c ρ => exact h
  | bad => exact h
theorem se_slice {X : Cx} {a : Expr} {lo hi : Option Expr} {p2 pos : Pos} {fa : Env → R XV} {fl fh : Option (Env → R XV)} {f : D → Option Int → Option Int → Option T} (hr : SlR X (rSl X.K f)) (ha : SE X W a fa) (hl : SO X W lo (sOpt fl)) (hh : SO X W hi (sOpt fh)) :
    SE X W (.Subscript a (.Slice lo hi none p2) pos) (sSl f fa fl fh) := by
  refine PE.weak (pe_slice hr ha hl hh) fun σ H Q h => ?_
  obtain ⟨ρ, hs, s, h⟩ := h
  refine ⟨ρ, hs, s, fin_mono (fin_bind0 h) fun v H1 ⟨x, ρ1, hx, s1, h1⟩ => ?_⟩
  refine ⟨ρ1, _, s1, finO_mono (fin_bindO (hld x v) h1) fun l H2 ⟨ρ2, s2, h2⟩ => ?_⟩
  refine ⟨ρ2, _, s2, finO_mono (fin_bindO (hld x v) h2) fun u H3 ⟨ρ3, s3, h3⟩ => ?_⟩
  exact op1_ok (f := fun d => f d l u) s3 hx (fun p hp => by simp [hp]) h3
end

/-! ### methods of built-in types that change nothing -/
def rMt (K : PySem.W.Frag) (mf : D → List D → Option T) : V → List V → Hp → VK → Prop := fun x vs H Q => ∃ L d o ds t, Sep K H L ∧ (x, (o, d)) ∈ L ∧ Mems L vs ds ∧ mf d ds = some t ∧ ∀ w H', Sep K H' ((w, t) :: L) → Q w H'
def isTy (ty : String) (d : D) : Bool := match d with
  | .lst _ => ty == "list"
  | .tup _ => ty == "tuple"
  | .str _ => ty == "str"
  | _ => false
def opM (mf : D → List D → Option T) (x : XV) (xs : List XV) (ρ : Env) : R XV := match view x ρ, views xs ρ with
  | some d, some ds => (match mf d ds with
    | some t => .ok (.v t.1 t.2) ρ
    | none => .bad)
  | _, _ => .bad
def sMt (ty : String) (mf : D → List D → Option T) (a : Env → R XV) (f : Env → R (List XV)) (ρ : Env) : R XV := (a ρ).bind fun x ρ => match view x ρ with
  | some d => if isTy ty d = true then (f ρ).bind fun xs ρ => opM mf x xs ρ else .bad
  | none => .bad
section
variable {K : PySem.W.Frag} {W : WX} {hs A : List VT} {σ : Sg} {H : Hp} {ρ : Env}
/-- the value is of that built-in type, and has no dict of its own -/
def tyW (K : PySem.W.Frag) (ty : String) (x : V) (H : Hp) : Prop := match x with
  | .str _ => ty = "str"
  | .ref p => (ty = "list" ∧ ∃ xs, H p = some (.lst xs)) ∨ (ty = "tuple" ∧ TupD K H p)
  | _ => False
theorem tyW_is {X : Cx} {pins : List (Addr × Obj)} {s : Shared} {ty : String} {x : V} {v : Value} (I : Inv X pins σ H s) (r : RelV x v) (h : tyW X.K ty x H) :
    s.TypeIs v ty ∧ ∀ a, v = .ref a → ∃ ob, s.heap.get? a = some ob ∧ ob.dict = none := by
  cases x with
  | str z =>
    obtain ⟨t, rfl⟩ := r
    have e : ty = "str" := h
    subst e
    exact ⟨typeIs_str s z t, fun a e => by cases e⟩
  | ref p =>
    cases r
    rcases h with ⟨rfl, xs, hp⟩ | ⟨rfl, ⟨o, vs, hp, hd⟩ | ⟨o, hk, hc, hd⟩⟩
    · obtain ⟨_, its, n, _, e⟩ := I.hok p _ hp
      exact ⟨⟨_, e, rfl⟩, fun a q => by cases q; exact ⟨_, e, rfl⟩⟩
    · obtain ⟨e, _, _, _, o', e', hc, _⟩ := I.hok p _ hp
      rw [e] at e'
      cases e'
      exact ⟨⟨_, e, hc⟩, fun a q => by cases q; exact ⟨_, e, hd⟩⟩
    · have e := I.kIn p o hk
      exact ⟨⟨_, e, hc⟩, fun a q => by cases q; exact ⟨_, e, hd⟩⟩
  | _ => exact False.elim h
theorem isTy_ok {L : List VT} {v : V} {o : Bool} {d : D} {ty : String} (s : Sep K H L) (m : (v, (o, d)) ∈ L) (h : isTy ty d = true) : tyW K ty v H := by
  obtain ⟨ws, q⟩ := s
  cases d with
  | lst ds =>
    obtain ⟨a, vs, rfl, h1, _⟩ := q.lst m
    exact .inl ⟨beq_iff_eq.mp h, _, h1⟩
  | tup ds =>
    obtain ⟨a, vs, rfl, h1, _, h2⟩ := q.tup m
    exact .inr ⟨beq_iff_eq.mp h, h2⟩
  | str z =>
    have e2 := q.str m
    subst e2
    exact beq_iff_eq.mp h
  | _ => cases h
theorem opM_ok {mf : D → List D → Option T} {x : XV} {v : V} {xs : List XV} {vs : List V} {Q : VK} (s : Stt K (A ++ hs) σ H ρ) (hx : ResV σ x v) (mx : ∀ p ∈ hld x v, p ∈ A ++ hs) (hxs : ResVs σ xs vs) (m : ∀ p ∈ hlds xs vs, p ∈ A ++ hs) (h : fin K W hs σ (opM mf x xs ρ) Q) : rMt K mf v vs H Q := by
  unfold opM at h
  cases e0 : view x ρ with
  | none => rw [e0] at h; exact h.elim
  | some d =>
    cases e : views xs ρ with
    | none => rw [e0, e] at h; exact h.elim
    | some ds =>
      rw [e0, e] at h
      dsimp only at h
      cases ef : mf d ds with
      | none => rw [ef] at h; exact h.elim
      | some t =>
        rw [ef] at h
        obtain ⟨o, m1⟩ := s.mem hx mx e0
        exact ⟨_, d, o, ds, t, s.sep, m1, views_mem s hxs m e, ef, fun w H' q => h w H' trivial (s.done q)⟩
end
section
variable {X : Cx} {W : WX} {o e : Expr} {es : List Expr} {fa : Env → R XV} {f : Env → R (List XV)} {name : Str} {apos cpos : Pos} {ty id : String} {mf : D → List D → Option T}
theorem pe_bmW {to : TE} {t : TA} {r : V → List V → Hp → VK → Prop} (pa : PlainAttrs ty) (slot : Slot ty name id) (hty : typeOf (.builtin id) = pure (.type "method_descriptor")) (hm : MtR X id r) (ho : PE X o to) (ha : PA X (e :: es) t)
    (hbase : attributeBase o name X.env (eval o X.env) = eval o X.env)
    (few : ((backTo cpos (starEach (e :: es) X.env)).all (fun x => !x.1) && (backToKw cpos (keywordEach [] X.env)).all (fun x => x.1.isSome) && decide ((e :: es).length + 0 + 0 < 30)) = true)
    (hline : (apos.endLine == cpos.line) = true) (hst : starEach (e :: es) X.env = (false, eval e X.env) :: starEach es X.env) (hpl : (backTo cpos (starEach es X.env)).any (·.1) = false) :
    PE X (.Call (.Attribute o name apos) (e :: es) [] cpos) (fun σ H Q => to σ H fun x H1 => tyW X.K ty x H1 ∧ t σ H1 fun xs H2 => r x xs H2 Q) := by
  refine ⟨fun pins s σ H Q I h => wpAny_Call_method_late hbase few hline rfl (thn (ho.run pins s σ H _ I h) fun v s1 hh => ?_)⟩
  obtain ⟨x, H1, I1, r1, tw, q1⟩ := hh
  obtain ⟨h1, h2⟩ := tyW_is I1 r1 tw
  have hA := ha.run cpos pins s1 σ H1 _ I1 q1
  rw [hst] at hA
  refine ⟨ty, id, pa, slot, hty, h1, h2, ?_⟩
  rw [hst]
  refine Calls.callWith_builtin ?_ (Calls.evalArgs_plain (thn hA fun us s2 hh => ?_))
  · show (false || (backTo cpos (starEach es X.env)).any (·.1)) = false
    rw [hpl]; rfl
  · obtain ⟨vs, H2, I2, r2, q2⟩ := hh
    exact hm pins s2 σ H2 x vs v us Q I2 r1 r2 q2
theorem se_bm (pa : PlainAttrs ty) (slot : Slot ty name id) (hty : typeOf (.builtin id) = pure (.type "method_descriptor")) (hm : MtR X id (rMt X.K mf)) (ho : SE X W o fa) (ha : SA X W (e :: es) f)
    (hbase : attributeBase o name X.env (eval o X.env) = eval o X.env)
    (few : ((backTo cpos (starEach (e :: es) X.env)).all (fun x => !x.1) && (backToKw cpos (keywordEach [] X.env)).all (fun x => x.1.isSome) && decide ((e :: es).length + 0 + 0 < 30)) = true)
    (hline : (apos.endLine == cpos.line) = true) (hst : starEach (e :: es) X.env = (false, eval e X.env) :: starEach es X.env) (hpl : (backTo cpos (starEach es X.env)).any (·.1) = false) :
    SE X W (.Call (.Attribute o name apos) (e :: es) [] cpos) (sMt ty mf fa f) := by
  refine PE.weak (pe_bmW pa slot hty hm ho ha hbase few hline hst hpl) fun σ H Q h => ?_
  obtain ⟨ρ, hs, s, h⟩ := h
  refine ⟨ρ, hs, s, fin_mono (fin_bind0 h) fun v H1 ⟨x, ρ1, hx, s1, h1⟩ => ?_⟩
  cases e0 : view x ρ1 with
  | none => rw [e0] at h1; exact h1.elim
  | some d =>
    rw [e0] at h1
    dsimp only at h1
    cases et : isTy ty d with
    | false => rw [et] at h1; exact h1.elim
    | true =>
      rw [et, if_pos rfl] at h1
      obtain ⟨o1, m1⟩ := s1.mem hx (fun p hp => by simp [hp]) e0
      refine ⟨isTy_ok s1.sep m1 et, ρ1, _, s1, finA_mono (fin_bindA (hld x v) h1) fun vs H2 ⟨xs, ρ2, hxs, s2, h2⟩ => ?_⟩
      rw [← List.append_assoc] at s2
      exact opM_ok s2 hx (fun p hp => by simp [hp]) hxs (fun p hp => by simp [hp]) h2
end
end Lz
/-! what the operators, subscripts, slices and built-ins make of data -/
namespace Lz
open PySem PySem.Spec PyProof.Rows L2

/-! ### the functions -/
abbrev pI (i : Int) : Option T := some (false, .int i)
abbrev pB (b : Bool) : Option T := some (false, .bl b)
def opAdd : D → D → Option T
  | .int i, .int j => pI (i + j)
  | .str a, .str b => if a.length + b.length ≤ lim then some (false, .str (a ++ b)) else none
  | .lst a, .lst b => if a.length + b.length ≤ lim then some (true, .lst (a ++ b)) else none
  | .tup a, .tup b => if a.length + b.length ≤ lim then some (false, .tup (a ++ b)) else none
  | _, _ => none
def opSub : D → D → Option T
  | .int i, .int j => pI (i - j)
  | _, _ => none
noncomputable def opMul : D → D → Option T
  | .int i, .int j => cif ((-(2 ^ 64) < i ∧ i < 2 ^ 64) ∨ (-(2 ^ 64) < j ∧ j < 2 ^ 64)) (pI (i * j)) none
  | .lst a, .int k => if -(2 ^ 63) ≤ k ∧ k < 2 ^ 63 ∧ a.length * k.toNat ≤ lim then some (true, .lst (List.replicate k.toNat a).flatten) else none
  | .tup a, .int k => if a ≠ [] ∧ 2 ≤ k ∧ k ≤ 1000 ∧ a.length ≤ 1000 then some (false, .tup (List.replicate k.toNat a).flatten) else if k = 1 then some (false, .tup a) else none
  | _, _ => none
def opMod : D → D → Option T
  | .int i, .int j => if j = 0 then none else pI (i.fmod j)
  | _, _ => none
def opFdv : D → D → Option T
  | .int i, .int j => if j ≠ 0 ∧ j.natAbs < 1073741824 then pI (i.fdiv j) else none
  | _, _ => none
def opPow : D → D → Option T
  | .int i, .int j => if 0 ≤ j ∧ j ≤ 1000000 ∧ i.natAbs < 2 ^ 64 then pI (i ^ j.toNat) else none
  | _, _ => none
def okD (d : D) : Bool := SeqAt.shaped d.toPy
def eqD : D → D → Option Bool
  | .int i, .int j => some (i == j)
  | .str i, .str j => some (i == j)
  | .bl i, .bl j => some (i == j)
  | .non, .non => some true
  | d, e => if okD d = true ∧ okD e = true then some (PyData.eqv d.toPy e.toPy) else none
def opEq (d e : D) : Option T := (eqD d e).map fun b => (false, .bl b)
def opNe (d e : D) : Option T := (eqD d e).map fun b => (false, .bl (!b))
def opCmp (p : Int → Int → Bool) : D → D → Option T
  | .int i, .int j => pB (p i j)
  | _, _ => none
def opLt := opCmp fun i j => decide (i < j)
def opLe := opCmp fun i j => decide (i ≤ j)
def opGt := opCmp fun i j => decide (j < i)
def opGe := opCmp fun i j => decide (j ≤ i)
def flatD : D → Bool
  | .non => true
  | .bl _ => true
  | .int _ => true
  | .str _ => true
  | _ => false
def eqF : D → D → Bool
  | .non, .non => true
  | .bl a, .bl b => a == b
  | .bl a, .int b => (if a then 1 else 0) == b
  | .int a, .bl b => a == (if b then 1 else 0)
  | .int a, .int b => a == b
  | .str a, .str b => a == b
  | _, _ => false
def inD : D → D → Option Bool
  | d, .tup ys => if flatD d = true ∧ ys.all flatD = true then some (ys.any fun y => eqF y d) else none
  | d, .lst ys => if flatD d = true ∧ ys.all flatD = true then some (ys.any fun y => eqF y d) else if okD d = true ∧ okD (.lst ys) = true then some (ys.any fun y => PyData.eqv y.toPy d.toPy) else none
  | .str c, .str z => if c.length = 1 then some (decide (c.cps.getD 0 0 ∈ z.cps.toList)) else none
  | _, _ => none
def opIn (d e : D) : Option T := (inD d e).map fun b => (false, .bl b)
def opNotIn (d e : D) : Option T := (inD d e).map fun b => (false, .bl (!b))
def opIsN : D → D → Option T
  | .non, .non => pB true
  | _, .non => pB false
  | _, _ => none
def opIsNotN : D → D → Option T
  | .non, .non => pB false
  | _, .non => pB true
  | _, _ => none
def opIx : D → D → Option T
  | .tup xs, .int i => (atI xs i).map fun d => (false, d)
  | .lst xs, .int i => (atI xs i).map fun d => (false, d)
  | .scr ns, .int i => (atI ns i).map fun d => (false, .int d)
  | .str z, .int i => if z.length ≤ lim then (atI z.cps.toList i).map fun c => (false, .str ⟨#[c]⟩) else none
  | _, _ => none
def cut {α : Type} (xs : List α) (lo hi : Option Int) : List α := (xs.drop (HT.sIx xs.length 0 lo)).take (HT.sIx xs.length xs.length hi - HT.sIx xs.length 0 lo)
def opSl : D → Option Int → Option Int → Option T
  | .tup xs, lo, hi => some (false, .tup (cut xs lo hi))
  | .lst xs, lo, hi => some (true, .lst (cut xs lo hi))
  | .str z, lo, hi => if z.length ≤ lim then some (false, .str (cutS z lo hi)) else none
  | _, _, _ => none
def cfLen : List D → Option T
  | [.tup xs] => pI xs.length
  | [.lst xs] => pI xs.length
  | [.scr xs] => pI xs.length
  | [.str z] => if z.length ≤ lim then pI z.length else none
  | _ => none
def blsD : List D → Option (List Bool)
  | [] => some []
  | .bl b :: r => (blsD r).map (b :: ·)
  | _ :: _ => none
def intsD : List D → Option (List Int)
  | [] => some []
  | .int b :: r => (intsD r).map (b :: ·)
  | _ :: _ => none
def cfAll : List D → Option T
  | [.lst xs] => (blsD xs).map fun bs => (false, .bl (bs.all id))
  | _ => none
def cfAny : List D → Option T
  | [.lst xs] => (blsD xs).map fun bs => (false, .bl (bs.any id))
  | _ => none
def cfSum : List D → Option T
  | [.lst xs] => (intsD xs).map fun bs => (false, .int bs.sum)
  | _ => none
def maxL : List Int → Option Int
  | [] => none
  | x :: r => some (r.foldl max x)
def minL : List Int → Option Int
  | [] => none
  | x :: r => some (r.foldl min x)
def cfMax : List D → Option T
  | [.lst xs] => (intsD xs).bind fun bs => (maxL bs).map fun m => (false, .int m)
  | [.int i, .int j] => pI (max i j)
  | _ => none
def cfMin : List D → Option T
  | [.lst xs] => (intsD xs).bind fun bs => (minL bs).map fun m => (false, .int m)
  | [.int i, .int j] => pI (min i j)
  | _ => none
def cfInt : List D → Option T
  | [.int i] => pI i
  | [.bl b] => pI (if b then 1 else 0)
  | _ => none
def cfList : List D → Option T
  | [.lst xs] => some (true, .lst xs)
  | [.tup xs] => some (true, .lst xs)
  | _ => none
def cfTuple : List D → Option T
  | [.lst xs] => some (false, .tup xs)
  | [.tup xs] => some (false, .tup xs)
  | _ => none

/-! ### the rules -/
section
variable {K : PySem.W.Frag} {H : Hp} {L : List VT}
theorem Sep.pureC {v : V} {d : D} (s : Sep K H L) (r : ∀ av, Rep K H av v d) : Sep K H ((v, (false, d)) :: L) := let ⟨ws, q⟩ := s; ⟨ws, q.pure (r _)⟩
theorem Sep.cInt (s : Sep K H L) (i : Int) : Sep K H ((.int i, (false, .int i)) :: L) := s.pureC fun _ => .int i
theorem Sep.cBl (s : Sep K H L) (i : Bool) : Sep K H ((.bl i, (false, .bl i)) :: L) := s.pureC fun _ => .bl i
theorem Sep.cStr (s : Sep K H L) (i : Str) : Sep K H ((.str i, (false, .str i)) :: L) := s.pureC fun _ => .str i
theorem Sep.int {v : V} {o : Bool} {i : Int} (s : Sep K H L) (h : (v, (o, D.int i)) ∈ L) : v = .int i := let ⟨_, q⟩ := s; q.int h
theorem Sep.str {v : V} {o : Bool} {i : Str} (s : Sep K H L) (h : (v, (o, D.str i)) ∈ L) : v = .str i := let ⟨_, q⟩ := s; q.str h
theorem Sep.bl {v : V} {o : Bool} {i : Bool} (s : Sep K H L) (h : (v, (o, D.bl i)) ∈ L) : v = .bl i := let ⟨_, q⟩ := s; q.bl h
theorem Sep.non {v : V} {o : Bool} (s : Sep K H L) (h : (v, (o, D.non)) ∈ L) : v = .non := let ⟨_, q⟩ := s; q.non h
end
/-- (true, .lst) at a new place -/
theorem newLst_of {K : PySem.W.Frag} {L : List VT} {H : Hp} {Q : VK} {ws : List Addr} {vs : List V} {ds : List D} (s : SepW K H L ws) (r : RepAll K H (· ∈ ws) vs ds) (q : ∀ w H', Sep K H' ((w, (true, D.lst ds)) :: L) → Q w H') : ∀ p, H p = none → Q (.ref p) (upd H p (.lst vs)) :=
  fun p hp => q _ _ ⟨_, s.newLst hp r⟩
theorem asI {i j : Int} {o : Option Int} {k : Int → Option T} {t : T} : True := trivial

section
variable {X : Cx}
theorem or_intB {f : Value → Value → Sem Value} {g : D → D → Option T} {C : Int → Int → Prop} {h : Int → Int → Int} (rule : OpR X f (rI C fun i j => .int (h i j)))
    (hg : ∀ d e t, g d e = some t → ∃ i j, d = .int i ∧ e = .int j ∧ C i j ∧ t = (false, .int (h i j))) : OpR X f (rOp X.K g) := by
  intro pins s σ H x y v u Q I rx ry ⟨L, d, e, o, o', t, sep, m1, m2, ht, q⟩
  obtain ⟨i, j, rfl, rfl, c, rfl⟩ := hg d e t ht
  exact rule pins s σ H x y v u Q I rx ry ⟨i, j, sep.int m1, sep.int m2, c, q _ _ (sep.cInt _)⟩
theorem or_sub : OpR X (binaryOp .Sub) (rOp X.K opSub) := by
  intro pins s σ H x y v u Q I rx ry ⟨L, d, e, o, o', t, sep, m1, m2, ht, q⟩
  cases d <;> cases e <;> first | cases ht | skip
  exact op_sub pins s σ H x y v u Q I rx ry ⟨_, _, sep.int m1, sep.int m2, q _ _ (sep.cInt _)⟩
theorem or_mod : OpR X (binaryOp .Mod) (rOp X.K opMod) := or_intB op_modN fun d e t h => by
  cases d <;> cases e <;> first | cases h | skip
  rename_i i j
  have h' : (if j = 0 then none else pI (i.fmod j)) = some t := h
  by_cases hj : j = 0
  · rw [if_pos hj] at h'; cases h'
  · rw [if_neg hj] at h'; cases h'; exact ⟨i, j, rfl, rfl, hj, rfl⟩
theorem or_fdv : OpR X (binaryOp .FloorDiv) (rOp X.K opFdv) := or_intB op_fdivN fun d e t h => by
  cases d <;> cases e <;> first | cases h | skip
  rename_i i j
  have h' : (if j ≠ 0 ∧ j.natAbs < 1073741824 then pI (i.fdiv j) else none) = some t := h
  by_cases hj : j ≠ 0 ∧ j.natAbs < 1073741824
  · rw [if_pos hj] at h'; cases h'; exact ⟨i, j, rfl, rfl, hj, rfl⟩
  · rw [if_neg hj] at h'; cases h'
theorem or_pow : OpR X (binaryOp .Pow) (rOp X.K opPow) := or_intB op_pow fun d e t h => by
  cases d <;> cases e <;> first | cases h | skip
  rename_i i j
  have h' : (if 0 ≤ j ∧ j ≤ 1000000 ∧ i.natAbs < 2 ^ 64 then pI (i ^ j.toNat) else none) = some t := h
  by_cases hj : 0 ≤ j ∧ j ≤ 1000000 ∧ i.natAbs < 2 ^ 64
  · rw [if_pos hj] at h'; cases h'; exact ⟨i, j, rfl, rfl, hj, rfl⟩
  · rw [if_neg hj] at h'; cases h'
/-- tuples: t + u -/
theorem op_catF : OpR X (binaryOp .Add) (fun x y H Q => ∃ a b xs ys, x = .ref a ∧ y = .ref b ∧ SqT X.K H a xs ∧ SqT X.K H b ys ∧ xs.length + ys.length ≤ sizeLine ∧ (xs = [] → Q (.ref b) H) ∧ (xs ≠ [] → ys = [] → Q (.ref a) H) ∧ rNewT (xs ++ ys) H Q) := by
  intro pins s σ H x y v u Q I rx ry ⟨a, b, xs, ys, ex, ey, ha, hb, hz, q0, q1, q2⟩
  subst ex; subst ey; cases rx; cases ry
  obtain ⟨its, r1, p1, _⟩ := I.tuple ha
  obtain ⟨its2, r2, p2, _⟩ := I.tuple hb
  by_cases hx : xs = []
  · subst hx
    cases r1
    exact cat_tup0 p1 p2 ⟨.ref b, H, I, rfl, q0 rfl⟩
  · refine HT.cat_tup p1 p2 (fun e => hx ((Vals.nil_iff r1).mp e)) (fun e => ?_) (fun e => ?_) (by rw [← r1.length, ← r2.length]; exact hz)
    · exact ⟨.ref a, H, I, rfl, q1 hx ((Vals.nil_iff r2).mp e)⟩
    · exact q2.use (t' := s.toks) I (r1.append r2) (by rw [List.length_append]; exact hz)
theorem or_add : OpR X (binaryOp .Add) (rOp X.K opAdd) := by
  intro pins s σ H x y v u Q I rx ry ⟨L, d, e, o, o', t, sep, m1, m2, ht, q⟩
  cases d <;> cases e <;> first | cases ht | skip
  · exact op_add pins s σ H x y v u Q I rx ry ⟨_, _, sep.int m1, sep.int m2, q _ _ (sep.cInt _)⟩
  · rename_i a b
    have h' : (if a.length + b.length ≤ lim then some (false, D.str (a ++ b)) else none) = some t := ht
    by_cases hz : a.length + b.length ≤ lim
    · rw [if_pos hz] at h'; cases h'
      exact op_add_str pins s σ H x y v u Q I rx ry ⟨_, _, sep.str m1, sep.str m2, hz, q _ _ (sep.cStr _)⟩
    · rw [if_neg hz] at h'; cases h'
  · rename_i a b
    have h' : (if a.length + b.length ≤ lim then some (false, D.tup (a ++ b)) else none) = some t := ht
    by_cases hz : a.length + b.length ≤ lim
    · rw [if_pos hz] at h'; cases h'
      obtain ⟨ws, w⟩ := sep
      obtain ⟨p1, vs1, e1, q1, r1, _⟩ := w.tup m1
      obtain ⟨p2, vs2, e2, q2, r2, _⟩ := w.tup m2
      have l1 := r1.length
      have l2 := r2.length
      refine op_catF pins s σ H x y v u Q I rx ry ⟨p1, p2, vs1, vs2, e1, e2, q1, q2, by rw [l1, l2]; exact hz, fun e => ?_, fun _ e => ?_, rNewT.of w (r1.append r2) q⟩
      · subst e
        cases r1
        have hm : Rep X.K H (· ∈ ws) (.ref p2) (.tup b) := by
          obtain ⟨w', o1, _⟩ := w.own.get m2
          rw [e2] at o1
          cases o1 with | pure r => exact r
        exact q _ _ ⟨ws, w.pure hm⟩
      · subst e
        cases r2
        have hm : Rep X.K H (· ∈ ws) (.ref p1) (.tup a) := by
          obtain ⟨w', o1, _⟩ := w.own.get m1
          rw [e1] at o1
          cases o1 with | pure r => exact r
        rw [List.append_nil] at q
        exact q _ _ ⟨ws, w.pure hm⟩
    · rw [if_neg hz] at h'; cases h'
  · rename_i a b
    have h' : (if a.length + b.length ≤ lim then some (true, D.lst (a ++ b)) else none) = some t := ht
    by_cases hz : a.length + b.length ≤ lim
    · rw [if_pos hz] at h'; cases h'
      obtain ⟨ws, w⟩ := sep
      obtain ⟨p1, vs1, e1, q1, r1⟩ := w.lst m1
      obtain ⟨p2, vs2, e2, q2, r2⟩ := w.lst m2
      have l1 := r1.length
      have l2 := r2.length
      exact op_cat pins s σ H x y v u Q I rx ry ⟨p1, p2, vs1, vs2, e1, e2, q1, q2, by rw [l1, l2]; exact hz, newLst_of w (r1.append r2) q⟩
    · rw [if_neg hz] at h'; cases h'

/-! ### comparisons -/
theorem eqD_sc {d e : D} {b : Bool} (h : eqD d e = some b) : (∃ i j, d = .int i ∧ e = .int j ∧ b = (i == j)) ∨ (∃ i j, d = .str i ∧ e = .str j ∧ b = (i == j)) ∨ (∃ i j, d = .bl i ∧ e = .bl j ∧ b = (i == j)) ∨
    (okD d = true ∧ okD e = true ∧ b = PyData.eqv d.toPy e.toPy) := by
  unfold eqD at h
  split at h
  · exact .inl ⟨_, _, rfl, rfl, (Option.some.inj h).symm⟩
  · exact .inr (.inl ⟨_, _, rfl, rfl, (Option.some.inj h).symm⟩)
  · exact .inr (.inr (.inl ⟨_, _, rfl, rfl, (Option.some.inj h).symm⟩))
  · exact .inr (.inr (.inr ⟨by decide +kernel, by decide +kernel, by
      have e := Option.some.inj h
      rw [← e]
      decide +kernel⟩))
  · split at h
    · rename_i hk
      exact .inr (.inr (.inr ⟨hk.1, hk.2, (Option.some.inj h).symm⟩))
    · cases h
theorem or_eq (hu : X.A.units + 64 < cLine) : OpR X (compareOp .Eq) (rOp X.K opEq) := by
  intro pins s σ H x y v u Q I rx ry ⟨L, d, e, o, o', t, sep, m1, m2, ht, q⟩
  unfold opEq at ht
  cases h : eqD d e with
  | none => rw [h] at ht; cases ht
  | some b =>
    rw [h] at ht
    cases ht
    rcases eqD_sc h with ⟨i, j, rfl, rfl, rfl⟩ | ⟨i, j, rfl, rfl, rfl⟩ | ⟨i, j, rfl, rfl, rfl⟩ | ⟨h1, h2, rfl⟩
    · refine op_eq pins s σ H x y v u Q I rx ry ?_
      rw [sep.int m1, sep.int m2]
      exact ⟨rfl, by rw [dec_int]; exact q _ _ (sep.cBl _)⟩
    · refine op_eq pins s σ H x y v u Q I rx ry ?_
      rw [sep.str m1, sep.str m2]
      exact ⟨rfl, by rw [dec_str]; exact q _ _ (sep.cBl _)⟩
    · refine op_eq pins s σ H x y v u Q I rx ry ?_
      rw [sep.bl m1, sep.bl m2]
      exact ⟨rfl, by rw [dec_bl]; exact q _ _ (sep.cBl _)⟩
    · obtain ⟨ws, w⟩ := sep
      exact op_eqD hu pins s σ H x y v u Q I rx ry ⟨_, _, (w.any m1).dp (SeqAt.canLay_of_shaped h1), (w.any m2).dp (SeqAt.canLay_of_shaped h2), h1, h2, q _ _ (Sep.cBl ⟨ws, w⟩ _)⟩
theorem or_ne (hu : X.A.units + 64 < cLine) : OpR X (compareOp .NotEq) (rOp X.K opNe) := by
  intro pins s σ H x y v u Q I rx ry ⟨L, d, e, o, o', t, sep, m1, m2, ht, q⟩
  unfold opNe at ht
  cases h : eqD d e with
  | none => rw [h] at ht; cases ht
  | some b =>
    rw [h] at ht
    cases ht
    rcases eqD_sc h with ⟨i, j, rfl, rfl, rfl⟩ | ⟨i, j, rfl, rfl, rfl⟩ | ⟨i, j, rfl, rfl, rfl⟩ | ⟨h1, h2, rfl⟩
    · refine op_ne pins s σ H x y v u Q I rx ry ?_
      rw [sep.int m1, sep.int m2]
      exact ⟨rfl, by rw [dec_int]; exact q _ _ (sep.cBl _)⟩
    · refine op_ne pins s σ H x y v u Q I rx ry ?_
      rw [sep.str m1, sep.str m2]
      exact ⟨rfl, by rw [dec_str]; exact q _ _ (sep.cBl _)⟩
    · refine op_ne pins s σ H x y v u Q I rx ry ?_
      rw [sep.bl m1, sep.bl m2]
      exact ⟨rfl, by rw [dec_bl]; exact q _ _ (sep.cBl _)⟩
    · obtain ⟨ws, w⟩ := sep
      exact op_neD hu pins s σ H x y v u Q I rx ry ⟨_, _, (w.any m1).dp (SeqAt.canLay_of_shaped h1), (w.any m2).dp (SeqAt.canLay_of_shaped h2), h1, h2, q _ _ (Sep.cBl ⟨ws, w⟩ _)⟩
theorem or_cmp {op : CmpOp} {p : Int → Int → Bool} (rule : OpR X (compareOp op) (rI0 fun i j => .bl (p i j))) : OpR X (compareOp op) (rOp X.K (opCmp p)) := by
  intro pins s σ H x y v u Q I rx ry ⟨L, d, e, o, o', t, sep, m1, m2, ht, q⟩
  cases d <;> cases e <;> first | cases ht | skip
  exact rule pins s σ H x y v u Q I rx ry ⟨_, _, sep.int m1, sep.int m2, q _ _ (sep.cBl _)⟩
theorem or_lt : OpR X (compareOp .Lt) (rOp X.K opLt) := or_cmp op_lt
theorem or_le : OpR X (compareOp .LtE) (rOp X.K opLe) := or_cmp op_le
theorem or_gt : OpR X (compareOp .Gt) (rOp X.K opGt) := or_cmp op_gt
theorem or_ge : OpR X (compareOp .GtE) (rOp X.K opGe) := or_cmp op_ge
theorem non_iff {K : PySem.W.Frag} {H : Hp} {L : List VT} {v : V} {o : Bool} {d : D} (s : Sep K H L) (m : (v, (o, d)) ∈ L) : decide (v = .non) = (match d with | .non => true | _ => false) := by
  obtain ⟨ws, w⟩ := s
  have r := w.any m
  cases r <;> rfl
theorem or_isN : OpR X (compareOp .Is) (rOp X.K opIsN) := by
  intro pins s σ H x y v u Q I rx ry ⟨L, d, e, o, o', t, sep, m1, m2, ht, q⟩
  have key := non_iff sep m1
  refine op_isN pins s σ H x y v u Q I rx ry ?_
  cases e <;> first | (cases d <;> cases ht; done) | skip
  refine ⟨sep.non m2, ?_⟩
  rw [key]
  cases d <;> cases ht <;> exact q _ _ (sep.cBl _)
theorem or_isNotN : OpR X (compareOp .IsNot) (rOp X.K opIsNotN) := by
  intro pins s σ H x y v u Q I rx ry ⟨L, d, e, o, o', t, sep, m1, m2, ht, q⟩
  have key := non_iff sep m1
  refine op_notN pins s σ H x y v u Q I rx ry ?_
  cases e <;> first | (cases d <;> cases ht; done) | skip
  refine ⟨sep.non m2, ?_⟩
  rw [key]
  cases d <;> cases ht <;> exact q _ _ (sep.cBl _)
end
end Lz
/-! membership, subscripts, slices, built-ins, isinstance, index and count -/
namespace Lz
open PySem PySem.Spec PyProof.Rows L2

theorem flat_rep {K : PySem.W.Frag} {H : Hp} {av : Addr → Prop} {v : V} {d : D} (r : Rep K H av v d) (f : flatD d = true) : flatV v = true := by
  cases r <;> first | rfl | cases f
theorem eqF_rep {K : PySem.W.Frag} {H : Hp} {av : Addr → Prop} {v u : V} {d e : D} (r : Rep K H av v d) (r2 : Rep K H av u e) (f : flatD d = true) (f2 : flatD e = true) : eqV v u = eqF d e := by
  cases r <;> first | (cases f; done) | skip
  all_goals (cases r2 <;> first | (cases f2; done) | rfl)
theorem flat_all {K : PySem.W.Frag} {H : Hp} {av : Addr → Prop} : ∀ {vs : List V} {ds : List D}, RepAll K H av vs ds → ds.all flatD = true → vs.all flatV = true
  | _, _, .nil, _ => rfl
  | _, _, .cons r t, h => by
    rw [List.all_cons, Bool.and_eq_true] at h
    rw [List.all_cons, flat_rep r h.1, flat_all t h.2]; rfl
theorem inV_rep {K : PySem.W.Frag} {H : Hp} {av : Addr → Prop} {x : V} {d : D} (rx : Rep K H av x d) (f : flatD d = true) : ∀ {vs : List V} {ds : List D}, RepAll K H av vs ds → ds.all flatD = true → inV x vs = ds.any fun y => eqF y d
  | _, _, .nil, _ => rfl
  | _, _, .cons (v := v) (vs := vs) r t, h => by
    rw [List.all_cons, Bool.and_eq_true] at h
    have ih := inV_rep rx f t h.2
    have e : inV x (v :: vs) = (eqV v x || inV x vs) := rfl
    rw [e, ih, eqF_rep r rx h.1 f, List.any_cons]
theorem RepAll.weakF {K : PySem.W.Frag} {H : Hp} {av : Addr → Prop} {vs : List V} {ds : List D} (r : RepAll K H av vs ds) : RepAll K H (fun _ => False) vs ds := r.mono (Kp.weak fun _ h => h.elim)
theorem any_toPys (ys : List D) (d : D) : ((D.toPys ys).any fun z => PyData.eqv z d.toPy) = ys.any fun y => PyData.eqv y.toPy d.toPy := by
  rw [toPys_map, List.any_map]; rfl

section
variable {X : Cx}
/-- in, not in: one proof for both -/
theorem or_inG {op : CmpOp} {neg : Bool} {g : D → D → Option T} (hg : ∀ d e, g d e = (inD d e).map fun b => (false, .bl (if neg then !b else b))) (r1 : OpR X (compareOp op) (rIn X.K neg))
    (r2 : OpR X (compareOp op) (fun x y H Q => ∃ d ds, Dp X.K H x d ∧ Dp X.K H y (.list ds) ∧ SeqAt.shaped d = true ∧ SeqAt.shaped (.list ds) = true ∧ Q (.bl (if neg then !(ds.any fun z => PyData.eqv z d) else (ds.any fun z => PyData.eqv z d))) H))
    (r3 : OpR X (compareOp op) (fun x y H Q => ∃ (c : Nat) (z : Str), x = .str ⟨#[c]⟩ ∧ y = .str z ∧ Q (.bl (if neg then !decide (c ∈ z.cps.toList) else decide (c ∈ z.cps.toList))) H)) : OpR X (compareOp op) (rOp X.K g) := by
  intro pins s σ H x y v u Q I rx ry ⟨L, d, e, o, o', t, sep, m1, m2, ht, q⟩
  rw [hg] at ht
  cases hi : inD d e with
  | none => rw [hi] at ht; cases ht
  | some b =>
    rw [hi] at ht
    cases ht
    obtain ⟨ws, w⟩ := sep
    have sp : Sep X.K H L := ⟨ws, w⟩
    have flatCase : ∀ (ys : List D) (p : Addr) (vs : List V), y = .ref p → (SqL X.K H p vs ∨ SqT X.K H p vs) → RepAll X.K H (fun _ => False) vs ys → flatD d = true → ys.all flatD = true → b = ys.any (fun y => eqF y d) →
        wpAny (model X.prog X.w) X.A (compareOp op v u) (EP X pins σ Q) X.xe s := by
      intro ys p vs ey hq r f1 f2 eb
      refine r1 pins s σ H x y v u Q I rx ry ⟨p, vs, ey, hq, flat_rep (w.any m1) f1, flat_all r f2, ?_⟩
      rw [inV_rep (w.any m1) f1 r f2, ← eb]
      exact q _ _ (sp.cBl _)
    unfold inD at hi
    split at hi
    · rename_i ys
      split at hi
      · rename_i hf
        obtain ⟨p, vs, ey, hq, r, _⟩ := w.tup m2
        exact flatCase ys p vs ey (.inr hq) r.weakF hf.1 hf.2 (Option.some.inj hi).symm
      · cases hi
    · rename_i ys
      split at hi
      · rename_i hf
        obtain ⟨p, vs, ey, hq, r⟩ := w.lst m2
        exact flatCase ys p vs ey (.inl (.inl (.inl hq))) r.weakF hf.1 hf.2 (Option.some.inj hi).symm
      · split at hi
        · rename_i hk
          have eb := (Option.some.inj hi).symm
          refine r2 pins s σ H x y v u Q I rx ry ⟨_, D.toPys ys, (w.any m1).dp (SeqAt.canLay_of_shaped hk.1), ?_, hk.1, ?_, ?_⟩
          · have := (w.any m2).dp (SeqAt.canLay_of_shaped hk.2)
            rw [D.toPy] at this
            exact this
          · have := hk.2
            unfold okD at this
            rw [D.toPy] at this
            exact this
          · rw [any_toPys, ← eb]
            exact q _ _ (sp.cBl _)
        · cases hi
    · rename_i c z
      split at hi
      · rename_i hl
        obtain ⟨⟨cl⟩⟩ := c
        have hl' : cl.length = 1 := hl
        match cl, hl' with
        | [k], _ =>
          refine r3 pins s σ H x y v u Q I rx ry ⟨k, z, sp.str m1, sp.str m2, ?_⟩
          have eb : b = decide (k ∈ z.cps.toList) := (Option.some.inj hi).symm
          rw [← eb]
          exact q _ _ (sp.cBl _)
      · cases hi
    · cases hi
theorem or_in (hu : X.A.units + 65 < cLine) : OpR X (compareOp .In) (rOp X.K opIn) := or_inG (neg := false) (fun _ _ => rfl) op_in_seq (op_inD hu) op_in_sign
theorem or_notIn (hu : X.A.units + 65 < cLine) : OpR X (compareOp .NotIn) (rOp X.K opNotIn) := or_inG (neg := true) (fun _ _ => rfl) op_notIn_seq (op_notInD hu) op_notIn_sign

/-! ### subscripts -/
theorem atI_rep {K : PySem.W.Frag} {H : Hp} {av : Addr → Prop} {vs : List V} {ds : List D} {i : Int} {d : D} (r : RepAll K H av vs ds) (h : atI ds i = some d) : ∃ v, atI vs i = some v ∧ Rep K H av v d := by
  unfold atI at h ⊢
  rw [r.length]
  cases e : ixN ds.length i with
  | none => rw [e] at h; cases h
  | some j =>
    rw [e] at h
    exact r.getD h
theorem ir_ix : IxR X (rOp X.K opIx) := by
  intro value slice pins s σ H x y v u Q I rx ry ⟨L, d, e, o, o', t, sep, m1, m2, ht, q⟩ hs
  cases d <;> cases e <;> first | (cases ht; done) | skip
  · rename_i z i
    have h' : (if z.length ≤ lim then (atI z.cps.toList i).map fun c => (false, D.str ⟨#[c]⟩) else none) = some t := ht
    by_cases hz : z.length ≤ lim
    · rw [if_pos hz] at h'
      cases hc : atI z.cps.toList i with
      | none => rw [hc] at h'; cases h'
      | some c =>
        rw [hc] at h'
        cases h'
        exact ix_str value slice pins s σ H x y v u Q I rx ry ⟨z, i, c, sep.str m1, sep.int m2, hz, hc, q _ _ (sep.cStr _)⟩ hs
    · rw [if_neg hz] at h'; cases h'
  · rename_i xs i
    have h' : (atI xs i).map (fun d => (false, d)) = some t := ht
    cases hc : atI xs i with
    | none => rw [hc] at h'; cases h'
    | some c =>
      rw [hc] at h'
      cases h'
      obtain ⟨ws, w⟩ := sep
      obtain ⟨p, vs, e1, hq, r, _⟩ := w.tup m1
      obtain ⟨x', h1, h2⟩ := atI_rep r hc
      exact ix_tup value slice pins s σ H x y v u Q I rx ry ⟨p, vs, i, x', e1, w.int m2, hq, h1, q _ _ ⟨ws, w.pure h2⟩⟩ hs
  · rename_i xs i
    have h' : (atI xs i).map (fun d => (false, d)) = some t := ht
    cases hc : atI xs i with
    | none => rw [hc] at h'; cases h'
    | some c =>
      rw [hc] at h'
      cases h'
      obtain ⟨ws, w⟩ := sep
      obtain ⟨p, vs, e1, hq, r⟩ := w.lst m1
      obtain ⟨x', h1, h2⟩ := atI_rep r hc
      exact ix_list value slice pins s σ H x y v u Q I rx ry ⟨p, vs, i, x', e1, w.int m2, .inl (.inl hq), h1, q _ _ ⟨ws, w.pure h2⟩⟩ hs
  · rename_i ns i
    have h' : (atI ns i).map (fun d => (false, D.int d)) = some t := ht
    cases hc : atI ns i with
    | none => rw [hc] at h'; cases h'
    | some c =>
      rw [hc] at h'
      cases h'
      obtain ⟨ws, w⟩ := sep
      obtain ⟨p, e1, hq⟩ := w.scr m1
      refine ix_list value slice pins s σ H x y v u Q I rx ry ⟨p, _, i, .int c, e1, w.int m2, hq, ?_, q _ _ (Sep.cInt ⟨ws, w⟩ _)⟩ hs
      unfold atI at hc ⊢
      rw [List.length_map]
      cases e : ixN ns.length i with
      | none => rw [e] at hc; cases hc
      | some j =>
        rw [e] at hc
        show (ns.map V.int)[j]? = some (.int c)
        have hc' : ns[j]? = some c := hc
        rw [List.getElem?_map, hc']; rfl

/-! ### slices -/
theorem cut_rep {K : PySem.W.Frag} {H : Hp} {av : Addr → Prop} {vs : List V} {ds : List D} (r : RepAll K H av vs ds) (lo hi : Option Int) : RepAll K H av (cutV vs lo hi) (cut ds lo hi) := by
  unfold cutV cut
  rw [r.length]
  exact (r.drop _).take _
theorem sl_tupF : SlR X (fun x lo hi H Q => ∃ a xs, x = .ref a ∧ SqT X.K H a xs ∧ (cutV xs lo hi = xs → Q (.ref a) H) ∧ rNewT (cutV xs lo hi) H Q) := by
  intro pins s σ H x v vl vu lo hi sl Q I rx hs pl pu ⟨a, xs, ex, hx, q1, q2⟩
  subst ex; cases rx
  obtain ⟨its, r, ht, hz⟩ := I.tuple hx
  have hlen : its.toArray.size = xs.length := by rw [List.size_toArray, r.length]
  refine ⟨"tuple", _, PyProof.Rows.slot_tuple_getitem.lookup, ht.typeIs, ?_⟩
  by_cases hw : HT.sIx xs.length 0 lo = 0 ∧ HT.sIx xs.length xs.length hi = xs.length
  · refine getItem_tuple_whole ht hs pl pu (by rw [hlen]; exact hw) ⟨.ref a, H, I, rfl, q1 ?_⟩
    unfold cutV
    rw [hw.1, hw.2]
    simp
  · refine HT.getItem_tuple_cut ht hs pl pu (by rw [hlen]; exact hw) ?_ (by rw [hlen]; exact hz)
    rw [hlen]
    exact q2.use (t' := s.toks) I ((r.drop (HT.sIx xs.length 0 lo)).take _) (Nat.le_trans (cutV_length xs lo hi) hz)
theorem sr_sl : SlR X (rSl X.K opSl) := by
  intro pins s σ H x v vl vu lo hi sl Q I rx hs pl pu ⟨L, d, o, t, sep, m1, ht, q⟩
  cases d <;> first | (cases ht; done) | skip
  · rename_i z
    have h' : (if z.length ≤ lim then some (false, D.str (cutS z lo hi)) else none) = some t := ht
    by_cases hz : z.length ≤ lim
    · rw [if_pos hz] at h'
      cases h'
      exact sl_str pins s σ H x v vl vu lo hi sl Q I rx hs pl pu ⟨z, sep.str m1, hz, q _ _ (sep.cStr _)⟩
    · rw [if_neg hz] at h'; cases h'
  · rename_i xs
    cases ht
    obtain ⟨ws, w⟩ := sep
    obtain ⟨p, vs, e1, hq, r, _⟩ := w.tup m1
    refine sl_tupF pins s σ H x v vl vu lo hi sl Q I rx hs pl pu ⟨p, vs, e1, hq, fun e => ?_, rNewT.of w (cut_rep r lo hi) q⟩
    have rr := cut_rep r lo hi
    rw [e] at rr
    have ed : cut xs lo hi = xs := by
      have l1 := rr.length
      rw [r.length] at l1
      unfold cut at l1 ⊢
      have hl : (List.take (HT.sIx xs.length xs.length hi - HT.sIx xs.length 0 lo) (List.drop (HT.sIx xs.length 0 lo) xs)).length = min (HT.sIx xs.length xs.length hi - HT.sIx xs.length 0 lo) (xs.length - HT.sIx xs.length 0 lo) := by rw [List.length_take, List.length_drop]
      rw [hl] at l1
      by_cases hn : xs = []
      · subst hn; simp
      · have hp : 0 < xs.length := List.length_pos_iff.mpr hn
        have h0 : HT.sIx xs.length 0 lo = 0 := by omega
        rw [h0, List.drop_zero]
        exact List.take_of_length_le (by omega)
    rw [ed] at q
    have hm : Rep X.K H (· ∈ ws) x (.tup xs) := by
      obtain ⟨w', o1, _⟩ := w.own.get m1
      rw [e1] at o1 ⊢
      cases o1 with | pure r => exact r
    rw [← e1]
    exact q _ _ ⟨ws, w.pure hm⟩
  · rename_i xs
    cases ht
    obtain ⟨ws, w⟩ := sep
    obtain ⟨p, vs, e1, hq, r⟩ := w.lst m1
    exact sl_list pins s σ H x v vl vu lo hi sl Q I rx hs pl pu ⟨p, vs, e1, .inl (.inl hq), newLst_of w (cut_rep r lo hi) q⟩

/-! ### built-ins -/
theorem cr_len : CallR X (.builtin "len") (rCl X.K cfLen) := by
  intro pins s σ H xs us Q I r ⟨L, ds, t, sep, ms, ht, q⟩
  obtain ⟨ws, w⟩ := sep
  have sp : Sep X.K H L := ⟨ws, w⟩
  unfold cfLen at ht
  split at ht <;> first | (cases ht; done) | skip
  · cases ht
    cases ms with
    | cons h1 t1 =>
      obtain ⟨o, m⟩ := h1
      cases t1
      obtain ⟨p, vs, e1, hq, rr, _⟩ := w.tup m
      exact call_len pins s σ H _ us Q I r ⟨_, vs.length, rfl, by rw [e1]; exact .inr ⟨vs, hq, rfl⟩, by rw [rr.length]; exact q _ _ (sp.cInt _)⟩
  · cases ht
    cases ms with
    | cons h1 t1 =>
      obtain ⟨o, m⟩ := h1
      cases t1
      obtain ⟨p, vs, e1, hq, rr⟩ := w.lst m
      exact call_len pins s σ H _ us Q I r ⟨_, vs.length, rfl, by rw [e1]; exact .inl ⟨vs, .inl (.inl hq), rfl⟩, by rw [rr.length]; exact q _ _ (sp.cInt _)⟩
  · cases ht
    cases ms with
    | cons h1 t1 =>
      obtain ⟨o, m⟩ := h1
      cases t1
      rename_i ns _
      obtain ⟨p, e1, hq⟩ := w.scr m
      exact call_len pins s σ H _ us Q I r ⟨_, ns.length, rfl, by rw [e1]; exact .inl ⟨_, hq, by rw [List.length_map]⟩, q _ _ (sp.cInt _)⟩
  · rename_i z
    split at ht
    · rename_i hz
      cases ht
      cases ms with
      | cons h1 t1 =>
        obtain ⟨o, m⟩ := h1
        cases t1
        exact call_len pins s σ H _ us Q I r ⟨_, z.length, rfl, by rw [w.str m]; exact ⟨hz, rfl⟩, q _ _ (sp.cInt _)⟩
    · cases ht
theorem blsD_rep {K : PySem.W.Frag} {H : Hp} {av : Addr → Prop} : ∀ {vs : List V} {ds : List D} {bs : List Bool}, RepAll K H av vs ds → blsD ds = some bs → vs = bs.map V.bl
  | _, _, _, .nil, h => by cases h; rfl
  | _, _, bs, .cons (d := d) (ds := ds) r t, h => by
    cases d <;> first | (cases h; done) | skip
    rename_i b
    have h' : (blsD ds).map (b :: ·) = some bs := h
    cases e : blsD ds with
    | none => rw [e] at h'; cases h'
    | some bs' =>
      rw [e] at h'
      cases h'
      cases r
      rw [blsD_rep t e]; rfl
theorem intsD_rep {K : PySem.W.Frag} {H : Hp} {av : Addr → Prop} : ∀ {vs : List V} {ds : List D} {bs : List Int}, RepAll K H av vs ds → intsD ds = some bs → vs = bs.map V.int
  | _, _, _, .nil, h => by cases h; rfl
  | _, _, bs, .cons (d := d) (ds := ds) r t, h => by
    cases d <;> first | (cases h; done) | skip
    rename_i b
    have h' : (intsD ds).map (b :: ·) = some bs := h
    cases e : intsD ds with
    | none => rw [e] at h'; cases h'
    | some bs' =>
      rw [e] at h'
      cases h'
      cases r
      rw [intsD_rep t e]; rfl
/-- a list of bools is asked -/
theorem cr_blG {id : String} {g : List Bool → Bool} {cf : List D → Option T} (hcf : ∀ ds t, cf ds = some t → ∃ xs bs, ds = [D.lst xs] ∧ blsD xs = some bs ∧ t = (false, .bl (g bs)))
    (rule : CallR X (.builtin id) (fun vs H Q => ∃ (a : Addr) (bs : List Bool), vs = [V.ref a] ∧ SqL X.K H a (bs.map V.bl) ∧ Q (.bl (g bs)) H)) : CallR X (.builtin id) (rCl X.K cf) := by
  intro pins s σ H xs us Q I r ⟨L, ds, t, sep, ms, ht, q⟩
  obtain ⟨ys, bs, rfl, hb, rfl⟩ := hcf ds t ht
  obtain ⟨ws, w⟩ := sep
  cases ms with
  | cons h1 t1 =>
    obtain ⟨o, m⟩ := h1
    cases t1
    obtain ⟨p, vs, e1, hq, rr⟩ := w.lst m
    rw [blsD_rep rr hb] at hq
    exact rule pins s σ H _ us Q I r ⟨p, bs, by rw [e1], .inl (.inl hq), q _ _ (Sep.cBl ⟨ws, w⟩ _)⟩
theorem cr_allD (hc : X.calm = true) : CallR X (.builtin "all") (rCl X.K cfAll) := cr_blG (g := fun bs => bs.all id) (fun ds t h => by
  unfold cfAll at h
  split at h <;> first | (cases h; done) | skip
  rename_i xs
  cases e : blsD xs with
  | none => rw [e] at h; cases h
  | some bs => rw [e] at h; cases h; exact ⟨xs, bs, rfl, e, rfl⟩) (cr_all hc)
theorem cr_anyD (hc : X.calm = true) : CallR X (.builtin "any") (rCl X.K cfAny) := cr_blG (g := fun bs => bs.any id) (fun ds t h => by
  unfold cfAny at h
  split at h <;> first | (cases h; done) | skip
  rename_i xs
  cases e : blsD xs with
  | none => rw [e] at h; cases h
  | some bs => rw [e] at h; cases h; exact ⟨xs, bs, rfl, e, rfl⟩) (cr_any hc)
theorem cr_sumD (hc : X.calm = true) : CallR X (.builtin "sum") (rCl X.K cfSum) := by
  intro pins s σ H xs us Q I r ⟨L, ds, t, sep, ms, ht, q⟩
  unfold cfSum at ht
  split at ht <;> first | (cases ht; done) | skip
  rename_i ys
  obtain ⟨ws, w⟩ := sep
  cases hb : intsD ys with
  | none => rw [hb] at ht; cases ht
  | some bs =>
    rw [hb] at ht
    cases ht
    cases ms with
    | cons h1 t1 =>
      obtain ⟨o, m⟩ := h1
      cases t1
      obtain ⟨p, vs, e1, hq, rr⟩ := w.lst m
      rw [intsD_rep rr hb] at hq
      exact cr_sum hc pins s σ H _ us Q I r ⟨p, bs, by rw [e1], .inl (.inl hq), q _ _ (Sep.cInt ⟨ws, w⟩ _)⟩
theorem foldl_max : ∀ (r : List Int) (x : Int), x ≤ r.foldl max x ∧ (∀ y ∈ r, y ≤ r.foldl max x) ∧ (r.foldl max x = x ∨ r.foldl max x ∈ r)
  | [], x => ⟨Int.le_refl _, fun _ h => (by cases h), .inl rfl⟩
  | z :: r, x => by
    obtain ⟨h1, h2, h3⟩ := foldl_max r (max x z)
    rw [List.foldl_cons]
    refine ⟨by omega, fun y hy => ?_, ?_⟩
    · rcases List.mem_cons.mp hy with e | hy
      · omega
      · exact h2 y hy
    · rcases h3 with h3 | h3
      · rw [h3]
        by_cases hxz : x ≤ z
        · right; rw [show max x z = z by omega]; exact List.mem_cons_self
        · left; omega
      · exact .inr (List.mem_cons_of_mem _ h3)
theorem foldl_min : ∀ (r : List Int) (x : Int), r.foldl min x ≤ x ∧ (∀ y ∈ r, r.foldl min x ≤ y) ∧ (r.foldl min x = x ∨ r.foldl min x ∈ r)
  | [], x => ⟨Int.le_refl _, fun _ h => (by cases h), .inl rfl⟩
  | z :: r, x => by
    obtain ⟨h1, h2, h3⟩ := foldl_min r (min x z)
    rw [List.foldl_cons]
    refine ⟨by omega, fun y hy => ?_, ?_⟩
    · rcases List.mem_cons.mp hy with e | hy
      · omega
      · exact h2 y hy
    · rcases h3 with h3 | h3
      · rw [h3]
        by_cases hxz : x ≤ z
        · left; omega
        · right; rw [show min x z = z by omega]; exact List.mem_cons_self
      · exact .inr (List.mem_cons_of_mem _ h3)
theorem maxL_of {ns : List Int} {m : Int} (h1 : m ∈ ns) (h2 : ∀ y ∈ ns, y ≤ m) : maxL ns = some m := by
  cases ns with
  | nil => cases h1
  | cons x r =>
    obtain ⟨a1, a2, a3⟩ := foldl_max r x
    show some (r.foldl max x) = some m
    have hx := h2 x List.mem_cons_self
    have key : r.foldl max x ≤ m := by
      rcases a3 with e | e
      · omega
      · exact h2 _ (List.mem_cons_of_mem _ e)
    have key2 : m ≤ r.foldl max x := by
      rcases List.mem_cons.mp h1 with e | e
      · omega
      · exact a2 m e
    rw [show r.foldl max x = m by omega]
theorem minL_of {ns : List Int} {m : Int} (h1 : m ∈ ns) (h2 : ∀ y ∈ ns, m ≤ y) : minL ns = some m := by
  cases ns with
  | nil => cases h1
  | cons x r =>
    obtain ⟨a1, a2, a3⟩ := foldl_min r x
    show some (r.foldl min x) = some m
    have hx := h2 x List.mem_cons_self
    have key : m ≤ r.foldl min x := by
      rcases a3 with e | e
      · omega
      · exact h2 _ (List.mem_cons_of_mem _ e)
    have key2 : r.foldl min x ≤ m := by
      rcases List.mem_cons.mp h1 with e | e
      · omega
      · exact a2 m e
    rw [show r.foldl min x = m by omega]
theorem cr_maxD (hc : X.calm = true) : CallR X (.builtin "max") (rCl X.K cfMax) := by
  intro pins s σ H xs us Q I r ⟨L, ds, t, sep, ms, ht, q⟩
  obtain ⟨ws, w⟩ := sep
  unfold cfMax at ht
  split at ht <;> first | (cases ht; done) | skip
  · rename_i ys
    cases hb : intsD ys with
    | none => rw [hb] at ht; cases ht
    | some bs =>
      rw [hb] at ht
      cases ms with
      | cons h1 t1 =>
        obtain ⟨o, m⟩ := h1
        cases t1
        obtain ⟨p, vs, e1, hq, rr⟩ := w.lst m
        rw [intsD_rep rr hb] at hq
        have hp : 0 < bs.length := by
          cases bs with
          | nil => cases ht
          | cons _ _ => simp
        refine cr_max hc pins s σ H _ us Q I r ⟨p, bs, by rw [e1], .inl (.inl hq), hp, fun k hk hle => ?_⟩
        have ht' : (maxL bs).map (fun m => ((false, D.int m) : T)) = some t := ht
        rw [maxL_of hk hle] at ht'
        cases ht'
        exact q _ _ (Sep.cInt ⟨ws, w⟩ _)
  · rename_i i j
    cases ht
    cases ms with
    | cons h1 t1 =>
      cases t1 with
      | cons h2 t2 =>
        obtain ⟨o, m⟩ := h1
        obtain ⟨o2, m2⟩ := h2
        cases t2
        refine call_max2 hc pins s σ H _ us Q I r ⟨i, j, by rw [w.int m, w.int m2], ?_⟩
        have e : (if j > i then j else i) = max i j := by split <;> omega
        rw [e]
        exact q _ _ (Sep.cInt ⟨ws, w⟩ _)
theorem cr_minD (hc : X.calm = true) : CallR X (.builtin "min") (rCl X.K cfMin) := by
  intro pins s σ H xs us Q I r ⟨L, ds, t, sep, ms, ht, q⟩
  obtain ⟨ws, w⟩ := sep
  unfold cfMin at ht
  split at ht <;> first | (cases ht; done) | skip
  · rename_i ys
    cases hb : intsD ys with
    | none => rw [hb] at ht; cases ht
    | some bs =>
      rw [hb] at ht
      cases ms with
      | cons h1 t1 =>
        obtain ⟨o, m⟩ := h1
        cases t1
        obtain ⟨p, vs, e1, hq, rr⟩ := w.lst m
        rw [intsD_rep rr hb] at hq
        have hp : 0 < bs.length := by
          cases bs with
          | nil => cases ht
          | cons _ _ => simp
        refine cr_min hc pins s σ H _ us Q I r ⟨p, bs, by rw [e1], .inl (.inl hq), hp, fun k hk hle => ?_⟩
        have ht' : (minL bs).map (fun m => ((false, D.int m) : T)) = some t := ht
        rw [minL_of hk hle] at ht'
        cases ht'
        exact q _ _ (Sep.cInt ⟨ws, w⟩ _)
  · rename_i i j
    cases ht
    cases ms with
    | cons h1 t1 =>
      cases t1 with
      | cons h2 t2 =>
        obtain ⟨o, m⟩ := h1
        obtain ⟨o2, m2⟩ := h2
        cases t2
        refine call_min2 hc pins s σ H _ us Q I r ⟨i, j, by rw [w.int m, w.int m2], ?_⟩
        have e : (if j < i then j else i) = min i j := by split <;> omega
        rw [e]
        exact q _ _ (Sep.cInt ⟨ws, w⟩ _)
theorem cr_int : CallR X (.type "int") (rCl X.K cfInt) := by
  intro pins s σ H xs us Q I r ⟨L, ds, t, sep, ms, ht, q⟩
  obtain ⟨ws, w⟩ := sep
  unfold cfInt at ht
  split at ht <;> first | (cases ht; done) | skip
  · cases ht
    cases ms with
    | cons h1 t1 =>
      obtain ⟨o, m⟩ := h1
      cases t1
      exact call_int1 pins s σ H _ us Q I r (.inl ⟨_, by rw [w.int m], q _ _ (Sep.cInt ⟨ws, w⟩ _)⟩)
  · cases ht
    cases ms with
    | cons h1 t1 =>
      obtain ⟨o, m⟩ := h1
      cases t1
      exact call_int1 pins s σ H _ us Q I r (.inr ⟨_, by rw [w.bl m], q _ _ (Sep.cInt ⟨ws, w⟩ _)⟩)
theorem cr_list : CallR X (.type "list") (rCl X.K cfList) := by
  intro pins s σ H xs us Q I r ⟨L, ds, t, sep, ms, ht, q⟩
  obtain ⟨ws, w⟩ := sep
  unfold cfList at ht
  split at ht <;> first | (cases ht; done) | skip
  · cases ht
    cases ms with
    | cons h1 t1 =>
      obtain ⟨o, m⟩ := h1
      cases t1
      obtain ⟨p, vs, e1, hq, rr⟩ := w.lst m
      exact call_list_of pins s σ H _ us Q I r ⟨p, vs, by rw [e1], .inl (.inl (.inl hq)), newLst_of w rr q⟩
  · cases ht
    cases ms with
    | cons h1 t1 =>
      obtain ⟨o, m⟩ := h1
      cases t1
      obtain ⟨p, vs, e1, hq, rr, _⟩ := w.tup m
      exact call_list_of pins s σ H _ us Q I r ⟨p, vs, by rw [e1], .inr hq, newLst_of w rr q⟩
theorem cr_tuple : CallR X (.type "tuple") (rCl X.K cfTuple) := by
  intro pins s σ H xs us Q I r ⟨L, ds, t, sep, ms, ht, q⟩
  obtain ⟨ws, w⟩ := sep
  unfold cfTuple at ht
  split at ht <;> first | (cases ht; done) | skip
  · cases ht
    cases ms with
    | cons h1 t1 =>
      obtain ⟨o, m⟩ := h1
      cases t1
      obtain ⟨p, vs, e1, hq, rr⟩ := w.lst m
      subst e1
      obtain ⟨u, rfl, ru⟩ := vals1 r
      cases ru
      obtain ⟨its, rv, pl, hz⟩ := I.list (.inl (.inl hq))
      refine call_tuple_list pl.isList (fun h' kp => ?_) (by rw [List.size_toArray, ← rv.length]; exact hz)
      have I1 : Inv X pins σ H { s with heap := h' } := I.kept (t' := s.toks) kp
      have q' : rNewT vs H Q := rNewT.of w rr q
      exact q'.use (t' := s.toks) I1 rv hz
  · rename_i ys
    cases ht
    cases ms with
    | cons h1 t1 =>
      obtain ⟨o, m⟩ := h1
      cases t1
      obtain ⟨p, vs, e1, hq, rr, _⟩ := w.tup m
      have hm : Rep X.K H (· ∈ ws) (.ref p) (.tup ys) := by
        obtain ⟨w', o1, _⟩ := w.own.get m
        rw [e1] at o1
        cases o1 with | pure r => exact r
      subst e1
      exact call_tupleT pins s σ H _ us Q I r ⟨p, vs, rfl, hq, q _ _ ⟨ws, w.pure hm⟩⟩
end

/-! ### isinstance of a built-in type -/
def tyN : D → Option String
  | .non => some "NoneType"
  | .bl _ => some "bool"
  | .int _ => some "int"
  | .str _ => some "str"
  | .tup _ => some "tuple"
  | .lst _ => some "list"
  | .scr _ => some "list"
  | _ => none
def isiD (ty : String) (d : D) : Option T := (tyN d).bind fun n => (kitB n ty).map fun b => (false, .bl b)
section
variable {X : Cx} {W : WX}
theorem tyX_of {K : PySem.W.Frag} {H : Hp} {L : List VT} {v : V} {o : Bool} {d : D} {n : String} (s : Sep K H L) (m : (v, (o, d)) ∈ L) (h : tyN d = some n) : TyX K H v (.type n) := by
  obtain ⟨ws, w⟩ := s
  have r := w.any m
  cases r with
  | non => cases h; exact .base .non
  | bl b => cases h; exact .base (.bl b)
  | int b => cases h; exact .base (.int b)
  | str b => cases h; exact .base (.str b)
  | tup n h1 e r => cases h; exact .fTuple h1
  | ktup h1 r =>
    cases h
    obtain ⟨o, its, n, h1, h2, _⟩ := h1
    exact .kTuple h1 h2
  | lst n h1 r => cases h; exact .base (.lst h1)
  | scr n h1 => cases h; exact .base (.frz h1)
  | kscr h1 =>
    cases h
    obtain ⟨o, its, n, h1, h2, _⟩ := h1
    exact .kList h1 h2
  | obj n h1 e m r => cases h
  | ob n h1 e m r => cases h
  | dct n h1 f r1 r2 => cases h
theorem se_isi {e : Expr} {f : Env → R XV} {ty : Str} {T : String} {p p2 pos : Pos} (hu : True) (he : SE X W e f) (hg : Gl X "isinstance") (hm : X.mg "isinstance" = none) (hg2 : Gl X ty) (hm2 : X.mg ty = none) (hv2 : bootBuiltins ty = some (.type T))
    (hn2 : ty ≠ "__name__") (hd2 : (ty == ("__debug__" : Str)) = false) (hst : starEach [e, .Name ty p2] X.env = (false, eval e X.env) :: starEach [.Name ty p2] X.env) :
    SE X W (.Call (.Name "isinstance" p) [e, .Name ty p2] [] pos) (sUn (isiD T) f) := by
  have h2 : PE X (.Name ty p2) (tC (.ty T)) := pe_bltn hg2 hm2 hv2 rfl hn2 hd2
  have ha : PA X [e, .Name ty p2] (tCons (tE X.K W f) (tCons (tC (.ty T)) tNil)) := pa_cons he (pa_cons h2 pa_nil) hst
  refine PE.weak (pe_callB call_isi hg hm (by decide +kernel) ha (by decide) (by decide) hst) fun σ H Q h => ?_
  obtain ⟨ρ, hs, s, h⟩ := h
  refine ⟨ρ, hs, s, fin_mono (fin_bind0 h) fun v H1 ⟨x, ρ1, hx, s1, h1⟩ => ?_⟩
  obtain ⟨L, d, o, t, sep, m, ht, q⟩ := op1_ok s1 hx (fun p hp => by simp [hp]) h1
  unfold isiD at ht
  cases hn : tyN d with
  | none => rw [hn] at ht; cases ht
  | some n =>
    rw [hn] at ht
    have ht' : (kitB n T).map (fun b => ((false, D.bl b) : Lz.T)) = some t := ht
    cases hk : kitB n T with
    | none => rw [hk] at ht'; cases ht'
    | some b =>
      rw [hk] at ht'
      cases ht'
      exact ⟨v, .ty T, .type n, .type T, b, rfl, .ty T, tyX_of sep m hn, kit_ty hk, q _ _ (sep.cBl b)⟩
end
end Lz
/-! statements, targets, loops, comprehensions -/
namespace Lz
open PySem PySem.Spec PyProof.Rows L2

/-! ### statements -/
inductive Fl where
  | nx | bk | ct
  | rt (t : T)
  | ra (i : Nat)
def PinOk (pin : List Nat) (σ0 σ : Sg) : Prop := ∀ j ∈ pin, σ[j]? = σ0[j]?
def finS (K : PySem.W.Frag) (W : WX) (hs : List VT) (pin : List Nat) (σ0 : Sg) (r : R Fl) (E : Ends) : Prop := match r with
  | .ok .nx ρ => ∀ σ H, Stt K hs σ H ρ → PinOk pin σ0 σ → E.nx σ H
  | .ok .bk ρ => ∀ σ H, Stt K hs σ H ρ → PinOk pin σ0 σ → E.bk σ H
  | .ok .ct ρ => ∀ σ H, Stt K hs σ H ρ → PinOk pin σ0 σ → E.ct σ H
  | .ok (.rt t) ρ => ∀ v σ H, Stt K ((v, t) :: hs) σ H ρ → PinOk pin σ0 σ → E.rt v H
  | .ok (.ra i) ρ => ∀ v σ H, σ[i]? = some (some v) → Stt K hs σ H ρ → PinOk pin σ0 σ → E.rt v H
  | .exc c ρ => ∀ σ H, Stt K hs σ H ρ → PinOk pin σ0 σ → W (.ref (He.ga K c)) none σ H
  | .bad => False
def tS (K : PySem.W.Frag) (W : WX) (pin : List Nat) (f : Env → R Fl) : TS := fun E σ H => ∃ ρ hs σ0, Stt K hs σ H ρ ∧ PinOk pin σ0 σ ∧ finS K W hs pin σ0 (f ρ) E
def SS (X : Cx) (W : WX) (pin : List Nat) (st : Stmt) (f : Env → R Fl) : Prop := PS X st (tS X.K W pin f)
def SSs (X : Cx) (W : WX) (pin : List Nat) (st : List Stmt) (f : Env → R Fl) : Prop := PSs X st (tS X.K W pin f)
theorem PS.weak {X : Cx} {st : Stmt} {t t' : TS} (h : PS X st t) (w : ∀ E σ H, t' E σ H → t E σ H) : PS X st t' := ⟨fun pins s σ H E I q => h.run pins s σ H E I (w E σ H q)⟩
theorem PSs.weak {X : Cx} {st : List Stmt} {t t' : TS} (h : PSs X st t) (w : ∀ E σ H, t' E σ H → t E σ H) : PSs X st t' := ⟨fun pins s σ H E I q => h.run pins s σ H E I (w E σ H q)⟩

def xNx (ρ : Env) : R Fl := .ok .nx ρ
def xSeq (f g : Env → R Fl) (ρ : Env) : R Fl := match f ρ with
  | .ok .nx ρ' => g ρ'
  | .ok .bk ρ' => .ok .bk ρ'
  | .ok .ct ρ' => .ok .ct ρ'
  | .ok (.rt t) ρ' => .ok (.rt t) ρ'
  | .ok (.ra i) ρ' => .ok (.ra i) ρ'
  | .exc c ρ' => .exc c ρ'
  | .bad => .bad
def xExpr (f : Env → R XV) (ρ : Env) : R Fl := (f ρ).bind fun _ ρ => .ok .nx ρ
def retX (np : Nat) (x : XV) (ρ : Env) : R Fl := match x with
  | .v o d => .ok (.rt (o, d)) ρ
  | .b i => (match gt ρ i with
    | some t => if i < np then .ok (.ra i) ρ else .ok (.rt t) (pt ρ i none)
    | none => .bad)
def xRet (np : Nat) (f : Env → R XV) (ρ : Env) : R Fl := (f ρ).bind (retX np)
def xRetN (ρ : Env) : R Fl := .ok (.rt (false, .non)) ρ
def xIf (c : Env → R Bool) (f g : Env → R Fl) (ρ : Env) : R Fl := (c ρ).bind fun b ρ => if b = true then f ρ else g ρ
def putX (pin : List Nat) (i : Nat) (x : XV) (ρ : Env) : R Fl := if i ∈ pin then .bad else match x with
  | .v o d => .ok .nx (pt ρ i (some (o, d)))
  | .b j => (match gt ρ j with
    | some t => .ok .nx (pt (pt ρ j (some (false, t.2))) i (some (false, t.2)))
    | none => .bad)
def xSet (pin : List Nat) (i : Nat) (f : Env → R XV) (ρ : Env) : R Fl := (f ρ).bind (putX pin i)

section
variable {K : PySem.W.Frag} {W : WX} {hs A : List VT} {σ σ0 : Sg} {H : Hp} {ρ : Env} {pin : List Nat}
theorem finS_bind {k : XV → Env → R Fl} {r : R XV} {E : Ends} (h : finS K W hs pin σ0 (r.bind k) E) (hp : PinOk pin σ0 σ) :
    fin K W hs σ r (fun v H1 => ∃ x ρ1, ResV σ x v ∧ Stt K (hld x v ++ hs) σ H1 ρ1 ∧ finS K W hs pin σ0 (k x ρ1) E) := by
  cases r with
  | ok x ρ => exact fun v H1 hv s => ⟨x, ρ, hv, s, h⟩
  | exc c ρ => exact fun H1 s => h σ H1 s hp
  | bad => exact h
theorem finS_bindB {k : Bool → Env → R Fl} {r : R Bool} {E : Ends} (h : finS K W hs pin σ0 (r.bind k) E) (hp : PinOk pin σ0 σ) :
    finB K W hs σ r (fun c H1 => ∃ ρ1, Stt K hs σ H1 ρ1 ∧ finS K W hs pin σ0 (k c ρ1) E) := by
  cases r with
  | ok c ρ => exact fun H1 s => ⟨ρ, s, h⟩
  | exc c ρ => exact fun H1 s => h σ H1 s hp
  | bad => exact h
theorem finB_mono {r : R Bool} {Q Q' : Bool → Hp → Prop} (h : finB K W hs σ r Q) (m : ∀ v H, Q v H → Q' v H) : finB K W hs σ r Q' := by
  cases r with
  | ok x ρ => exact fun H s => m _ _ (h H s)
  | exc c ρ => exact h
  | bad => exact h
/-- a value is put into a slot -/
theorem Stt.put {v : V} {t : T} {i : Nat} (s : Stt K ((v, t) :: hs) σ H ρ) (hi : i < ρ.length) : Stt K hs (σ.set i (some v)) H (pt ρ i (some t)) := by
  have hl := s.ok.len
  refine ⟨s.ok.put i v t, ?_⟩
  have p := (slots_put (σ := σ) (ρ := ρ) (i := i) (v := v) (t := t) (by omega) hi).append_right hs
  have q1 : Sep K H ((v, t) :: (slotsL σ ρ ++ hs)) := s.sep.perm List.perm_middle
  refine Sep.perm p.symm ?_
  show Sep K H ((v, t) :: (slotsL σ (pt ρ i none) ++ hs))
  cases e : gt ρ i with
  | none => rw [pt_none ρ i e]; exact q1
  | some t' =>
    obtain ⟨v', hv'⟩ := s.ok.slot e
    have p2 : ((v, t) :: (slotsL σ ρ ++ hs)).Perm ([(v, t)] ++ ([(v', t')] ++ (slotsL σ (pt ρ i none) ++ hs))) := List.Perm.cons _ ((slots_take hv' e).append_right hs)
    exact (q1.perm p2).drop_mid
theorem pin_set {i : Nat} {x : Option V} (hp : PinOk pin σ0 σ) (h : i ∉ pin) : PinOk pin σ0 (σ.set i x) := fun j hj => by
  have ne : i ≠ j := fun e => h (by rw [e]; exact hj)
  rw [List.getElem?_set_ne ne]
  exact hp j hj
theorem pt_out : ∀ (ρ : Env) (i : Nat) (x : Option T), ρ.length ≤ i → pt ρ i x = ρ
  | [], _, _, _ => rfl
  | _ :: _, 0, _, h => by simp at h
  | y :: r, i + 1, x, h => by show y :: pt r i x = y :: r; rw [pt_out r i x (by simpa using h)]
/-- .. wherever the slot lies -/
theorem Stt.put' {v : V} {t : T} {i : Nat} (s : Stt K ((v, t) :: hs) σ H ρ) : Stt K hs (σ.set i (some v)) H (pt ρ i (some t)) := by
  by_cases hi : i < ρ.length
  · exact s.put hi
  · have hl := s.ok.len
    rw [pt_out ρ i _ (by omega), List.set_eq_of_length_le (by omega)]
    exact Stt.dropA (A := [(v, t)]) s
theorem putX_ok {x : XV} {v : V} {i : Nat} {E : Ends} (s : Stt K (hld x v ++ hs) σ H ρ) (hx : ResV σ x v) (hp : PinOk pin σ0 σ) (h : finS K W hs pin σ0 (putX pin i x ρ) E) : E.nx (σ.set i (some v)) H := by
  unfold putX at h
  by_cases hi : i ∈ pin
  · rw [if_pos hi] at h; exact h.elim
  · rw [if_neg hi] at h
    cases x with
    | v o d => exact h _ _ (Stt.put' s) (pin_set hp hi)
    | b j =>
      dsimp only at h
      cases e : gt ρ j with
      | none => rw [e] at h; exact h.elim
      | some t =>
        rw [e] at h
        have s1 := frz_ok (x := .b j) (d := t.2) (ρ' := pt ρ j (some (false, t.2))) s hx (by unfold frz; dsimp only; rw [e])
        exact h _ _ (Stt.put' s1) (pin_set hp hi)
end
section
variable {X : Cx} {W : WX} {pin : List Nat} {e c : Expr} {st : Stmt} {rest : List Stmt} {fe : Env → R XV} {gc : Env → R Bool} {f g : Env → R Fl} {pos : Pos}
theorem ss_nil : SSs X W pin [] xNx := PSs.weak pss_nil fun E σ H ⟨ρ, hs, σ0, s, hp, h⟩ => h σ H s hp
theorem ss_cons (h1 : SS X W pin st f) (h2 : SSs X W pin rest g) : SSs X W pin (st :: rest) (xSeq f g) := by
  refine PSs.weak (pss_cons h1 h2) fun E σ H h => ?_
  obtain ⟨ρ, hs, σ0, s, hp, h⟩ := h
  refine ⟨ρ, hs, σ0, s, hp, ?_⟩
  unfold xSeq at h
  cases e : f ρ with
  | ok a ρ1 =>
    rw [e] at h
    cases a with
    | nx => exact fun σ1 H1 s1 p1 => ⟨ρ1, hs, σ0, s1, p1, h⟩
    | bk => exact h
    | ct => exact h
    | rt t => exact h
    | ra t => exact h
  | exc c ρ1 => rw [e] at h; exact h
  | bad => rw [e] at h; exact h
theorem ss_pass : SS X W pin (.Pass pos) xNx := PS.weak ps_pass fun E σ H ⟨ρ, hs, σ0, s, hp, h⟩ => h σ H s hp
theorem ss_break : SS X W pin (.Break pos) (fun ρ => .ok .bk ρ) := PS.weak ps_break fun E σ H ⟨ρ, hs, σ0, s, hp, h⟩ => h σ H s hp
theorem ss_cont : SS X W pin (.Continue pos) (fun ρ => .ok .ct ρ) := PS.weak ps_continue fun E σ H ⟨ρ, hs, σ0, s, hp, h⟩ => h σ H s hp
theorem ss_expr (he : SE X W e fe) (hs : swapsWith e none pos.line X.env = pure false) : SS X W pin (.Expr e pos) (xExpr fe) := by
  refine PS.weak (ps_expr he hs) fun E σ H h => ?_
  obtain ⟨ρ, hs, σ0, s, hp, h⟩ := h
  exact ⟨ρ, hs, s, fin_mono (finS_bind h hp) fun v H1 ⟨x, ρ1, hx, s1, h1⟩ => h1 σ H1 s1.dropA hp⟩
theorem ss_ret {np : Nat} (he : SE X W e fe) : SS X W pin (.Return (some e) pos) (xRet np fe) := by
  refine PS.weak (ps_ret he) fun E σ H h => ?_
  obtain ⟨ρ, hs, σ0, s, hp, h⟩ := h
  refine ⟨ρ, hs, s, fin_mono (finS_bind h hp) fun v H1 ⟨x, ρ1, hx, s1, h1⟩ => ?_⟩
  unfold retX at h1
  cases x with
  | v o d => exact h1 v σ H1 s1 hp
  | b i =>
    dsimp only at h1
    cases e : gt ρ1 i with
    | none => rw [e] at h1; exact h1.elim
    | some t =>
      rw [e] at h1
      dsimp only at h1
      by_cases hn : i < np
      · rw [if_pos hn] at h1
        exact h1 v σ H1 hx s1 hp
      · rw [if_neg hn] at h1
        refine h1 v σ H1 ⟨s1.ok.clear i, ?_⟩ hp
        have hx' : σ[i]? = some (some v) := hx
        have q := s1.sep.perm ((slots_take hx' e).append_right hs)
        exact q.perm List.perm_middle.symm
theorem ss_retN : SS X W pin (.Return none pos) xRetN := by
  refine PS.weak ps_retN fun E σ H h => ?_
  obtain ⟨ρ, hs, σ0, s, hp, h⟩ := h
  refine h .non σ H ⟨s.ok, ?_⟩ hp
  exact Sep.perm List.perm_middle.symm (s.sep.pureC fun _ => .non)
theorem ss_if {a b : List Stmt} (hc : SB X W c gc) (ha : SSs X W pin a f) (hb : SSs X W pin b g) : SS X W pin (.If c a b pos) (xIf gc f g) := by
  refine PS.weak (ps_if hc ha hb) fun E σ H h => ?_
  obtain ⟨ρ, hs, σ0, s, hp, h⟩ := h
  refine ⟨ρ, hs, s, finB_mono (finS_bindB h hp) fun c H1 ⟨ρ1, s1, h1⟩ => ?_⟩
  cases c with
  | true => exact iteT ⟨ρ1, hs, σ0, s1, hp, h1⟩
  | false => exact iteF ⟨ρ1, hs, σ0, s1, hp, h1⟩
theorem ss_set {i : Nat} {x : Str} {pos' : Pos} (hN : X.N.Nodup) (hi : X.N[i]? = some x) (hx : Loc X.env.scope x) (he : SE X W e fe) (hs : swapsWith e (some (.Name x pos')) pos.line X.env = pure false) (hf : X.fn x = true ∨ X.env.scope.names.lookup x = some .local) :
    SS X W pin (.Assign [.Name x pos'] e pos) (xSet pin i fe) := by
  refine PS.weak (ps_set hN hi hx he hs hf) fun E σ H h => ?_
  obtain ⟨ρ, hs, σ0, s, hp, h⟩ := h
  exact ⟨ρ, hs, s, fin_mono (finS_bind h hp) fun v H1 ⟨x, ρ1, hx, s1, h1⟩ => putX_ok s1 hx hp h1⟩
end

/-! ### targets -/
def tG (K : PySem.W.Frag) (pin : List Nat) (g : D → Env → Option Env) : TG := fun v σ H Q => ∃ ρ hs d ρ', Stt K ((v, (false, d)) :: hs) σ H ρ ∧ g d ρ = some ρ' ∧ ∀ σ' H', Stt K hs σ' H' ρ' → PinOk pin σ σ' → σ'.length = σ.length → Q σ' H'
def tGs (K : PySem.W.Frag) (pin : List Nat) (g : List D → Env → Option Env) : TGs := fun vs σ H Q => ∃ ρ hs ds ρ', Stt K (prs vs ds ++ hs) σ H ρ ∧ vs.length = ds.length ∧ g ds ρ = some ρ' ∧ ∀ σ' H', Stt K hs σ' H' ρ' → PinOk pin σ σ' → σ'.length = σ.length → Q σ' H'
def SG (X : Cx) (pin : List Nat) (e : Expr) (g : D → Env → Option Env) : Prop := PG X e (tG X.K pin g)
def SGs (X : Cx) (pin : List Nat) (es : List Expr) (g : List D → Env → Option Env) : Prop := PGs X es (tGs X.K pin g)
def gNm (pin : List Nat) (i : Nat) (d : D) (ρ : Env) : Option Env := if i ∈ pin then none else some (pt ρ i (some (false, d)))
def gNl (ds : List D) (ρ : Env) : Option Env := match ds with
  | [] => some ρ
  | _ => none
def gCn (g : D → Env → Option Env) (h : List D → Env → Option Env) (ds : List D) (ρ : Env) : Option Env := match ds with
  | d :: r => (g d ρ).bind fun ρ => h r ρ
  | [] => none
def gTp (n : Nat) (h : List D → Env → Option Env) (d : D) (ρ : Env) : Option Env := match d with
  | .tup ds => if ds.length = n then h ds ρ else none
  | _ => none
theorem PG.weak {X : Cx} {e : Expr} {t t' : TG} (h : PG X e t) (w : ∀ v σ H Q, t' v σ H Q → t v σ H Q) : PG X e t' := ⟨fun pins s σ H v u Q I r q => h.run pins s σ H v u Q I r (w v σ H Q q)⟩
theorem PGs.weak {X : Cx} {es : List Expr} {t t' : TGs} (h : PGs X es t) (w : ∀ vs σ H Q, t' vs σ H Q → t vs σ H Q) : PGs X es t' := ⟨fun pins s σ H vs us Q I r q => h.run pins s σ H vs us Q I r (w vs σ H Q q)⟩
theorem PinOk.refl {pin : List Nat} {σ : Sg} : PinOk pin σ σ := fun _ _ => rfl
theorem PinOk.trans {pin : List Nat} {σ σ1 σ2 : Sg} (a : PinOk pin σ σ1) (b : PinOk pin σ1 σ2) : PinOk pin σ σ2 := fun j hj => (b j hj).trans (a j hj)
section
variable {X : Cx} {pin : List Nat} {pos : Pos}
theorem sg_nm {i : Nat} {x : Str} (hN : X.N.Nodup) (hi : X.N[i]? = some x) (hx : Loc X.env.scope x) (hf : X.fn x = true ∨ X.env.scope.names.lookup x = some .local) : SG X pin (.Name x pos) (gNm pin i) := by
  refine PG.weak (pg_name hN hi hx hf) fun v σ H Q h => ?_
  obtain ⟨ρ, hs, d, ρ', s, e, q⟩ := h
  unfold gNm at e
  by_cases hm : i ∈ pin
  · rw [if_pos hm] at e; cases e
  · rw [if_neg hm] at e
    cases e
    exact q _ _ (Stt.put' s) (pin_set PinOk.refl hm) (List.length_set ..)
theorem sg_nil : SGs X pin [] gNl := by
  refine PGs.weak pgs_nil fun vs σ H Q h => ?_
  obtain ⟨ρ, hs, ds, ρ', s, hl, e, q⟩ := h
  cases ds with
  | nil =>
    cases e
    cases vs with
    | nil => exact ⟨rfl, q σ H s PinOk.refl rfl⟩
    | cons _ _ => cases hl
  | cons _ _ => cases e
theorem sg_cons {e : Expr} {es : List Expr} {g : D → Env → Option Env} {h : List D → Env → Option Env} (h1 : SG X pin e g) (h2 : SGs X pin es h)
    (hst : (assignEach (e :: es) X.env).map (·.2) = assign e X.env :: (assignEach es X.env).map (·.2)) : SGs X pin (e :: es) (gCn g h) := by
  refine PGs.weak (pgs_cons h1 h2 hst) fun vs σ H Q hh => ?_
  obtain ⟨ρ, hs, ds, ρ', s, hl, e, q⟩ := hh
  cases ds with
  | nil => cases e
  | cons d r =>
    cases vs with
    | nil => cases hl
    | cons v vr =>
      have e' : (g d ρ).bind (fun ρ => h r ρ) = some ρ' := e
      cases e1 : g d ρ with
      | none => rw [e1] at e'; cases e'
      | some ρ1 =>
        rw [e1] at e'
        exact ⟨v, vr, rfl, ρ, prs vr r ++ hs, d, ρ1, s, e1, fun σ1 H1 s1 p1 l1 => ⟨ρ1, hs, r, ρ', s1, by simpa using hl, e', fun σ2 H2 s2 p2 l2 => q σ2 H2 s2 (p1.trans p2) (l2.trans l1)⟩⟩
theorem prs_of_all {K : PySem.W.Frag} {H : Hp} {L : List VT} {ws : List Addr} : ∀ {vs : List V} {ds : List D}, RepAll K H (· ∈ ws) vs ds → SepW K H L ws → SepW K H (prs vs ds ++ L) ws
  | _, _, .nil, s => s
  | _, _, .cons r t, s => (prs_of_all t s).pure r
theorem sg_tup {es : List Expr} {k : Nat} {h : List D → Env → Option Env} {n : Nat} (hc : X.calm = true) (h2 : SGs X pin es h) (hn : (assignEach es X.env).length = n) (hst : (assignEach es X.env).findIdx? (·.1) = none) : SG X pin (.Tuple es k pos) (gTp n h) := by
  refine PG.weak (pg_tup hc h2 hn hst) fun v σ H Q hh => ?_
  obtain ⟨ρ, hs, d, ρ', s, e, q⟩ := hh
  unfold gTp at e
  cases d <;> first | (cases e; done) | skip
  rename_i ds
  dsimp only at e
  by_cases hl : ds.length = n
  · rw [if_pos hl] at e
    obtain ⟨ws, w⟩ := s.sep
    have w' := w
    obtain ⟨a, xs, ev, hq, r, _⟩ := w.tup (o := false) (ds := ds) (v := v) (by simp)
    refine ⟨a, xs, ev, hq, by rw [r.length]; exact hl, ρ, hs, ds, ρ', ⟨s.ok, ?_⟩, r.length, e, q⟩
    have w2 := prs_of_all r w
    have p : (prs xs ds ++ (slotsL σ ρ ++ (v, (false, D.tup ds)) :: hs)).Perm ((slotsL σ ρ ++ prs xs ds) ++ ([(v, (false, D.tup ds))] ++ hs)) := by
      rw [← List.append_assoc]
      exact List.perm_append_comm.append_right _
    have q1 : Sep X.K H ((slotsL σ ρ ++ prs xs ds) ++ ([(v, (false, D.tup ds))] ++ hs)) := Sep.perm p ⟨ws, w2⟩
    have q2 := q1.drop_mid
    rw [List.append_assoc] at q2
    exact q2
  · rw [if_neg hl] at e; cases e
end
/-- a, b, .. = e (several targets, one tuple) -/
def putG (g : D → Env → Option Env) (x : XV) (ρ : Env) : R Fl := (frz x ρ).bind fun d ρ => match g d ρ with
  | some ρ => .ok .nx ρ
  | none => .bad
def xSetG (g : D → Env → Option Env) (f : Env → R XV) (ρ : Env) : R Fl := (f ρ).bind (putG g)
section
variable {X : Cx} {W : WX} {pin : List Nat} {e tg : Expr} {fe : Env → R XV} {g : D → Env → Option Env} {pos : Pos}
theorem frz_exc {x : XV} {ρ ρ' : Env} {c : Str} : frz x ρ ≠ .exc c ρ' := fun h => by
  cases x with
  | v o d => cases h
  | b i =>
    unfold frz at h
    dsimp only at h
    cases q : gt ρ i with
    | none => rw [q] at h; cases h
    | some t => rw [q] at h; cases h
theorem ss_asg (he : SE X W e fe) (hg : SG X pin tg g) (hs : swapsWithSole [tg] e pos.line X.env = pure false) (hw : swappedStores [tg] e X.env = pure none) (h1 : (assignEach [tg] X.env).map (·.2) = [assign tg X.env]) : SS X W pin (.Assign [tg] e pos) (xSetG g fe) := by
  refine PS.weak (ps_asg he hg hs hw h1) fun E σ H h => ?_
  obtain ⟨ρ, hs, σ0, s, hp, h⟩ := h
  refine ⟨ρ, hs, s, fin_mono (finS_bind h hp) fun v H1 ⟨x, ρ1, hx, s1, h1⟩ => ?_⟩
  unfold putG at h1
  cases e1 : frz x ρ1 with
  | exc c ρ2 => exact (frz_exc e1).elim
  | bad => rw [e1] at h1; exact h1.elim
  | ok d ρ2 =>
    rw [e1] at h1
    have h2 : finS X.K W hs pin σ0 (match g d ρ2 with | some ρ => .ok .nx ρ | none => .bad) E := h1
    cases e2 : g d ρ2 with
    | none => rw [e2] at h2; exact h2.elim
    | some ρ3 =>
      rw [e2] at h2
      exact ⟨ρ2, hs, d, ρ3, frz_ok s1 hx e1, e2, fun σ' H' s' p' _ => h2 σ' H' s' (hp.trans p')⟩
end

/-! ### while -/
def xWhile (c : Env → R Bool) (f : Env → R Fl) : Nat → Env → R Fl
  | 0, _ => .bad
  | n + 1, ρ => (c ρ).bind fun b ρ => if b = true then (match f ρ with
    | .ok .nx ρ' => xWhile c f n ρ'
    | .ok .ct ρ' => xWhile c f n ρ'
    | .ok .bk ρ' => .ok .nx ρ'
    | .ok (.rt t) ρ' => .ok (.rt t) ρ'
    | .ok (.ra t) ρ' => .ok (.ra t) ρ'
    | .exc c ρ' => .exc c ρ'
    | .bad => .bad) else .ok .nx ρ
section
variable {X : Cx} {W : WX} {pin : List Nat} {c : Expr} {body : List Stmt} {gc : Env → R Bool} {f : Env → R Fl} {pos : Pos}
theorem ss_while (n : Nat) (hpo : PassesOwn (model X.prog X.w) X.A X.env X.xe) (hc : SB X W c gc) (hb : SSs X W pin body f) : SS X W pin (.While c body [] pos) (xWhile gc f n) := by
  refine PS.weak (ps_while hpo hc hb) fun E σ H h => ?_
  obtain ⟨ρ, hs, σ0, s, hp, h⟩ := h
  refine ⟨fun m σ H => ∃ ρ, Stt X.K hs σ H ρ ∧ PinOk pin σ0 σ ∧ finS X.K W hs pin σ0 (xWhile gc f m ρ) E, ⟨n, ρ, s, hp, h⟩, ?_⟩
  rintro m σ1 H1 ⟨ρ1, s1, p1, h1⟩
  cases m with
  | zero => exact h1.elim
  | succ m =>
    refine ⟨ρ1, hs, s1, finB_mono (finS_bindB h1 p1) fun b H2 ⟨ρ2, s2, h2⟩ => ?_⟩
    cases b with
    | false => exact iteF (h2 σ1 H2 s2 p1)
    | true =>
      refine iteT ⟨fun σ H => ∃ ρ, Stt X.K hs σ H ρ ∧ PinOk pin σ0 σ ∧ finS X.K W hs pin σ0 (xWhile gc f m ρ) E, fun σ' H' w => ⟨m, Nat.lt_succ_self m, w⟩, ρ2, hs, σ0, s2, p1, ?_⟩
      rw [if_pos rfl] at h2
      cases e : f ρ2 with
      | ok a ρ3 =>
        rw [e] at h2
        cases a with
        | nx => exact fun σ3 H3 s3 p3 => ⟨ρ3, s3, p3, h2⟩
        | ct => exact fun σ3 H3 s3 p3 => ⟨ρ3, s3, p3, h2⟩
        | bk => exact h2
        | rt t => exact h2
        | ra t => exact h2
      | exc c ρ3 => rw [e] at h2; exact h2
      | bad => rw [e] at h2; exact h2
end

/-! ### what is walked -/
/-- the items; the slot that is locked meanwhile -/
structure Its where
  items : List D
  lk : Option (Nat × T)
def itemsD : D → Option (List D)
  | .tup xs => some xs
  | .lst xs => some xs
  | .scr ns => some (ns.map .int)
  | .str z => if z.length ≤ lim then some (z.cps.toList.map fun c => .str ⟨#[c]⟩) else none
  | _ => none
def itX (x : XV) (ρ : Env) : R Its := match x with
  | .v _ d => (match itemsD d with
    | some l => .ok ⟨l, none⟩ ρ
    | none => .bad)
  | .b i => (match gt ρ i with
    | some t => (match itemsD t.2 with
      | some l => .ok ⟨l, some (i, t)⟩ (pt ρ i none)
      | none => .bad)
    | none => .bad)
def sItE (f : Env → R XV) (ρ : Env) : R Its := (f ρ).bind itX
def rngL (a : Int) (c : Int) : Nat → List D
  | 0 => []
  | n + 1 => .int a :: rngL (a + c) c n
noncomputable def rngX (xs : List XV) (ρ : Env) : R Its := match views xs ρ with
  | some [.int n] => cif (-(2 ^ 62) ≤ n ∧ n ≤ 16777216) (.ok ⟨rngL 0 1 n.toNat, none⟩ ρ) .bad
  | some [.int a, .int b] => cif (-(2 ^ 62) ≤ a ∧ a < 2 ^ 62 ∧ -(2 ^ 62) ≤ b ∧ b < 2 ^ 62 ∧ b - a ≤ 16777216) (.ok ⟨rngL a 1 (b - a).toNat, none⟩ ρ) .bad
  | _ => .bad
noncomputable def sRng (f : Env → R (List XV)) (ρ : Env) : R Its := (f ρ).bind rngX
def unlk (lk : Option (Nat × T)) (ρ : Env) : Option Env := match lk with
  | none => some ρ
  | some (i, t) => (match gt ρ i with
    | none => some (pt ρ i (some t))
    | some _ => none)
/-- a walked thing's items are these, as long as the held thing stands -/
def Src (K : PySem.W.Frag) (J : It) (v : V) (t : T) (items : List D) : Prop := ∀ (i : Nat) (L : List VT) (H : Hp) (ws : List Addr), SepW K H L ws → (v, t) ∈ L →
  (∀ d, items[i]? = some d → J.go i H ∧ ∀ x H', J.yld i H x H' → H' = H ∧ Rep K H (· ∈ ws) x d) ∧ (items.length ≤ i → J.stop i H)
theorem src_lst {K : PySem.W.Frag} {a : Addr} {o : Bool} {ds : List D} : Src K (Itl K a) (.ref a) (o, .lst ds) ds := fun i L H ws w m => by
  obtain ⟨a', vs, e, hq, r⟩ := w.lst m
  cases e
  refine ⟨fun d hd => ?_, fun hl => ⟨vs, .inl (.inl hq), by rw [r.length]; exact hl⟩⟩
  obtain ⟨v, hv, rv⟩ := r.getD hd
  refine ⟨⟨vs, v, .inl (.inl hq), hv⟩, fun x H' hy => ⟨hy.1, ?_⟩⟩
  have e2 := hy.2 vs (.inl (.inl hq))
  rw [hv] at e2
  cases e2
  exact rv
theorem src_tup {K : PySem.W.Frag} {a : Addr} {o : Bool} {ds : List D} : Src K (Itt K a) (.ref a) (o, .tup ds) ds := fun i L H ws w m => by
  obtain ⟨a', vs, e, hq, r, _⟩ := w.tup m
  cases e
  refine ⟨fun d hd => ?_, fun hl => ⟨vs, hq, by rw [r.length]; exact hl⟩⟩
  obtain ⟨v, hv, rv⟩ := r.getD hd
  refine ⟨⟨vs, v, hq, hv⟩, fun x H' hy => ⟨hy.1, ?_⟩⟩
  have e2 := hy.2 vs hq
  rw [hv] at e2
  cases e2
  exact rv
theorem src_scr {K : PySem.W.Frag} {a : Addr} {o : Bool} {ns : List Int} : Src K (Itl K a) (.ref a) (o, .scr ns) (ns.map .int) := fun i L H ws w m => by
  obtain ⟨a', e, hq⟩ := w.scr m
  cases e
  refine ⟨fun d hd => ?_, fun hl => ⟨_, hq, by rw [List.length_map] at hl ⊢; exact hl⟩⟩
  rw [List.getElem?_map] at hd
  cases hn : ns[i]? with
  | none => rw [hn] at hd; cases hd
  | some n =>
    rw [hn] at hd
    cases hd
    have hv : (ns.map V.int)[i]? = some (.int n) := by rw [List.getElem?_map, hn]; rfl
    refine ⟨⟨_, .int n, hq, hv⟩, fun x H' hy => ⟨hy.1, ?_⟩⟩
    have e2 := hy.2 _ hq
    rw [hv] at e2
    cases e2
    exact .int n
theorem src_str {K : PySem.W.Frag} {z : Str} {v : V} {t : T} : Src K (L2.Its z) v t (z.cps.toList.map fun c => .str ⟨#[c]⟩) := fun i L H ws w m => by
  refine ⟨fun d hd => ?_, fun hl => by rw [List.length_map, Array.length_toList] at hl; exact hl⟩
  rw [List.getElem?_map, Array.getElem?_toList] at hd
  cases hn : z.cps[i]? with
  | none => rw [hn] at hd; cases hd
  | some n =>
    rw [hn] at hd
    cases hd
    refine ⟨(Array.getElem?_eq_some_iff.mp hn).1, fun x H' hy => ⟨hy.1, ?_⟩⟩
    obtain ⟨c, hc, rfl⟩ := hy.2
    rw [hn] at hc
    cases hc
    exact .str _
theorem rngL_get : ∀ (n : Nat) (a c : Int) (i : Nat) (d : D), (rngL a c n)[i]? = some d → i < n ∧ d = .int (a + i * c)
  | 0, _, _, _, _, h => by simp [rngL] at h
  | n + 1, a, c, 0, d, h => by
    simp [rngL] at h
    exact ⟨Nat.succ_pos n, by rw [← h]; simp⟩
  | n + 1, a, c, i + 1, d, h => by
    simp only [rngL, List.getElem?_cons_succ] at h
    obtain ⟨h1, h2⟩ := rngL_get n (a + c) c i d h
    refine ⟨Nat.succ_lt_succ h1, ?_⟩
    rw [h2]
    congr 1
    rw [Int.natCast_succ, Int.add_mul, Int.one_mul]
    omega
theorem rngL_len : ∀ (n : Nat) (a c : Int), (rngL a c n).length = n
  | 0, _, _ => rfl
  | n + 1, a, c => by show (rngL (a + c) c n).length + 1 = n + 1; rw [rngL_len]
theorem src_rng {K : PySem.W.Frag} {a : Int} {n : Nat} {v : V} {t : T} : Src K (Itr a n) v t (rngL a 1 n) := fun i L H ws w m => by
  refine ⟨fun d hd => ?_, fun hl => by rw [rngL_len] at hl; exact hl⟩
  obtain ⟨h1, h2⟩ := rngL_get n a 1 i d hd
  refine ⟨h1, fun x H' hy => ⟨hy.1, ?_⟩⟩
  rw [hy.2, h2, Int.mul_one]
  exact .int _
/-- an iterable: what comes of it -/
def finI (K : PySem.W.Frag) (W : WX) (hs : List VT) (σ : Sg) (r : R Its) (Q : It → Hp → Prop) : Prop := match r with
  | .ok it ρ => ∀ J v t H, Src K J v t it.items → it.items.length ≤ lim → (match it.lk with | none => True | some (i, t') => t' = t ∧ σ[i]? = some (some v) ∧ gt ρ i = none) → Stt K ((v, t) :: hs) σ H ρ → Q J H
  | .exc c ρ => ∀ H, Stt K hs σ H ρ → W (.ref (He.ga K c)) none σ H
  | .bad => False
def tI (K : PySem.W.Frag) (W : WX) (f : Env → R Its) : TI := fun σ H Q => ∃ ρ hs, Stt K hs σ H ρ ∧ finI K W hs σ (f ρ) Q
def SI (X : Cx) (W : WX) (tg it : Expr) (f : Env → R Its) : Prop := PI X tg it (tI X.K W f)
theorem PI.weak {X : Cx} {tg it : Expr} {t t' : TI} (h : PI X tg it t) (w : ∀ σ H Q, t' σ H Q → t σ H Q) : PI X tg it t' := ⟨fun pins s σ H Q I q => h.run pins s σ H Q I (w σ H Q q)⟩
theorem PI.or {X : Cx} {tg it : Expr} {t t' : TI} (h : PI X tg it t) (h' : PI X tg it t') : PI X tg it (fun σ H Q => t σ H Q ∨ t' σ H Q) := ⟨fun pins s σ H Q I q => q.elim (h.run pins s σ H Q I) (h'.run pins s σ H Q I)⟩
theorem lock_ok {K : PySem.W.Frag} {hs : List VT} {σ : Sg} {H : Hp} {ρ : Env} {i : Nat} {v : V} {t : T} (s : Stt K hs σ H ρ) (hx : σ[i]? = some (some v)) (e : gt ρ i = some t) : Stt K ((v, t) :: hs) σ H (pt ρ i none) :=
  ⟨s.ok.clear i, (s.sep.perm ((slots_take hx e).append_right hs)).perm List.perm_middle.symm⟩
theorem unlk_ok {K : PySem.W.Frag} {hs : List VT} {σ : Sg} {H : Hp} {ρ : Env} {i : Nat} {v : V} {t : T} (s : Stt K ((v, t) :: hs) σ H ρ) (hx : σ[i]? = some (some v)) (e : gt ρ i = none) (hi : i < ρ.length) : Stt K hs σ H (pt ρ i (some t)) := by
  refine ⟨s.ok.keep i hx, ?_⟩
  have p := (slots_keep (t := t) hx hi).append_right hs
  rw [pt_none ρ i e] at p
  exact (s.sep.perm List.perm_middle).perm p.symm
section
variable {X : Cx} {W : WX} {tg e : Expr} {f : Env → R XV}
/-- a list, a tuple is never longer than the line -/
def LenOk (K : PySem.W.Frag) (H : Hp) : Prop := ∀ a xs, SqL K H a xs ∨ SqT K H a xs → xs.length ≤ lim
theorem PE.len {t : TE} (h : PE X e t) : PE X e (fun σ H Q => t σ H fun v H1 => LenOk X.K H1 → Q v H1) :=
  ⟨fun pins s σ H Q I q => thn (h.run pins s σ H _ I q) fun u s1 hh => by
    obtain ⟨v, H1, I1, r, q1⟩ := hh
    refine ⟨v, H1, I1, r, q1 fun a xs hq => ?_⟩
    rcases hq with hq | hq
    · obtain ⟨_, _, _, hz⟩ := I1.list hq; exact hz
    · obtain ⟨_, _, _, hz⟩ := I1.tuple hq; exact hz⟩
theorem si_seq (he : SE X W e f) : SI X W tg e (sItE f) := by
  refine PI.weak (PI.or (pi_list (PE.len he)) (PI.or (pi_tup (PE.len he)) (pi_str (PE.len he)))) fun σ H Q h => ?_
  obtain ⟨ρ, hs, s, h⟩ := h
  unfold sItE at h
  cases e1 : f ρ with
  | bad => rw [e1] at h; exact h.elim
  | exc c ρ1 =>
    rw [e1] at h
    exact .inl ⟨ρ, hs, s, by rw [e1]; exact h⟩
  | ok x ρ1 =>
    rw [e1] at h
    have h1 : finI X.K W hs σ (itX x ρ1) Q := h
    -- what is walked, and the state
    have key : ∃ d l, itemsD d = some l ∧ ∀ v H1, ResV σ x v → Stt X.K (hld x v ++ hs) σ H1 ρ1 → ∃ o ρ2, Stt X.K ((v, (o, d)) :: hs) σ H1 ρ2 ∧ ∀ J, Src X.K J v (o, d) l → l.length ≤ lim → Q J H1 := by
      unfold itX at h1
      cases x with
      | v o d =>
        dsimp only at h1
        cases e2 : itemsD d with
        | none => rw [e2] at h1; exact h1.elim
        | some l =>
          rw [e2] at h1
          exact ⟨d, l, e2, fun v H1 hx s1 => ⟨o, ρ1, s1, fun J hJ hz => h1 J v (o, d) H1 hJ hz trivial s1⟩⟩
      | b i =>
        dsimp only at h1
        cases e3 : gt ρ1 i with
        | none => rw [e3] at h1; exact h1.elim
        | some t =>
          rw [e3] at h1
          dsimp only at h1
          cases e2 : itemsD t.2 with
          | none => rw [e2] at h1; exact h1.elim
          | some l =>
            rw [e2] at h1
            refine ⟨t.2, l, e2, fun v H1 hx s1 => ⟨t.1, _, lock_ok s1 hx e3, fun J hJ hz => h1 J v t H1 hJ hz ⟨rfl, hx, gt_pt_same _ _ _ (gt_lt e3)⟩ (lock_ok s1 hx e3)⟩⟩
    obtain ⟨d, l, e2, k⟩ := key
    cases d <;> first | (cases e2; done) | skip
    · rename_i z
      have e3 : (if z.length ≤ lim then some (z.cps.toList.map fun c => D.str ⟨#[c]⟩) else none) = some l := e2
      by_cases hz : z.length ≤ lim
      · rw [if_pos hz] at e3
        have e4 := Option.some.inj e3
        refine .inr (.inr ⟨ρ, hs, s, ?_⟩)
        rw [e1]
        intro v H1 hx s1 lo
        obtain ⟨o, ρ2, s2, q⟩ := k v H1 hx s1
        rw [← e4] at q
        exact ⟨_, s2.sep.str (o := o) (List.mem_append_right _ List.mem_cons_self), q _ src_str (by rw [List.length_map, Array.length_toList]; exact hz)⟩
      · rw [if_neg hz] at e3; cases e3
    · refine .inr (.inl ⟨ρ, hs, s, ?_⟩)
      rw [e1]
      intro v H1 hx s1 lo
      obtain ⟨o, ρ2, s2, q⟩ := k v H1 hx s1
      obtain ⟨ws, w⟩ := s2.sep
      cases e2
      obtain ⟨a, vs, ev, hq, hr, _⟩ := w.tup (v := v) (o := o) (List.mem_append_right _ List.mem_cons_self)
      subst ev
      exact ⟨a, rfl, ⟨vs, hq⟩, q _ src_tup (by rw [← hr.length]; exact lo a vs (.inr hq))⟩
    · refine .inl ⟨ρ, hs, s, ?_⟩
      rw [e1]
      intro v H1 hx s1 lo
      obtain ⟨o, ρ2, s2, q⟩ := k v H1 hx s1
      obtain ⟨ws, w⟩ := s2.sep
      cases e2
      obtain ⟨a, vs, ev, hq, hr⟩ := w.lst (v := v) (o := o) (List.mem_append_right _ List.mem_cons_self)
      subst ev
      exact ⟨a, rfl, ⟨vs, .inl (.inl hq)⟩, q _ src_lst (by rw [← hr.length]; exact lo a vs (.inl (.inl (.inl hq))))⟩
    · refine .inl ⟨ρ, hs, s, ?_⟩
      rw [e1]
      intro v H1 hx s1 lo
      obtain ⟨o, ρ2, s2, q⟩ := k v H1 hx s1
      obtain ⟨ws, w⟩ := s2.sep
      cases e2
      obtain ⟨a, ev, hq⟩ := w.scr (v := v) (o := o) (List.mem_append_right _ List.mem_cons_self)
      subst ev
      exact ⟨a, rfl, ⟨_, hq⟩, q _ src_scr (by have := lo a _ (.inl hq); rw [List.length_map] at this ⊢; exact this)⟩
theorem rngX_ok {K : PySem.W.Frag} {hs : List VT} {σ : Sg} {H : Hp} {ρ : Env} {xs : List XV} {vs : List V} {Q : It → Hp → Prop} (s : Stt K (hlds xs vs ++ hs) σ H ρ) (hx : ResVs σ xs vs) (h : finI K W hs σ (rngX xs ρ) Q) :
    (∃ j : Int, vs = [.int j] ∧ -(2 ^ 62) ≤ j ∧ j < 2 ^ 62 ∧ Q (Itr 0 j.toNat) H) ∨ (∃ i j : Int, vs = [.int i, .int j] ∧ (-(2 ^ 62) ≤ i ∧ i < 2 ^ 62 ∧ -(2 ^ 62) ≤ j ∧ j < 2 ^ 62) ∧ Q (Itr i (j - i).toNat) H) := by
  unfold rngX at h
  cases e : views xs ρ with
  | none => rw [e] at h; exact h.elim
  | some ds =>
    rw [e] at h
    have ms := views_mem s hx (fun p hp => List.mem_append_left _ hp) e
    have s0 : Stt K hs σ H ρ := s.dropA
    have s1 : Stt K ((.non, (false, .non)) :: hs) σ H ρ := ⟨s0.ok, Sep.perm List.perm_middle.symm (s0.sep.pureC fun _ => .non)⟩
    split at h
    · rename_i n e2
      obtain rfl := Option.some.inj e2
      by_cases hb : -(2 ^ 62) ≤ n ∧ n ≤ 16777216
      · rw [cif_pos hb] at h
        cases ms with
        | cons h1 t1 =>
          cases t1
          obtain ⟨o, m⟩ := h1
          exact .inl ⟨n, by rw [s.sep.int m], hb.1, by omega, h _ .non (false, .non) H src_rng (by rw [rngL_len]; show n.toNat ≤ 16777216; omega) trivial s1⟩
      · rw [cif_neg hb] at h; exact h.elim
    · rename_i a b e2
      obtain rfl := Option.some.inj e2
      by_cases hb : -(2 ^ 62) ≤ a ∧ a < 2 ^ 62 ∧ -(2 ^ 62) ≤ b ∧ b < 2 ^ 62 ∧ b - a ≤ 16777216
      · rw [cif_pos hb] at h
        cases ms with
        | cons h1 t1 =>
          cases t1 with
          | cons h2 t2 =>
            cases t2
            obtain ⟨o, m⟩ := h1
            obtain ⟨o2, m2⟩ := h2
            exact .inr ⟨a, b, by rw [s.sep.int m, s.sep.int m2], ⟨hb.1, hb.2.1, hb.2.2.1, hb.2.2.2.1⟩, h _ .non (false, .non) H src_rng (by rw [rngL_len]; show (b - a).toNat ≤ 16777216; omega) trivial s1⟩
      · rw [cif_neg hb] at h; exact h.elim
    · exact h.elim
theorem finI_bindA {K : PySem.W.Frag} {hs : List VT} {σ : Sg} {r : R (List XV)} {k : List XV → Env → R Its} {Q : It → Hp → Prop} (h : finI K W hs σ (r.bind k) Q) :
    finA K W hs σ r (fun vs H1 => ∃ xs ρ1, ResVs σ xs vs ∧ Stt K (hlds xs vs ++ hs) σ H1 ρ1 ∧ finI K W hs σ (k xs ρ1) Q) := by
  cases r with
  | ok x ρ => exact fun v H1 hv s => ⟨x, ρ, hv, s, h⟩
  | exc c ρ => exact h
  | bad => exact h
theorem sa_len {es : List Expr} {fs : Env → R (List XV)} : True := trivial
theorem si_rng1 {a : Expr} {fs : Env → R (List XV)} {p pos : Pos} (hg : Gl X "range") (hm : X.mg "range" = none) (ha : SA X W [a] fs) (hst : starEach [a] X.env = [(false, eval a X.env)]) (h1 : ∀ ρ xs ρ', fs ρ = .ok xs ρ' → xs.length = 1) : SI X W tg (.Call (.Name "range" p) [a] [] pos) (sRng fs) := by
  refine PI.weak (pi_range1 hg hm ha hst) fun σ H Q h => ?_
  obtain ⟨ρ, hs, s, h⟩ := h
  refine ⟨ρ, hs, s, ?_⟩
  have h2 := finI_bindA h
  cases e : fs ρ with
  | ok xs ρ1 =>
    rw [e] at h2
    intro vs H1 hx s1
    obtain ⟨xs', ρ2, hx', s2, h3⟩ := h2 vs H1 hx s1
    have hl : ∀ {xs : List XV} {vs : List V}, ResVs σ xs vs → xs.length = vs.length := by
      intro xs
      induction xs with
      | nil => intro vs h; cases vs with | nil => rfl | cons _ _ => exact h.elim
      | cons x xs ih => intro vs h; cases vs with | nil => exact h.elim | cons v vs => rw [List.length_cons, List.length_cons, ih h.2]
    rcases rngX_ok s2 hx' h3 with q | ⟨i, j, ev, _⟩
    · exact q
    · have := h1 ρ xs ρ1 e
      rw [hl hx, ev] at this
      cases this
  | exc c ρ1 => rw [e] at h2; exact h2
  | bad => rw [e] at h2; exact h2
theorem si_rng2 {a b : Expr} {fs : Env → R (List XV)} {p pos : Pos} (hg : Gl X "range") (hm : X.mg "range" = none) (ha : SA X W [a, b] fs) (hst : starEach [a, b] X.env = [(false, eval a X.env), (false, eval b X.env)]) (hst2 : starEach [b] X.env = [(false, eval b X.env)])
    (h1 : ∀ ρ xs ρ', fs ρ = .ok xs ρ' → xs.length = 2) : SI X W tg (.Call (.Name "range" p) [a, b] [] pos) (sRng fs) := by
  refine PI.weak (pi_range2 hg hm ha hst hst2) fun σ H Q h => ?_
  obtain ⟨ρ, hs, s, h⟩ := h
  refine ⟨ρ, hs, s, ?_⟩
  have h2 := finI_bindA h
  cases e : fs ρ with
  | ok xs ρ1 =>
    rw [e] at h2
    intro vs H1 hx s1
    obtain ⟨xs', ρ2, hx', s2, h3⟩ := h2 vs H1 hx s1
    have hl : ∀ {xs : List XV} {vs : List V}, ResVs σ xs vs → xs.length = vs.length := by
      intro xs
      induction xs with
      | nil => intro vs h; cases vs with | nil => rfl | cons _ _ => exact h.elim
      | cons x xs ih => intro vs h; cases vs with | nil => exact h.elim | cons v vs => rw [List.length_cons, List.length_cons, ih h.2]
    rcases rngX_ok s2 hx' h3 with ⟨i, ev, _⟩ | q
    · have := h1 ρ xs ρ1 e
      rw [hl hx, ev] at this
      cases this
    · exact q
  | exc c ρ1 => rw [e] at h2; exact h2
  | bad => rw [e] at h2; exact h2
end
end Lz
/-! for, comprehensions, lists that change -/
namespace Lz
open PySem PySem.Spec PyProof.Rows L2

/-! ### for -/
def forL (g : D → Env → Option Env) (f : Env → R Fl) : List D → Env → R Fl
  | [], ρ => .ok .nx ρ
  | d :: ds, ρ => match g d ρ with
    | none => .bad
    | some ρ1 => match f ρ1 with
      | .ok .nx ρ2 => forL g f ds ρ2
      | .ok .ct ρ2 => forL g f ds ρ2
      | .ok .bk ρ2 => .ok .nx ρ2
      | .ok (.rt t) ρ2 => .ok (.rt t) ρ2
      | .ok (.ra t) ρ2 => .ok (.ra t) ρ2
      | .exc c ρ2 => .exc c ρ2
      | .bad => .bad
def relk {α : Type} (lk : Option (Nat × T)) (r : R α) : R α := match r with
  | .ok a ρ => (match unlk lk ρ with
    | some ρ' => .ok a ρ'
    | none => .bad)
  | .exc c ρ => (match unlk lk ρ with
    | some ρ' => .exc c ρ'
    | none => .bad)
  | .bad => .bad
def lkOk (pin : List Nat) (lk : Option (Nat × T)) : Bool := match lk with
  | none => true
  | some (i, _) => pin.contains i
def xFor (pin : List Nat) (si : Env → R Its) (g : D → Env → Option Env) (f : Env → R Fl) (ρ : Env) : R Fl := (si ρ).bind fun it ρ => if lkOk pin it.lk = true then relk it.lk (forL g f it.items ρ) else .bad
def LkC (σ : Sg) (v : V) (t : T) (lk : Option (Nat × T)) : Prop := match lk with
  | none => True
  | some (i, t') => t' = t ∧ σ[i]? = some (some v)
section
variable {K : PySem.W.Frag} {W : WX} {hs A : List VT} {σ σ0 : Sg} {H : Hp} {ρ ρ' : Env} {pin : List Nat} {v : V} {t : T} {lk : Option (Nat × T)}
theorem unlkS (s : Stt K ((v, t) :: hs) σ H ρ) (hc : LkC σ v t lk) (e : unlk lk ρ = some ρ') : Stt K hs σ H ρ' := by
  cases lk with
  | none =>
    cases e
    exact Stt.dropA (A := [(v, t)]) s
  | some p =>
    obtain ⟨i, t'⟩ := p
    obtain ⟨rfl, hx⟩ := hc
    unfold unlk at e
    dsimp only at e
    cases q : gt ρ i with
    | some _ => rw [q] at e; cases e
    | none =>
      rw [q] at e
      cases e
      by_cases hi : i < ρ.length
      · exact unlk_ok s hx q hi
      · rw [pt_out ρ i _ (by omega)]
        exact Stt.dropA (A := [(v, t')]) s
theorem finI_mono {r : R Its} {Q Q' : It → Hp → Prop} (h : finI K W hs σ r Q) (m : ∀ v H, Q v H → Q' v H) : finI K W hs σ r Q' := by
  cases r with
  | ok x ρ => exact fun J v t H h1 h2 h3 h4 => m _ _ (h J v t H h1 h2 h3 h4)
  | exc c ρ => exact h
  | bad => exact h
theorem finS_bindI {k : Its → Env → R Fl} {r : R Its} {E : Ends} (h : finS K W hs pin σ0 (r.bind k) E) (hp : PinOk pin σ0 σ) :
    finI K W hs σ r (fun J H1 => ∃ it ρ1 v t, Src K J v t it.items ∧ it.items.length ≤ lim ∧ LkC σ v t it.lk ∧ Stt K ((v, t) :: hs) σ H1 ρ1 ∧ finS K W hs pin σ0 (k it ρ1) E) := by
  cases r with
  | ok it ρ =>
    refine fun J v t H1 h1 h2 h3 h4 => ⟨it, ρ, v, t, h1, h2, ?_, h4, h⟩
    unfold LkC
    split <;> rename_i hlk
    · trivial
    · rw [hlk] at h3; exact ⟨h3.1, h3.2.1⟩
  | exc c ρ => exact fun H1 s => h σ H1 s hp
  | bad => exact h
theorem fin_bindI {k : Its → Env → R XV} {r : R Its} {Q : VK} (h : fin K W hs σ (r.bind k) Q) :
    finI K W hs σ r (fun J H1 => ∃ it ρ1 v t, Src K J v t it.items ∧ it.items.length ≤ lim ∧ LkC σ v t it.lk ∧ Stt K ((v, t) :: hs) σ H1 ρ1 ∧ fin K W hs σ (k it ρ1) Q) := by
  cases r with
  | ok it ρ =>
    refine fun J v t H1 h1 h2 h3 h4 => ⟨it, ρ, v, t, h1, h2, ?_, h4, h⟩
    unfold LkC
    split <;> rename_i hlk
    · trivial
    · rw [hlk] at h3; exact ⟨h3.1, h3.2.1⟩
  | exc c ρ => exact h
  | bad => exact h
/-- the loop's end: unlocked -/
theorem relk_nx {E : Ends} (h : finS K W hs pin σ0 (relk lk (.ok .nx ρ)) E) (s : Stt K ((v, t) :: hs) σ H ρ) (hc : LkC σ v t lk) (hp : PinOk pin σ0 σ) : E.nx σ H := by
  unfold relk at h
  dsimp only at h
  cases e : unlk lk ρ with
  | none => rw [e] at h; exact h.elim
  | some ρ' => rw [e] at h; exact h σ H (unlkS s hc e) hp
theorem relk_rt {E : Ends} {u : V} {t2 : T} (h : finS K W hs pin σ0 (relk lk (.ok (.rt t2) ρ)) E) (s : Stt K ((u, t2) :: (v, t) :: hs) σ H ρ) (hc : LkC σ v t lk) (hp : PinOk pin σ0 σ) : E.rt u H := by
  unfold relk at h
  dsimp only at h
  cases e : unlk lk ρ with
  | none => rw [e] at h; exact h.elim
  | some ρ' => rw [e] at h; exact h u σ H (unlkS (s.perm (.swap _ _ _)) hc e) hp
theorem relk_ra {E : Ends} {u : V} {j : Nat} (h : finS K W hs pin σ0 (relk lk (.ok (.ra j) ρ)) E) (s : Stt K ((v, t) :: hs) σ H ρ) (hj : σ[j]? = some (some u)) (hc : LkC σ v t lk) (hp : PinOk pin σ0 σ) : E.rt u H := by
  unfold relk at h
  dsimp only at h
  cases e : unlk lk ρ with
  | none => rw [e] at h; exact h.elim
  | some ρ' => rw [e] at h; exact h u σ H hj (unlkS s hc e) hp
theorem relk_exc {E : Ends} {c : Str} (h : finS K W hs pin σ0 (relk lk (.exc c ρ)) E) (s : Stt K ((v, t) :: hs) σ H ρ) (hc : LkC σ v t lk) (hp : PinOk pin σ0 σ) : W (.ref (He.ga K c)) none σ H := by
  unfold relk at h
  dsimp only at h
  cases e : unlk lk ρ with
  | none => rw [e] at h; exact h.elim
  | some ρ' => rw [e] at h; exact h σ H (unlkS s hc e) hp
theorem lkC_keep {σ1 : Sg} (hc : LkC σ v t lk) (hl : lkOk pin lk = true) (hp : PinOk pin σ σ1) : LkC σ1 v t lk := by
  cases lk with
  | none => trivial
  | some p =>
    obtain ⟨i, t'⟩ := p
    exact ⟨hc.1, by rw [hp i (by simpa [lkOk] using hl)]; exact hc.2⟩
theorem drop_succ {α : Type} {l : List α} {i : Nat} {x : α} (h : l[i]? = some x) : l.drop i = x :: l.drop (i + 1) := by
  obtain ⟨h1, h2⟩ := List.getElem?_eq_some_iff.mp h
  rw [← h2]
  exact (List.drop_eq_getElem_cons h1)
end
section
variable {X : Cx} {W : WX} {pin pin' : List Nat} {tg iter : Expr} {body : List Stmt} {si : Env → R Its} {g : D → Env → Option Env} {f : Env → R Fl} {pos : Pos}
theorem ss_for (hpo : PassesOwn (model X.prog X.w) X.A X.env X.xe) (hc : X.calm = true) (hsub : ∀ j ∈ pin, j ∈ pin') (hi : SI X W tg iter si) (hg : SG X pin' tg g) (hb : SSs X W pin' body f)
    (hs : ∀ x, foldedSetIterable iter X.env x = pure x) : SS X W pin (.For tg iter body [] pos) (xFor pin' si g f) := by
  refine PS.weak (ps_for hpo hc hi hg hb hs) fun E σ H h => ?_
  obtain ⟨ρ, hs, σ0, s, hp, h⟩ := h
  refine ⟨ρ, hs, s, finI_mono (finS_bindI h hp) fun J H1 hh => ?_⟩
  obtain ⟨it, ρ1, v, t, src, hz, hl, s1, h1⟩ := hh
  cases hk : lkOk pin' it.lk with
  | false => rw [hk] at h1; exact h1.elim
  | true =>
    rw [hk, if_pos rfl] at h1
    have up : ∀ {σ1 : Sg}, PinOk pin' σ σ1 → PinOk pin σ0 σ1 := fun p => hp.trans fun j hj => p j (hsub j hj)
    refine ⟨fun i m σ1 H' => m = it.items.length - i ∧ i ≤ it.items.length ∧ ∃ ρ2, Stt X.K ((v, t) :: hs) σ1 H' ρ2 ∧ PinOk pin' σ σ1 ∧ finS X.K W hs pin σ0 (relk it.lk (forL g f (it.items.drop i) ρ2)) E,
      ⟨_, rfl, Nat.zero_le _, ρ1, s1, PinOk.refl, h1⟩, ?_⟩
    rintro i m σ1 H2 ⟨rfl, hi, ρ2, s2, p2, h2⟩
    have s2' := s2
    obtain ⟨ws, w⟩ := s2'.sep
    obtain ⟨sr1, sr2⟩ := src i _ H2 ws w (List.mem_append_right _ List.mem_cons_self)
    have hl1 := lkC_keep hl hk p2
    cases hd : it.items[i]? with
    | none =>
      have hlen : it.items.length ≤ i := List.getElem?_eq_none_iff.mp hd
      refine .inl ⟨sr2 hlen, ?_⟩
      rw [List.drop_of_length_le hlen] at h2
      exact relk_nx h2 s2 hl1 (up p2)
    | some d =>
      obtain ⟨go, yl⟩ := sr1 d hd
      have hlt : i < it.items.length := (List.getElem?_eq_some_iff.mp hd).1
      refine .inr ⟨go, fun σ3 H3 => i + 1 ≤ it.items.length ∧ ∃ ρ3, Stt X.K ((v, t) :: hs) σ3 H3 ρ3 ∧ PinOk pin' σ σ3 ∧ finS X.K W hs pin σ0 (relk it.lk (forL g f (it.items.drop (i + 1)) ρ3)) E,
        fun σ3 H3 hN => ⟨it.items.length - (i + 1), by omega, rfl, hN⟩, fun x H' hy => ?_⟩
      obtain ⟨rfl, rx⟩ := yl x H' hy
      rw [drop_succ hd] at h2
      unfold forL at h2
      cases eg : g d ρ2 with
      | none => rw [eg] at h2; exact h2.elim
      | some ρ3 =>
        rw [eg] at h2
        dsimp only at h2
        refine ⟨ρ2, (v, t) :: hs, d, ρ3, ⟨s2.ok, Sep.perm List.perm_middle.symm ⟨ws, w.pure rx⟩⟩, eg, fun σ3 H3 s3 p3 l3 => ?_⟩
        refine ⟨ρ3, (v, t) :: hs, σ, s3, p2.trans p3, ?_⟩
        cases ef : f ρ3 with
        | ok a ρ4 =>
          rw [ef] at h2
          cases a with
          | nx => exact fun σ4 H4 s4 p4 => ⟨hlt, ρ4, s4, p4, h2⟩
          | ct => exact fun σ4 H4 s4 p4 => ⟨hlt, ρ4, s4, p4, h2⟩
          | bk => exact fun σ4 H4 s4 p4 => relk_nx (W := W) (E := E) h2 s4 (lkC_keep hl hk p4) (up p4)
          | rt t2 => exact fun u σ4 H4 s4 p4 => relk_rt (W := W) (E := E) h2 s4 (lkC_keep hl hk p4) (up p4)
          | ra t2 => exact fun u σ4 H4 hj s4 p4 => relk_ra (W := W) (E := E) h2 s4 hj (lkC_keep hl hk p4) (up p4)
        | exc c ρ4 => rw [ef] at h2; exact fun σ4 H4 s4 p4 => relk_exc (W := W) (E := E) h2 s4 (lkC_keep hl hk p4) (up p4)
        | bad => rw [ef] at h2; exact h2.elim
end

/-! ### comprehensions -/
def clr : List Nat → Env → Env
  | [], ρ => ρ
  | i :: r, ρ => pt (clr r ρ) i none
def compL (own : List Nat) (g : D → Env → Option Env) (c : Env → R Bool) (f : Env → R XV) : List D → Env → R (List D)
  | [], ρ => .ok [] ρ
  | d :: ds, ρ => match g d ρ with
    | none => .bad
    | some ρ1 => (c ρ1).bind fun b ρ2 => if b = true then (f ρ2).bind fun x ρ3 => (frz x ρ3).bind fun e ρ4 => (compL own g c f ds (clr own ρ4)).bind fun es ρ5 => .ok (e :: es) ρ5
      else compL own g c f ds (clr own ρ2)
def noX {α : Type} (r : R α) : R α := match r with
  | .exc _ _ => .bad
  | r => r
/-- the slots of a comprehension's own names are put back -/
def rest : List Nat → Env → Env → Env
  | [], _, ρ' => ρ'
  | i :: r, ρ, ρ' => rest r ρ (match gt (clr r ρ) i with
    | some t => pt ρ' i (some t)
    | none => ρ')
def sComp (own : List Nat) (si : Env → R Its) (g : D → Env → Option Env) (c : Env → R Bool) (f : Env → R XV) (ρ : Env) : R XV :=
  (si ρ).bind fun it ρ1 => relk it.lk ((noX (compL own g c f it.items (clr own ρ1))).bind fun es ρ2 => .ok (.v true (.lst es)) (rest own ρ1 ρ2))
def W0 : WX := fun _ _ _ _ => False
def SC (X : Cx) (ifs : List Expr) (c : Env → R Bool) : Prop := PTs X ifs (tT X.K W0 c)
theorem PTs.weak {X : Cx} {ifs : List Expr} {t t' : TT} (h : PTs X ifs t) (w : ∀ σ H Q, t' σ H Q → t σ H Q) : PTs X ifs t' := ⟨fun pins s σ H Q I q => h.run pins s σ H Q I (w σ H Q q)⟩
theorem sc_nil {X : Cx} : SC X [] (fun ρ => .ok true ρ) := PTs.weak pts_nil fun σ H Q ⟨ρ, hs, s, h⟩ => h H s
theorem sc_one {X : Cx} {e : Expr} {c : Env → R Bool} (h : SB X W0 e c) : SC X [e] c := pts_one h
/-- the slots that are not the comprehension's own -/
def notOwn (n : Nat) (own : List Nat) : List Nat := (List.range n).filter fun i => !own.contains i

theorem gt_clr_in : ∀ (own : List Nat) (ρ : Env) (i : Nat), i ∈ own → gt (clr own ρ) i = none
  | [], _, _, h => by cases h
  | j :: r, ρ, i, h => by
    show gt (pt (clr r ρ) j none) i = none
    by_cases e : j = i
    · subst e
      by_cases hl : j < (clr r ρ).length
      · exact gt_pt_same _ _ _ hl
      · rw [pt_out _ _ _ (by omega)]
        cases q : gt (clr r ρ) j with
        | none => rfl
        | some t => exact absurd (gt_lt q) hl
    · rw [gt_pt_ne _ _ _ _ e]
      rcases List.mem_cons.mp h with e2 | h
      · exact absurd e2.symm e
      · exact gt_clr_in r ρ i h
theorem gt_clr_out : ∀ (own : List Nat) (ρ : Env) (i : Nat), i ∉ own → gt (clr own ρ) i = gt ρ i
  | [], _, _, _ => rfl
  | j :: r, ρ, i, h => by
    show gt (pt (clr r ρ) j none) i = gt ρ i
    rw [gt_pt_ne _ _ _ _ (fun e => h (by rw [e]; exact List.mem_cons_self))]
    exact gt_clr_out r ρ i fun q => h (List.mem_cons_of_mem _ q)
theorem clr_len : ∀ (own : List Nat) (ρ : Env), (clr own ρ).length = ρ.length
  | [], _ => rfl
  | j :: r, ρ => by show (pt (clr r ρ) j none).length = _; rw [pt_len, clr_len r ρ]
section
variable {K : PySem.W.Frag} {W : WX} {hs A : List VT} {σ σ0 : Sg} {H : Hp} {ρ ρ' : Env}
theorem slots_eq : ∀ {σ σ' : Sg} {ρ : Env}, σ.length = ρ.length → σ'.length = ρ.length → (∀ i t, gt ρ i = some t → σ[i]? = σ'[i]?) → slotsL σ ρ = slotsL σ' ρ
  | [], [], _, _, _, _ => rfl
  | [], _ :: _, [], _, h, _ => by cases h
  | [], _ :: _, _ :: _, h, _, _ => by cases h
  | _ :: _, [], [], h, _, _ => by cases h
  | _ :: _, [], _ :: _, _, h, _ => by cases h
  | _ :: _, _ :: _, [], h, _, _ => by cases h
  | s :: σ, s' :: σ', x :: ρ, h1, h2, h => by
    have ih := slots_eq (σ := σ) (σ' := σ') (ρ := ρ) (by simpa using h1) (by simpa using h2) fun i t e => by simpa using h (i + 1) t e
    cases x with
    | none => cases s <;> cases s' <;> exact ih
    | some t =>
      have e : s = s' := by simpa using h 0 t rfl
      subst e
      cases s with
      | none => exact ih
      | some v => show _ :: _ = _ :: _; rw [ih]
theorem sok_eq : ∀ {σ σ' : Sg} {ρ : Env}, SOk σ ρ → σ'.length = ρ.length → (∀ i t, gt ρ i = some t → σ[i]? = σ'[i]?) → SOk σ' ρ
  | [], [], [], _, _, _ => trivial
  | [], _ :: _, [], _, h, _ => by cases h
  | [], _, _ :: _, h, _, _ => h.elim
  | _ :: _, _, [], h, _, _ => h.elim
  | _ :: _, [], _ :: _, _, h, _ => by cases h
  | s :: σ, s' :: σ', x :: ρ, h1, h2, h => by
    refine ⟨fun q => ?_, sok_eq h1.2 (by simpa using h2) fun i t e => by simpa using h (i + 1) t e⟩
    obtain ⟨t, rfl⟩ := Option.isSome_iff_exists.mp q
    have e : s = s' := by simpa using h 0 t rfl
    rw [← e]
    exact h1.1 rfl
theorem Stt.chg {σ' : Sg} (s : Stt K hs σ H ρ) (hl : σ'.length = σ.length) (h : ∀ i t, gt ρ i = some t → σ[i]? = σ'[i]?) : Stt K hs σ' H ρ := by
  have l := s.ok.len
  exact ⟨sok_eq s.ok (by omega) h, by rw [← slots_eq l (by omega) h]; exact s.sep⟩
theorem wipe_get : ∀ (own : List Nat) (σ : Sg) (i : Nat), i ∉ own → (wipe σ own)[i]? = σ[i]?
  | [], _, _, _ => rfl
  | j :: r, σ, i, h => by
    unfold wipe
    rw [List.getElem?_set_ne (fun e => h (by rw [← e]; exact List.mem_cons_self))]
    exact wipe_get r σ i fun q => h (List.mem_cons_of_mem _ q)
theorem wipe_in : ∀ (own : List Nat) (σ : Sg) (i : Nat), i ∈ own → i < σ.length → (wipe σ own)[i]? = some none
  | [], _, _, h, _ => by cases h
  | j :: r, σ, i, h, hl => by
    unfold wipe
    by_cases e : j = i
    · subst e
      rw [List.getElem?_set_self (by rw [wipe_length]; exact hl)]
    · rw [List.getElem?_set_ne e]
      rcases List.mem_cons.mp h with e2 | h
      · exact absurd e2.symm e
      · exact wipe_in r σ i h hl
theorem wipe_eq {own : List Nat} {σ σ' : Sg} (hl : σ'.length = σ.length) (h : ∀ i, i ∉ own → σ'[i]? = σ[i]?) : wipe σ' own = wipe σ own := by
  apply List.ext_getElem?
  intro i
  by_cases hi : i ∈ own
  · by_cases hlt : i < σ.length
    · rw [wipe_in own σ i hi hlt, wipe_in own σ' i hi (by omega)]
    · rw [List.getElem?_eq_none (by rw [wipe_length]; omega), List.getElem?_eq_none (by rw [wipe_length]; omega)]
  · rw [wipe_get own σ i hi, wipe_get own σ' i hi, h i hi]
theorem Stt.wiped {own : List Nat} (s : Stt K hs σ H ρ) (h : ∀ i ∈ own, gt ρ i = none) : Stt K hs (wipe σ own) H ρ :=
  s.chg (wipe_length _ _) fun i t e => (wipe_get own σ i fun q => by rw [h i q] at e; cases e).symm
theorem Stt.unwiped {own : List Nat} (s : Stt K hs (wipe σ own) H ρ) (h : ∀ i ∈ own, gt ρ i = none) : Stt K hs σ H ρ :=
  s.chg (wipe_length _ _).symm fun i t e => wipe_get own σ i fun q => by rw [h i q] at e; cases e
theorem Stt.clear (s : Stt K hs σ H ρ) (i : Nat) : Stt K hs σ H (pt ρ i none) := by
  refine ⟨s.ok.clear i, ?_⟩
  cases e : gt ρ i with
  | none => rw [pt_none ρ i e]; exact s.sep
  | some t =>
    obtain ⟨v, hv⟩ := s.ok.slot e
    exact (s.sep.perm ((slots_take hv e).append_right hs)).drop
theorem saved_ok : ∀ (O : List Nat) {hs : List VT} {ρ : Env}, Stt K hs σ H ρ → ∃ sav, Stt K (sav ++ hs) σ H (Lz.clr O ρ) ∧
    ∀ (hs' : List VT) (H' : Hp) (ρ' : Env), (∀ j ∈ O, gt ρ' j = none) → Stt K (sav ++ hs') σ H' ρ' → Stt K hs' σ H' (rest O ρ ρ')
  | [], hs, ρ, s => ⟨[], s, fun hs' H' ρ' _ s' => s'⟩
  | i :: r, hs, ρ, s => by
    obtain ⟨sav, s1, k1⟩ := saved_ok r s
    cases e : gt (Lz.clr r ρ) i with
    | none =>
      refine ⟨sav, ?_, fun hs' H' ρ' hn s' => ?_⟩
      · show Stt K (sav ++ hs) σ H (pt (Lz.clr r ρ) i none)
        rw [pt_none _ _ e]; exact s1
      · show Stt K hs' σ H' (rest r ρ (match gt (Lz.clr r ρ) i with | some t => pt ρ' i (some t) | none => ρ'))
        rw [e]
        exact k1 hs' H' ρ' (fun j hj => hn j (List.mem_cons_of_mem _ hj)) s'
    | some t =>
      obtain ⟨v, hv⟩ := s1.ok.slot e
      refine ⟨(v, t) :: sav, lock_ok s1 hv e, fun hs' H' ρ' hn s' => ?_⟩
      show Stt K hs' σ H' (rest r ρ (match gt (Lz.clr r ρ) i with | some t => pt ρ' i (some t) | none => ρ'))
      rw [e]
      have hni : gt ρ' i = none := hn i List.mem_cons_self
      have s2 : Stt K (sav ++ hs') σ H' (pt ρ' i (some t)) := by
        by_cases hi : i < ρ'.length
        · exact unlk_ok s' hv hni hi
        · rw [pt_out ρ' i _ (by omega)]
          exact Stt.dropA (A := [(v, t)]) s'
      refine k1 hs' H' _ (fun j hj => ?_) s2
      have ne : i ≠ j := fun q => by
        rw [← q] at hj
        rw [gt_clr_in r ρ i hj] at e
        cases e
      rw [gt_pt_ne _ _ _ _ ne]
      exact hn j (List.mem_cons_of_mem _ hj)
theorem Stt.clr (s : Stt K hs σ H ρ) : ∀ own : List Nat, Stt K hs σ H (Lz.clr own ρ)
  | [] => s
  | i :: r => (Stt.clr s r).clear i
end

section
variable {X : Cx} {W : WX} {elt tg iter : Expr} {ifs : List Expr} {scope : Scope} {own : List (Str × Nat)} {pos : Pos} {si : Env → R Its} {g : D → Env → Option Env} {c : Env → R Bool} {f : Env → R XV}
theorem tLc_of {σ : Sg} {H : Hp} {Q : VK} (hN : σ.length = X.N.length) (h : tE X.K W (sComp (own.map (·.2)) si g c f) σ H Q) :
    tLc (tI X.K W si) (tG X.K (notOwn X.N.length (own.map (·.2))) g) (tT X.K W0 c) (tE X.K W0 f) (own.map (·.2)) σ H Q := by
  generalize hO : own.map (·.2) = O at h ⊢
  obtain ⟨ρ, hs, s, h⟩ := h
  refine ⟨ρ, hs, s, finI_mono (fin_bindI h) fun J H1 hh => ?_⟩
  obtain ⟨it, ρ1, v, t, src, hz, hlk, s1, h1⟩ := hh
  · obtain ⟨sav, s1', back0⟩ := saved_ok O s1
    generalize hcl : Lz.clr O ρ1 = ρc at s1'
    have hfree : ∀ i ∈ O, gt ρc i = none := fun i hi => by rw [← hcl]; exact gt_clr_in O ρ1 i hi
    rw [hcl] at h1
    cases hr : compL O g c f it.items ρc with
    | bad => rw [hr] at h1; exact h1.elim
    | exc c ρ2 => rw [hr] at h1; exact h1.elim
    | ok total ρf =>
      rw [hr] at h1
      have h2 : fin X.K W hs σ (relk it.lk (.ok (.v true (.lst total)) (rest O ρ1 ρf))) Q := h1
      intro D hD
      have s1q : Stt X.K ((v, t) :: (sav ++ hs)) σ H1 ρc := s1'.perm List.perm_middle
      have s2 := s1q.wiped hfree
      generalize hhs : sav ++ hs = hs2 at s2
      have hσ : (wipe σ O).length = X.N.length := by rw [wipe_length, hN]
      -- the new list is there
      have start : Stt X.K ((.ref D, (true, .lst [])) :: (v, t) :: hs2) (wipe σ O) (upd H1 D (.lst [])) ρc := by
        refine ⟨s2.ok, ?_⟩
        obtain ⟨ws, w⟩ := s2.sep
        exact Sep.perm List.perm_middle.symm ⟨_, w.newLst hD .nil⟩
      refine ⟨fun i m H' => m = it.items.length - i ∧ i ≤ it.items.length ∧ ∃ ρ2 acc es, Stt X.K ((.ref D, (true, .lst acc)) :: (v, t) :: hs2) (wipe σ O) H' ρ2 ∧ (∀ j ∈ O, gt ρ2 j = none) ∧ acc.length ≤ i ∧ compL O g c f (it.items.drop i) ρ2 = .ok es ρf ∧ acc ++ es = total,
        ⟨_, rfl, Nat.zero_le _, ρc, [], total, start, hfree, Nat.le_refl _, hr, rfl⟩, ?_⟩
      rintro i m H2 ⟨rfl, hi, ρ2, acc, es, s3, fr3, ha, hc3, ht⟩
      have s3' := s3
      obtain ⟨ws, w⟩ := s3'.sep
      obtain ⟨sr1, sr2⟩ := src i _ H2 ws w (List.mem_append_right _ (List.mem_cons_of_mem _ List.mem_cons_self))
      cases hd : it.items[i]? with
      | none =>
        have hlen : it.items.length ≤ i := List.getElem?_eq_none_iff.mp hd
        refine .inl ⟨sr2 hlen, ?_⟩
        rw [List.drop_of_length_le hlen] at hc3
        have hc4 : R.ok [] ρ2 = R.ok es ρf := hc3
        injection hc4 with e1 e2
        subst e1 e2
        rw [List.append_nil] at ht
        subst ht
        have s4a : Stt X.K ((v, t) :: (.ref D, (true, .lst acc)) :: hs2) σ H2 ρ2 := (s3.unwiped fr3).perm (.swap _ _ _)
        rw [← hhs] at s4a
        have pm : ((v, t) :: (V.ref D, ((true, Lz.D.lst acc) : T)) :: (sav ++ hs)).Perm (sav ++ ((v, t) :: (V.ref D, (true, Lz.D.lst acc)) :: hs)) :=
          (List.perm_append_comm (l₁ := [(v, t), (V.ref D, ((true, Lz.D.lst acc) : T))]) (l₂ := sav ++ hs)).trans (by
            rw [List.append_assoc]
            exact (List.perm_append_comm (l₁ := hs)).append_left sav)
        have s4 : Stt X.K ((v, t) :: (.ref D, (true, .lst acc)) :: hs) σ H2 (rest O ρ1 ρ2) := back0 _ _ _ fr3 (s4a.perm pm)
        unfold relk at h2
        dsimp only at h2
        cases eu : unlk it.lk (rest O ρ1 ρ2) with
        | none => rw [eu] at h2; exact h2.elim
        | some ρ5 =>
          rw [eu] at h2
          exact h2 _ _ trivial (unlkS s4 hlk eu)
      | some d =>
        obtain ⟨go, yl⟩ := sr1 d hd
        have hlt : i < it.items.length := (List.getElem?_eq_some_iff.mp hd).1
        refine .inr ⟨go, fun H3 => i + 1 ≤ it.items.length ∧ ∃ ρ3 acc es, Stt X.K ((.ref D, (true, .lst acc)) :: (v, t) :: hs2) (wipe σ O) H3 ρ3 ∧ (∀ j ∈ O, gt ρ3 j = none) ∧ acc.length ≤ i + 1 ∧ compL O g c f (it.items.drop (i + 1)) ρ3 = .ok es ρf ∧ acc ++ es = total,
          fun H3 hN => ⟨it.items.length - (i + 1), by omega, rfl, hN⟩, fun x H' hy => ?_⟩
        obtain ⟨rfl, rx⟩ := yl x H' hy
        rw [drop_succ hd] at hc3
        unfold compL at hc3
        cases eg : g d ρ2 with
        | none => rw [eg] at hc3; cases hc3
        | some ρ3 =>
          rw [eg] at hc3
          dsimp only at hc3
          refine ⟨ρ2, (.ref D, (true, .lst acc)) :: (v, t) :: hs2, d, ρ3, ⟨s3.ok, Sep.perm List.perm_middle.symm ⟨ws, w.pure rx⟩⟩, eg, fun σ3 H3 s4 p4 l4 => ?_⟩
          have hw : wipe σ3 O = wipe σ O := by
            have e := wipe_eq (own := O) (σ := wipe σ O) (σ' := σ3) l4 fun j hj => by
              by_cases hjn : j < X.N.length
              · exact p4 j (by unfold notOwn; rw [List.mem_filter]; exact ⟨List.mem_range.mpr hjn, by simpa using hj⟩)
              · rw [List.getElem?_eq_none (by omega), List.getElem?_eq_none (by omega)]
            rw [e]
            exact wipe_eq (own := O) (σ := σ) (σ' := wipe σ O) (wipe_length _ _) fun j hj => wipe_get O σ j hj
          refine ⟨hw, ρ3, _, s4, ?_⟩
          cases ec : c ρ3 with
          | bad => rw [ec] at hc3; cases hc3
          | exc c2 ρ4 => rw [ec] at hc3; cases hc3
          | ok b ρ4 =>
            rw [ec] at hc3
            intro H4 s5
            have hc4 : (if b = true then (f ρ4).bind (fun x ρ3 => (frz x ρ3).bind fun e ρ4 => (compL O g c f (it.items.drop (i + 1)) (clr O ρ4)).bind fun es ρ5 => .ok (e :: es) ρ5) else compL O g c f (it.items.drop (i + 1)) (clr O ρ4)) = R.ok es ρf := hc3
            have back : ∀ {hs' : List VT} {H5 : Hp} {ρ5 : Env}, Stt X.K hs' σ3 H5 ρ5 → Stt X.K hs' (wipe σ O) H5 (clr O ρ5) := fun {hs' H5 ρ5} s6 => by
              have := (s6.clr O).wiped (own := O) fun j hj => gt_clr_in O ρ5 j hj
              rw [hw] at this
              exact this
            cases b with
            | false =>
              rw [if_neg Bool.false_ne_true] at hc4
              rw [if_neg Bool.false_ne_true]
              exact ⟨hlt, clr O ρ4, acc, es, back s5, fun j hj => gt_clr_in O ρ4 j hj, by omega, hc4, ht⟩
            | true =>
              rw [if_pos rfl] at hc4
              rw [if_pos rfl]
              refine ⟨ρ4, _, s5, ?_⟩
              cases ef : f ρ4 with
              | bad => rw [ef] at hc4; cases hc4
              | exc c2 ρ5 => rw [ef] at hc4; cases hc4
              | ok y ρ5 =>
                rw [ef] at hc4
                intro yv H5 hy5 s6
                have hc5 : (frz y ρ5).bind (fun e ρ4 => (compL O g c f (it.items.drop (i + 1)) (clr O ρ4)).bind fun es ρ5 => .ok (e :: es) ρ5) = R.ok es ρf := hc4
                cases ez : frz y ρ5 with
                | bad => rw [ez] at hc5; cases hc5
                | exc c2 ρ6 => exact (frz_exc ez).elim
                | ok e ρ6 =>
                  rw [ez] at hc5
                  have hc6 : (compL O g c f (it.items.drop (i + 1)) (clr O ρ6)).bind (fun es ρ5 => .ok (e :: es) ρ5) = R.ok es ρf := hc5
                  cases el : compL O g c f (it.items.drop (i + 1)) (clr O ρ6) with
                  | bad => rw [el] at hc6; cases hc6
                  | exc c2 ρ7 => rw [el] at hc6; cases hc6
                  | ok es' ρ7 =>
                    rw [el] at hc6
                    have hc7 : R.ok (e :: es') ρ7 = R.ok es ρf := hc6
                    injection hc7 with e1 e2
                    subst e1 e2
                    have s7 := frz_ok s6 hy5 ez
                    -- the new item is appended
                    have p : (slotsL σ3 ρ6 ++ ((yv, (false, e)) :: (.ref D, (true, .lst acc)) :: (v, t) :: hs2)).Perm ((.ref D, (true, .lst acc)) :: (yv, (false, e)) :: (slotsL σ3 ρ6 ++ ((v, t) :: hs2))) := by
                      refine List.perm_middle.trans (List.Perm.trans (List.Perm.cons _ List.perm_middle) (.swap _ _ _))
                    obtain ⟨ws7, w7⟩ := s7.sep.perm p
                    obtain ⟨a7, vs7, ea, hq7, r7⟩ := w7.lst (v := .ref D) List.mem_cons_self
                    cases ea
                    have ry : Rep X.K H5 (· ∈ ws7) yv e := w7.rep (List.mem_cons_of_mem _ List.mem_cons_self)
                    have w8 := w7.chgLst rfl (r7.append (.cons ry .nil))
                    refine ⟨vs7, hq7, ?_, hlt, clr O ρ6, acc ++ [e], es', ?_, fun j hj => gt_clr_in O ρ6 j hj, by rw [List.length_append]; simpa using ha, el, by rw [List.append_assoc]; exact ht⟩
                    · rw [r7.length, ← lim_eq]
                      exact Nat.lt_of_le_of_lt ha (Nat.lt_of_lt_of_le hlt hz)
                    · have w9 : Sep X.K (upd H5 D (.lst (vs7 ++ [yv]))) ((.ref D, (true, .lst (acc ++ [e]))) :: (slotsL σ3 ρ6 ++ ((v, t) :: hs2))) := by
                        have q : Sep X.K (upd H5 D (.lst (vs7 ++ [yv]))) ((.ref D, (true, .lst (acc ++ [e]))) :: (yv, (false, e)) :: (slotsL σ3 ρ6 ++ ((v, t) :: hs2))) := ⟨ws7, w8⟩
                        exact Sep.drop_mid (A := [(.ref D, (true, .lst (acc ++ [e])))]) (B := [(yv, (false, e))]) q
                      exact back ⟨s7.ok, w9.perm List.perm_middle.symm⟩
theorem Inv.lenN {pins : List (Addr × Obj)} {s : Shared} {σ : Sg} {H : Hp} (I : L2.Inv X pins σ H s) : σ.length = X.N.length := I.len
theorem se_comp (hc : X.calm = true) (hN : X.N.Nodup) (hi : SI X W tg iter si) (ok : BlkOk X.N X.env.scope scope own)
    (hg : ∀ (s : Shared) (H : Hp) (C : Addr) (cl : List (Str × Addr)) (fp : List Addr), SG (X.blk s H scope (compEnvC scope cl C X.env) fp) (notOwn X.N.length (own.map (·.2))) tg g)
    (ht : ∀ (s : Shared) (H : Hp) (C : Addr) (cl : List (Str × Addr)) (fp : List Addr), SC (X.blk s H scope (compEnvC scope cl C X.env) fp) ifs c)
    (he : ∀ (s : Shared) (H : Hp) (C : Addr) (cl : List (Str × Addr)) (fp : List Addr), SE (X.blk s H scope (compEnvC scope cl C X.env) fp) W0 elt f) (hs : ∀ x, foldedSetIterable iter X.env x = pure x) :
    SE X W (.ListComp elt [⟨tg, iter, ifs, 0⟩] scope pos) (sComp (own.map (·.2)) si g c f) := by
  have h := pe_lc (pos := pos) (g := tG X.K (notOwn X.N.length (own.map fun x : Str × Nat => x.2)) g) (tt := tT X.K W0 c) (te := tE X.K W0 f) hc hN hi ok hg ht he hs
  exact ⟨fun pins s σ H Q I q => h.run pins s σ H Q I (tLc_of I.len q)⟩
theorem ss_setLc {pin : List Nat} {i : Nat} {y : Str} {py spos : Pos} (hc : X.calm = true) (hN : X.N.Nodup) (hy : X.N[i]? = some y) (hyl : X.env.scope.names.lookup y = some .local)
    (hsw : swapsWith (.ListComp elt [⟨tg, iter, ifs, 0⟩] scope pos) (some (.Name y py)) spos.line X.env = pure true) (hi : SI X W tg iter si) (ok : BlkOk X.N X.env.scope scope own)
    (hg : ∀ (s : Shared) (H : Hp) (C : Addr) (cl : List (Str × Addr)) (fp : List Addr), SG (X.blk s H scope (compEnvC scope cl C X.env) fp) (notOwn X.N.length (own.map (·.2))) tg g)
    (ht : ∀ (s : Shared) (H : Hp) (C : Addr) (cl : List (Str × Addr)) (fp : List Addr), SC (X.blk s H scope (compEnvC scope cl C X.env) fp) ifs c)
    (he : ∀ (s : Shared) (H : Hp) (C : Addr) (cl : List (Str × Addr)) (fp : List Addr), SE (X.blk s H scope (compEnvC scope cl C X.env) fp) W0 elt f) (hs : ∀ x, foldedSetIterable iter X.env x = pure x) :
    SS X W pin (.Assign [.Name y py] (.ListComp elt [⟨tg, iter, ifs, 0⟩] scope pos) spos) (xSet pin i (sComp (own.map (·.2)) si g c f)) := by
  have h := ps_setLc (spos := spos) (g := tG X.K (notOwn X.N.length (own.map fun x : Str × Nat => x.2)) g) (tt := tT X.K W0 c) (te := tE X.K W0 f) hc hN hy hyl hsw hi ok hg ht he hs
  refine ⟨fun pins s σ H E I q => h.run pins s σ H E I ?_⟩
  obtain ⟨ρ, hs', σ0, st, hp, q⟩ := q
  refine tLc_of (W := W) I.len ⟨ρ, hs', st, fin_mono (finS_bind q hp) fun v H1 ⟨x, ρ1, hx, s1, h1⟩ => putX_ok s1 hx hp h1⟩
end
end Lz
/-! calls of one's own functions, lists that change, raise, try -/
namespace Lz
open PySem PySem.Spec PyProof.Rows L2

/-! ### functions -/
inductive FR where
  | ok (r : T) (outs : Env)
  | al (i : Nat) (outs : Env)
  | exc (c : Str)
  | bad
def spF (K : PySem.W.Frag) (F : List T → FR) : Sp := fun vs H Q E => ∃ ts hs, ts.length = vs.length ∧ Sep K H (slotsL (vs.map some) (ts.map some) ++ hs) ∧
  match F ts with
  | .ok r outs => ∀ v H', Sep K H' ((v, r) :: (slotsL (vs.map some) outs ++ hs)) → Q v H'
  | .al i outs => ∀ v H', vs[i]? = some v → Sep K H' (slotsL (vs.map some) outs ++ hs) → Q v H'
  | .exc c => ∀ H', Sep K H' hs → E (.ref (He.ga K c)) none H'
  | .bad => False
def takeA : List XV → Env → Option (List T × Env)
  | [], ρ => some ([], ρ)
  | .v o d :: xs, ρ => (match takeA xs ρ with
    | some p => some ((o, d) :: p.1, p.2)
    | none => none)
  | .b i :: xs, ρ => (match gt ρ i with
    | some t => (match takeA xs (pt ρ i none) with
      | some p => some (t :: p.1, p.2)
      | none => none)
    | none => none)
def putA : List XV → Env → Env → Env
  | .b i :: xs, some t :: outs, ρ => putA xs outs (pt ρ i (some t))
  | _ :: xs, _ :: outs, ρ => putA xs outs ρ
  | _, _, ρ => ρ
def opF (F : List T → FR) (xs : List XV) (ρ : Env) : R XV := match takeA xs ρ with
  | none => .bad
  | some p => (match F p.1 with
    | .ok r outs => .ok (.v r.1 r.2) (putA xs outs p.2)
    | .al i outs => (match xs[i]? with
      | some (.b j) => .ok (.b j) (putA xs outs p.2)
      | some (.v _ _) => (match gt outs i with
        | some t => .ok (.v t.1 t.2) (putA xs (pt outs i none) p.2)
        | none => .bad)
      | none => .bad)
    | .exc c => .exc c p.2
    | .bad => .bad)
def sCallF (F : List T → FR) (f : Env → R (List XV)) (ρ : Env) : R XV := (f ρ).bind (opF F)
section
variable {K : PySem.W.Frag} {W : WX} {hs A : List VT} {σ : Sg} {H : Hp} {ρ : Env}
theorem Sep.sub {L' L : List VT} (h : L'.Sublist L) : ∀ {A : List VT}, Sep K H (A ++ L) → Sep K H (A ++ L') := by
  induction h with
  | slnil => exact fun s => s
  | @cons l₁ l₂ a _ ih => exact fun {A} s => ih (Sep.drop_mid (A := A) (B := [a]) s)
  | @cons_cons l₁ l₂ a _ ih =>
    exact fun {A} s => by
      have q := ih (A := A ++ [a]) (by rw [List.append_assoc]; exact s)
      rw [List.append_assoc] at q
      exact q
theorem takeA_ok : ∀ {xs : List XV} {vs : List V} {ts : List T} {hs : List VT} {ρ ρ' : Env}, SOk σ ρ → ResVs σ xs vs → takeA xs ρ = some (ts, ρ') →
    SOk σ ρ' ∧ ts.length = vs.length ∧ (slotsL σ ρ ++ (hlds xs vs ++ hs)).Perm (slotsL (vs.map some) (ts.map some) ++ (slotsL σ ρ' ++ hs))
  | [], [], _, _, _, _, s, _, e => by cases e; exact ⟨s, rfl, .refl _⟩
  | [], _ :: _, _, _, _, _, _, h, _ => h.elim
  | _ :: _, [], _, _, _, _, _, h, _ => h.elim
  | .v o d :: xs, v :: vs, ts, hs, ρ, ρ', s, h, e => by
    unfold takeA at e
    cases e1 : takeA xs ρ with
    | none => rw [e1] at e; cases e
    | some p =>
      obtain ⟨ts1, ρ1⟩ := p
      rw [e1] at e
      cases e
      obtain ⟨a, b, c⟩ := takeA_ok (hs := hs) s h.2 e1
      refine ⟨a, by rw [List.length_cons, List.length_cons, b], ?_⟩
      show (slotsL σ ρ ++ ((v, (o, d)) :: (hlds xs vs ++ hs))).Perm ((v, (o, d)) :: (slotsL (vs.map some) (ts1.map some) ++ (slotsL σ ρ1 ++ hs)))
      exact List.perm_middle.trans (c.cons _)
  | .b i :: xs, v :: vs, ts, hs, ρ, ρ', s, h, e => by
    unfold takeA at e
    cases e0 : gt ρ i with
    | none => rw [e0] at e; cases e
    | some t =>
      rw [e0] at e
      dsimp only at e
      cases e1 : takeA xs (pt ρ i none) with
      | none => rw [e1] at e; cases e
      | some p =>
        obtain ⟨ts1, ρ1⟩ := p
        rw [e1] at e
        cases e
        obtain ⟨a, b, c⟩ := takeA_ok (hs := hs) (s.clear i) h.2 e1
        refine ⟨a, by rw [List.length_cons, List.length_cons, b], ?_⟩
        have hx : σ[i]? = some (some v) := h.1
        exact ((slots_take hx e0).append_right _).trans (c.cons (v, t))
theorem putA_ok : ∀ {xs : List XV} {vs : List V} {outs : Env} {hs : List VT} {ρ : Env}, Stt K (slotsL (vs.map some) outs ++ hs) σ H ρ → ResVs σ xs vs → Stt K hs σ H (putA xs outs ρ)
  | [], [], _, _, _, s, _ => s
  | [], _ :: _, _, _, _, _, h => h.elim
  | _ :: _, [], _, _, _, _, h => h.elim
  | .v o d :: xs, v :: vs, [], hs, ρ, s, h => s
  | .v o d :: xs, v :: vs, none :: outs, hs, ρ, s, h => putA_ok (xs := xs) (vs := vs) (outs := outs) s h.2
  | .v o d :: xs, v :: vs, some t :: outs, hs, ρ, s, h => putA_ok (xs := xs) (vs := vs) (outs := outs) (Stt.dropA (A := [(v, t)]) s) h.2
  | .b i :: xs, v :: vs, [], hs, ρ, s, h => s
  | .b i :: xs, v :: vs, none :: outs, hs, ρ, s, h => putA_ok (xs := xs) (vs := vs) (outs := outs) s h.2
  | .b i :: xs, v :: vs, some t :: outs, hs, ρ, s, h => by
    have hx : σ[i]? = some (some v) := h.1
    have s1 := Stt.put' (i := i) s
    have e : σ.set i (some v) = σ := by
      apply List.ext_getElem?
      intro j
      by_cases hj : i = j
      · subst hj
        rw [List.getElem?_set_self (List.getElem?_eq_some_iff.mp hx).1, hx]
      · rw [List.getElem?_set_ne hj]
    rw [e] at s1
    exact putA_ok (xs := xs) (vs := vs) (outs := outs) s1 h.2
end
section
variable {X : Cx} {W : WX} {e : Expr} {es : List Expr} {fa : Env → R (List XV)} {k : Nat} {f : Addr} {fd : FuncData} {ps : List Str} {F : List T → FR} {x : Str} {p pos : Pos}
theorem se_callF (hF : FnOk X.prog X.w X.K X.mg X.base (L2.CX X.prog X.w) k f fd ps (spF X.K F)) (hr : Room k X.A) (hg : Gl X x) (hm : X.mg x = some (.ref f)) (hk : PySem.W.keepIn X.K (.ref f) = true) (hb : Binds X.K fd ps []) (tk : Takes X W)
    (ha : SA X W (e :: es) fa) (hdb : (x == ("__debug__" : Str)) = false) (he : starEach (e :: es) X.env = (false, eval e X.env) :: starEach es X.env) (hpl : (backTo pos (starEach es X.env)).any (·.1) = false) :
    SE X W (.Call (.Name x p) (e :: es) [] pos) (sCallF F fa) := by
  refine PE.weak (pe_callS (E := WE W) hF hr hg hm hk hb (fun σ => passAt tk σ) ha hdb he hpl) fun σ H Q h => ?_
  obtain ⟨ρ, hs, s, h⟩ := h
  refine ⟨ρ, hs, s, finA_mono (fin_bindA0 h) fun vs H1 ⟨xs, ρ1, hx, s1, h1⟩ => ?_⟩
  unfold opF at h1
  cases e1 : takeA xs ρ1 with
  | none => rw [e1] at h1; exact h1.elim
  | some q =>
    obtain ⟨ts, ρ2⟩ := q
    rw [e1] at h1
    obtain ⟨ok2, hl, pm⟩ := takeA_ok (hs := hs) s1.ok hx e1
    refine ⟨ts, slotsL σ ρ2 ++ hs, hl, s1.sep.perm pm, ?_⟩
    dsimp only at h1
    cases e2 : F ts with
    | bad => rw [e2] at h1; exact h1.elim
    | exc c =>
      rw [e2] at h1
      exact fun H' s' => h1 H' ⟨ok2, s'⟩
    | al i outs =>
      rw [e2] at h1
      intro v H' hv s'
      have pm2 : ∀ B : List VT, (B ++ (slotsL σ ρ2 ++ hs)).Perm (slotsL σ ρ2 ++ (B ++ hs)) := fun B => by
        rw [← List.append_assoc, ← List.append_assoc]
        exact List.perm_append_comm.append_right _
      have rv : ∀ {xs : List XV} {vs : List V} {i : Nat} {v : V}, ResVs σ xs vs → vs[i]? = some v → ∃ x, xs[i]? = some x ∧ ResV σ x v := by
        intro xs
        induction xs with
        | nil => intro vs i v h e; cases vs with | nil => simp at e | cons _ _ => exact h.elim
        | cons x xs ih =>
          intro vs i v h e
          cases vs with
          | nil => exact h.elim
          | cons u us =>
            cases i with
            | zero =>
              have eu : u = v := by simpa using e
              subst eu
              exact ⟨x, rfl, h.1⟩
            | succ i =>
              obtain ⟨y, h1, h2⟩ := ih (i := i) h.2 (by simpa using e)
              exact ⟨y, by simpa using h1, h2⟩
      obtain ⟨x, ex, hxv⟩ := rv hx hv
      dsimp only at h1
      rw [ex] at h1
      cases x with
      | b j =>
        refine h1 v H' hxv ?_
        exact putA_ok ⟨ok2, s'.perm (pm2 _)⟩ hx
      | v o d =>
        dsimp only at h1
        cases eg : gt outs i with
        | none => rw [eg] at h1; exact h1.elim
        | some t =>
          rw [eg] at h1
          refine h1 v H' trivial ?_
          have hv2 : (vs.map some)[i]? = some (some v) := by rw [List.getElem?_map, hv]; rfl
          have p1 := (slots_take hv2 eg).append_right (slotsL σ ρ2 ++ hs)
          have s3 : Sep X.K H' ((v, t) :: (slotsL (vs.map some) (pt outs i none) ++ (slotsL σ ρ2 ++ hs))) := s'.perm p1
          have p4 : ((v, t) :: (slotsL (vs.map some) (pt outs i none) ++ (slotsL σ ρ2 ++ hs))).Perm (slotsL σ ρ2 ++ (slotsL (vs.map some) (pt outs i none) ++ ((v, t) :: hs))) :=
            ((pm2 (slotsL (vs.map some) (pt outs i none))).cons (v, t)).trans (List.perm_middle.symm.trans (List.perm_middle.symm.append_left _))
          exact putA_ok ⟨ok2, s3.perm p4⟩ hx
    | ok r outs =>
      rw [e2] at h1
      intro v H' s'
      refine h1 v H' trivial ?_
      have s3 : Stt X.K (slotsL (vs.map some) outs ++ ((v, r) :: hs)) σ H' ρ2 := by
        refine ⟨ok2, s'.perm ?_⟩
        have p1 : ((v, r) :: (slotsL (vs.map some) outs ++ (slotsL σ ρ2 ++ hs))).Perm ((slotsL (vs.map some) outs ++ (slotsL σ ρ2 ++ hs)) ++ [(v, r)]) := (List.perm_append_comm (l₁ := [(v, r)]))
        refine p1.trans ?_
        have p2 : ((slotsL (vs.map some) outs ++ (slotsL σ ρ2 ++ hs)) ++ [(v, r)]) = (slotsL (vs.map some) outs ++ slotsL σ ρ2) ++ (hs ++ [(v, r)]) := by simp
        rw [p2]
        have p3 : (slotsL σ ρ2 ++ (slotsL (vs.map some) outs ++ ((v, r) :: hs))) = (slotsL σ ρ2 ++ slotsL (vs.map some) outs) ++ ((v, r) :: hs) := by simp
        rw [p3]
        exact List.perm_append_comm.append (List.perm_append_comm (l₁ := hs) (l₂ := [(v, r)]))
      exact putA_ok s3 hx
end
/-- the parameters' slots at the end -/
def keepP (pin : List Nat) : Nat → Nat → Env → Env
  | 0, _, _ => []
  | n + 1, j, [] => []
  | n + 1, j, x :: ρ => (if pin.contains j = true then x else none) :: keepP pin n (j + 1) ρ
def bodyF (np : Nat) (pin : List Nat) (N : Nat) (f : Env → R Fl) (ts : List T) : FR := if ts.length = np then (match f (ts.map some ++ List.replicate (N - np) none) with
  | .ok (.rt t) ρ => .ok t (keepP pin np 0 ρ)
  | .ok .nx ρ => .ok (false, .non) (keepP pin np 0 ρ)
  | .ok (.ra i) ρ => if pin.contains i = true then .al i (keepP pin np 0 ρ) else .bad
  | .exc c _ => .exc c
  | _ => .bad) else .bad
section
variable {K : PySem.W.Frag}
theorem keepP_sub {pin : List Nat} : ∀ {vs : List V} {σ : Sg} {ρ : Env} {j : Nat}, (∀ i v, vs[i]? = some v → j + i ∈ pin → σ[i]? = some (some v)) → (slotsL (vs.map some) (keepP pin vs.length j ρ)).Sublist (slotsL σ ρ)
  | [], _, _, _, _ => List.nil_sublist _
  | v :: vs, σ, [], j, h => by
    show ([] : List VT).Sublist _
    exact List.nil_sublist _
  | v :: vs, [], x :: ρ, j, h => by
    have e : ∀ (vs : List V) (ρ : Env) (j : Nat), (∀ i v, vs[i]? = some v → j + i ∈ pin → ([] : Sg)[i]? = some (some v)) → slotsL (vs.map some) (keepP pin vs.length j ρ) = [] := by
      intro vs
      induction vs with
      | nil => intro ρ j _; rfl
      | cons v vs ih =>
        intro ρ j h
        cases ρ with
        | nil => rfl
        | cons x ρ =>
          have n : pin.contains j = false := by
            cases q : pin.contains j with
            | false => rfl
            | true => have := h 0 v rfl (by simpa using q); simp at this
          show slotsL (some v :: vs.map some) ((if pin.contains j = true then x else none) :: keepP pin vs.length (j + 1) ρ) = []
          rw [n, if_neg Bool.false_ne_true]
          exact ih ρ (j + 1) fun i w hw hp => by
            have := h (i + 1) w hw (by rw [show j + (i + 1) = j + 1 + i by omega]; exact hp)
            simp at this
    rw [e (v :: vs) (x :: ρ) j h]
    exact List.nil_sublist _
  | v :: vs, s :: σ, x :: ρ, j, h => by
    have ih := keepP_sub (pin := pin) (vs := vs) (σ := σ) (ρ := ρ) (j := j + 1) fun i w hw hp => by
      have := h (i + 1) w hw (by rw [show j + (i + 1) = j + 1 + i by omega]; exact hp)
      simpa using this
    show (slotsL (some v :: vs.map some) ((if pin.contains j = true then x else none) :: keepP pin vs.length (j + 1) ρ)).Sublist _
    cases q : pin.contains j with
    | true =>
      have e : s = some v := by
        have := h 0 v rfl (by simpa using q)
        simpa using this
      subst e
      rw [if_pos rfl]
      cases x with
      | none => exact ih
      | some t => exact ih.cons_cons _
    | false =>
      rw [if_neg Bool.false_ne_true]
      cases s with
      | none => exact ih
      | some u =>
        cases x with
        | none => exact ih
        | some t => exact ih.cons _
theorem slots_none : ∀ (σ : Sg) (n : Nat), slotsL σ (List.replicate n none) = []
  | [], _ => by cases ‹Nat› <;> rfl
  | s :: σ, 0 => by cases s <;> rfl
  | s :: σ, n + 1 => by
    have ih := slots_none σ n
    cases s <;> exact ih
theorem slots_app : ∀ (vs : List V) (ts : List T) (σ : Sg) (n : Nat), ts.length = vs.length → slotsL (vs.map some ++ σ) (ts.map some ++ List.replicate n none) = slotsL (vs.map some) (ts.map some)
  | [], [], σ, n, _ => slots_none σ n
  | [], _ :: _, _, _, h => by cases h
  | _ :: _, [], _, _, h => by cases h
  | v :: vs, t :: ts, σ, n, h => by
    show (v, t) :: slotsL (vs.map some ++ σ) (ts.map some ++ List.replicate n none) = (v, t) :: slotsL (vs.map some) (ts.map some)
    rw [slots_app vs ts σ n (by simpa using h)]
theorem sok_none : ∀ (n : Nat), SOk (List.replicate n none) (List.replicate n none)
  | 0 => trivial
  | n + 1 => ⟨fun q => (by cases q), sok_none n⟩
theorem sok_app : ∀ (vs : List V) (ts : List T) (n : Nat), ts.length = vs.length → SOk (vs.map some ++ List.replicate n none) (ts.map some ++ List.replicate n none)
  | [], [], n, _ => sok_none n
  | [], _ :: _, _, h => by cases h
  | _ :: _, [], _, h => by cases h
  | v :: vs, t :: ts, n, h => ⟨fun _ => rfl, sok_app vs ts n (by simpa using h)⟩
end
section
variable {P : Program} {w : World} {K : PySem.W.Frag} {mg : Str → Option Value} {base : Heap} {x qual : Str} {params : Arguments} {body : List Stmt} {scope : Scope} {f : Addr} {fd : FuncData}
theorem fn_bad {N ps : List Str} {k : Nat} : FnOk P w K mg base (L2.CX P w) k f fd ps (spF K fun _ => .bad) :=
  ⟨fun vs H Q E ⟨_, _, _, _, h⟩ => h.elim, fun A outer s H args us vs Q E _ _ _ _ ⟨_, _, _, _, h⟩ => h.elim⟩
theorem fn_ok {N ps : List Str} {k : Nat} {pin : List Nat} {g : Env → R Fl} (F : FunD K x qual params body scope [] [] f fd) (S : FnScope N ps scope) (hp : ps.length ≤ N.length) (hpin : ∀ j ∈ pin, j < ps.length)
    (hbody : ∀ (cdv : Value) (A : Around) (outer : List PySem.Env) (s : Shared) (H : Hp) (E : XK), Room k (A.deeper (envOfC qual scope s.heap.objs.size f cdv)) →
      SSs (cxOf (L2.CX P w) P w K mg base N qual scope f cdv A outer s H E) (fun cls d _ H => E cls d H) pin body g) :
    FnOk P w K mg base (L2.CX P w) (k + 1) f fd ps (spF K (bodyF ps.length pin N.length g)) := by
  have len : ∀ vs H Q E, spF K (bodyF ps.length pin N.length g) vs H Q E → vs.length = ps.length := fun vs H Q E ⟨ts, hs, hl, _, h⟩ => by
    unfold bodyF at h
    by_cases q : ts.length = ps.length
    · rw [← hl]; exact q
    · rw [if_neg q] at h; exact h.elim
  refine F.ok S len fun cdv A outer s H vs Q E hr hsp => ⟨_, hbody cdv A outer s H E hr, ?_⟩
  have hvl := len _ _ _ _ hsp
  obtain ⟨ts, hs, hl, sep, h⟩ := hsp
  have htl : ts.length = ps.length := hl.trans hvl
  unfold bodyF at h
  rw [if_pos htl] at h
  have st : Stt K hs (L2.start N vs) H (ts.map some ++ List.replicate (N.length - ps.length) none) := by
    unfold L2.start
    rw [hvl]
    refine ⟨sok_app vs ts _ hl, ?_⟩
    rw [slots_app vs ts _ _ hl]
    exact sep
  refine ⟨_, hs, L2.start N vs, st, fun _ _ => rfl, ?_⟩
  have outs : ∀ {σ : Sg} {H' : Hp} {ρ : Env} {B : List VT}, Stt K (B ++ hs) σ H' ρ → PinOk pin (L2.start N vs) σ → Sep K H' (B ++ (slotsL (vs.map some) (keepP pin ps.length 0 ρ) ++ hs)) := fun {σ H' ρ B} s1 hp1 => by
    have sb := keepP_sub (pin := pin) (vs := vs) (σ := σ) (ρ := ρ) (j := 0) fun i v hv hi => by
      rw [Nat.zero_add] at hi
      rw [hp1 i hi]
      unfold L2.start
      rw [List.getElem?_append_left (by rw [List.length_map]; exact (List.getElem?_eq_some_iff.mp hv).1), List.getElem?_map, hv]
      rfl
    rw [hvl] at sb
    have p1 : (slotsL σ ρ ++ (B ++ hs)).Perm ((B ++ hs) ++ slotsL σ ρ) := List.perm_append_comm
    have q := Sep.sub sb (A := B ++ hs) (s1.sep.perm p1)
    refine q.perm ?_
    rw [List.append_assoc]
    exact List.perm_append_comm.append_left _
  unfold finS
  cases e : g (ts.map some ++ List.replicate (N.length - ps.length) none) with
  | bad => rw [e] at h; exact h.elim
  | exc c ρ =>
    rw [e] at h
    exact fun σ H' s1 _ => h H' s1.sep.drops
  | ok a ρ =>
    rw [e] at h
    cases a with
    | bk => exact h.elim
    | ct => exact h.elim
    | ra i =>
      intro v σ H' hi s1 hp1
      dsimp only at h
      cases hc : pin.contains i with
      | false => rw [hc, if_neg Bool.false_ne_true] at h; exact h.elim
      | true =>
        rw [hc, if_pos rfl] at h
        have hm : i ∈ pin := by simpa using hc
        have hlt : i < vs.length := by rw [hvl]; exact hpin i hm
        refine h v H' ?_ (outs (B := []) s1 hp1)
        have e1 := hp1 i hm
        rw [hi] at e1
        unfold L2.start at e1
        rw [List.getElem?_append_left (by rw [List.length_map]; exact hlt), List.getElem?_map] at e1
        cases hq : vs[i]? with
        | none => rw [hq] at e1; cases e1
        | some w =>
          rw [hq] at e1
          have e2 : some v = some w := Option.some.inj e1
          exact e2.symm
    | nx =>
      intro σ H' s1 hp1
      refine h _ H' ?_
      obtain ⟨ws, q⟩ := outs (B := []) s1 hp1
      exact ⟨ws, q.pure .non⟩
    | rt t =>
      intro v σ H' s1 hp1
      exact h v H' (outs (B := [(v, t)]) s1 hp1)
end
end Lz
/-! lists that change, raise, try -/
namespace Lz
open PySem PySem.Spec PyProof.Rows L2

section
variable {K : PySem.W.Frag} {W : WX} {hs A : List VT} {σ σ0 : Sg} {H : Hp} {ρ : Env} {v : V}
theorem Stt.lstAt {i : Nat} {ds : List D} (s : Stt K hs σ H ρ) (hx : σ[i]? = some (some v)) (e : gt ρ i = some (true, .lst ds)) :
    ∃ a vs ws L, v = .ref a ∧ H a = some (.lst vs) ∧ RepAll K H (· ∈ ws) vs ds ∧ SepW K H L ws ∧ (∀ p, p ∈ slotsL σ ρ ++ hs → p ∈ L) ∧
      ∀ vs' ds', RepAll K H (· ∈ ws) vs' ds' → Stt K hs σ (upd H a (.lst vs')) (pt ρ i (some (true, .lst ds'))) := by
  have hi : i < ρ.length := gt_lt e
  have p := (slots_take hx e).append_right hs
  obtain ⟨ws, q⟩ := s.sep.perm p
  obtain ⟨a, vs, rfl, h1, r⟩ := q.lst List.mem_cons_self
  refine ⟨a, vs, ws, _, rfl, h1, r, q, fun x hxm => p.mem_iff.mp hxm, fun vs' ds' r' => ⟨s.ok.keep i hx, ?_⟩⟩
  have q' := q.chgLst rfl r'
  exact Sep.perm ((slots_keep (t := (true, .lst ds')) hx hi).append_right hs).symm ⟨ws, q'⟩
end
def isL (x : XV) (ρ : Env) : Bool := match x with
  | .b i => (match gt ρ i with
    | some (true, .lst _) => true
    | _ => false)
  | _ => false
def opApp (x : XV) (xs : List XV) (ρ : Env) : R XV := match x, xs with
  | .b i, [y] => (frz y ρ).bind fun d ρ => (match gt ρ i with
    | some (true, .lst ds) => if ds.length < lim then .ok (.v false .non) (pt ρ i (some (true, .lst (ds ++ [d])))) else .bad
    | _ => .bad)
  | _, _ => .bad
def opExt (x : XV) (xs : List XV) (ρ : Env) : R XV := match x, xs with
  | .b i, [y] => (match view y ρ, gt ρ i with
    | some (.lst es), some (true, .lst ds) => if ds.length + es.length ≤ lim then .ok (.v false .non) (pt ρ i (some (true, .lst (ds ++ es)))) else .bad
    | _, _ => .bad)
  | _, _ => .bad
def sMu (op : XV → List XV → Env → R XV) (a : Env → R XV) (f : Env → R (List XV)) (ρ : Env) : R XV := (a ρ).bind fun x ρ => if isL x ρ = true then (f ρ).bind fun xs ρ => op x xs ρ else .bad
section
variable {K : PySem.W.Frag} {W : WX} {hs A : List VT} {σ σ0 : Sg} {H : Hp} {ρ : Env} {v u : V} {Q : VK}
theorem non_ok (s : Stt K hs σ H ρ) (h : fin K W hs σ (.ok (.v false .non) ρ) Q) : Q .non H := fin_c (d := .non) s (fun _ => .non) h
theorem opApp_ok {x : XV} {xs : List XV} {vs : List V} (s : Stt K (hlds xs vs ++ (hld x v ++ hs)) σ H ρ) (hx : ResV σ x v) (hxs : ResVs σ xs vs) (h : fin K W hs σ (opApp x xs ρ) Q) : L2.rAppend v vs H Q := by
  unfold opApp at h
  cases x with
  | v o d => exact h.elim
  | b i =>
    match xs, vs, hxs, h, s with
    | [], _, _, h, _ => exact h.elim
    | _ :: _ :: _, _, _, h, _ => exact h.elim
    | [_], [], hxs, _, _ => exact hxs.elim
    | [_], _ :: _ :: _, hxs, _, _ => exact hxs.2.elim
    | [y], [u], hxs, h, s =>
      have s' : Stt K (hld y u ++ hs) σ H ρ := by
        have e : hlds [y] [u] ++ (hld (.b i) v ++ hs) = hld y u ++ hs := by simp [hlds, hld]
        rw [e] at s
        exact s
      dsimp only at h
      cases ez : frz y ρ with
      | bad => rw [ez] at h; exact h.elim
      | exc c ρ1 => exact (frz_exc ez).elim
      | ok d ρ1 =>
        rw [ez] at h
        have h' : fin K W hs σ (match gt ρ1 i with
          | some (true, .lst ds) => if ds.length < lim then .ok (.v false .non) (pt ρ1 i (some (true, .lst (ds ++ [d])))) else .bad
          | _ => .bad) Q := h
        have s1 := frz_ok s' hxs.1 ez
        have hx' : σ[i]? = some (some v) := hx
        cases eg : gt ρ1 i with
        | none => rw [eg] at h'; exact h'.elim
        | some t =>
          rw [eg] at h'
          obtain ⟨o, dd⟩ := t
          cases o with
          | false => exact h'.elim
          | true =>
            cases dd <;> first | exact h'.elim | skip
            rename_i ds
            have h2 : fin K W hs σ (if ds.length < lim then .ok (.v false .non) (pt ρ1 i (some (true, .lst (ds ++ [d])))) else .bad) Q := h'
            by_cases hz : ds.length < lim
            · rw [if_pos hz] at h2
              obtain ⟨a, ws0, wsx, L, rfl, h1, r, q, m, fn⟩ := s1.lstAt hx' eg
              refine ⟨a, ws0, u, rfl, rfl, h1, by rw [r.length]; exact hz, ?_⟩
              have ru : Rep K H (· ∈ wsx) u d := q.rep (m _ (List.mem_append_right _ List.mem_cons_self))
              have s2 := fn (ws0 ++ [u]) (ds ++ [d]) (r.append (.cons ru .nil))
              exact non_ok (Stt.dropA (A := [(u, (false, d))]) s2) h2
            · rw [if_neg hz] at h2; exact h2.elim
theorem opExt_ok {x : XV} {xs : List XV} {vs : List V} (s : Stt K (hlds xs vs ++ (hld x v ++ hs)) σ H ρ) (hx : ResV σ x v) (hxs : ResVs σ xs vs) (h : fin K W hs σ (opExt x xs ρ) Q) : L2.rExtend v vs H Q := by
  unfold opExt at h
  cases x with
  | v o d => exact h.elim
  | b i =>
    match xs, vs, hxs, h, s with
    | [], _, _, h, _ => exact h.elim
    | _ :: _ :: _, _, _, h, _ => exact h.elim
    | [_], [], hxs, _, _ => exact hxs.elim
    | [_], _ :: _ :: _, hxs, _, _ => exact hxs.2.elim
    | [y], [u], hxs, h, s =>
      have s' : Stt K (hld y u ++ hs) σ H ρ := by
        have e : hlds [y] [u] ++ (hld (.b i) v ++ hs) = hld y u ++ hs := by simp [hlds, hld]
        rw [e] at s
        exact s
      dsimp only at h
      cases ev : view y ρ with
      | none => rw [ev] at h; exact h.elim
      | some dy =>
        rw [ev] at h
        cases dy <;> first | exact h.elim | skip
        rename_i es
        have hx' : σ[i]? = some (some v) := hx
        cases eg : gt ρ i with
        | none => rw [eg] at h; exact h.elim
        | some t =>
          rw [eg] at h
          obtain ⟨o, dd⟩ := t
          cases o with
          | false => exact h.elim
          | true =>
            cases dd <;> first | exact h.elim | skip
            rename_i ds
            have h2 : fin K W hs σ (if ds.length + es.length ≤ lim then .ok (.v false .non) (pt ρ i (some (true, .lst (ds ++ es)))) else .bad) Q := h
            by_cases hz : ds.length + es.length ≤ lim
            · rw [if_pos hz] at h2
              obtain ⟨o1, m1⟩ := s'.mem hxs.1 (fun p hp => by simp [hp]) ev
              obtain ⟨a, ws0, wsx, L, rfl, h1, r, q, m, fn⟩ := s'.lstAt hx' eg
              -- the other list
              have pmem := m1
              obtain ⟨ws1, q1⟩ := s'.sep
              obtain ⟨b, us0, rfl, hb1, _⟩ := q1.lst m1
              have rr : ∃ us, H b = some (.lst us) ∧ RepAll K H (· ∈ wsx) us es := by
                rcases List.mem_append.mp m1 with hm | hm
                · by_cases hin : (V.ref b, (o1, D.lst es)) ∈ L
                  · obtain ⟨b', us, eb, hb, rb⟩ := q.lst hin
                    cases eb
                    exact ⟨us, hb, rb⟩
                  · exact absurd (m _ (List.mem_append_left _ hm)) hin
                · obtain ⟨b', us, eb, hb, rb⟩ := q.lst (m _ (List.mem_append_right _ hm))
                  cases eb
                  exact ⟨us, hb, rb⟩
              obtain ⟨us, hb, rb⟩ := rr
              refine ⟨a, b, ws0, us, rfl, rfl, h1, hb, by rw [r.length, rb.length]; exact hz, ?_⟩
              have s2 := fn (ws0 ++ us) (ds ++ es) (r.append rb)
              exact non_ok (Stt.dropA (A := hld y (.ref b)) s2) h2
            · rw [if_neg hz] at h2; exact h2.elim
end
section
variable {X : Cx} {W : WX} {o e : Expr} {es : List Expr} {fa : Env → R XV} {f : Env → R (List XV)} {name : Str} {apos cpos : Pos} {id : String}
theorem se_mu {op : XV → List XV → Env → R XV} {r : V → List V → Hp → VK → Prop} (pa : PlainAttrs "list") (slot : Slot "list" name id) (hty : typeOf (.builtin id) = pure (.type "method_descriptor")) (hm : MtR X id r)
    (hop : ∀ {hs : List VT} {σ : Sg} {H : Hp} {ρ : Env} {Q : VK} {x : XV} {v : V} {xs : List XV} {vs : List V}, Stt X.K (hlds xs vs ++ (hld x v ++ hs)) σ H ρ → ResV σ x v → ResVs σ xs vs → fin X.K W hs σ (op x xs ρ) Q → r v vs H Q)
    (ho : SE X W o fa) (ha : SA X W (e :: es) f)
    (hbase : attributeBase o name X.env (eval o X.env) = eval o X.env)
    (few : ((backTo cpos (starEach (e :: es) X.env)).all (fun x => !x.1) && (backToKw cpos (keywordEach [] X.env)).all (fun x => x.1.isSome) && decide ((e :: es).length + 0 + 0 < 30)) = true)
    (hline : (apos.endLine == cpos.line) = true) (hst : starEach (e :: es) X.env = (false, eval e X.env) :: starEach es X.env) (hpl : (backTo cpos (starEach es X.env)).any (·.1) = false) :
    SE X W (.Call (.Attribute o name apos) (e :: es) [] cpos) (sMu op fa f) := by
  refine PE.weak (pe_bmW pa slot hty hm ho ha hbase few hline hst hpl) fun σ H Q h => ?_
  obtain ⟨ρ, hs, s, h⟩ := h
  refine ⟨ρ, hs, s, fin_mono (fin_bind0 h) fun v H1 ⟨x, ρ1, hx, s1, h1⟩ => ?_⟩
  cases et : isL x ρ1 with
  | false => rw [et] at h1; exact h1.elim
  | true =>
    rw [et, if_pos rfl] at h1
    refine ⟨?_, ρ1, _, s1, finA_mono (fin_bindA (hld x v) h1) fun vs H2 ⟨xs, ρ2, hxs, s2, h2⟩ => hop s2 hx hxs h2⟩
    unfold isL at et
    cases x with
    | v o d => cases et
    | b i =>
      dsimp only at et
      cases eg : gt ρ1 i with
      | none => rw [eg] at et; cases et
      | some t =>
        rw [eg] at et
        obtain ⟨o, dd⟩ := t
        cases o with
        | false => cases et
        | true =>
          cases dd <;> first | cases et | skip
          obtain ⟨a, vs, ws, L, rfl, h2, _⟩ := s1.lstAt hx eg
          exact .inl ⟨rfl, _, h2⟩
end
/-! ### l[i] = v -/
def opSetI (x z y : XV) (ρ : Env) : R Fl := match x, view z ρ with
  | .b j, some (.int k) => (frz y ρ).bind fun d ρ => (match gt ρ j with
    | some (true, .lst ds) => (match ixN ds.length k with
      | some m => .ok .nx (pt ρ j (some (true, .lst (ds.set m d))))
      | none => .bad)
    | _ => .bad)
  | _, _ => .bad
def xSetI (fe fo fi : Env → R XV) (ρ : Env) : R Fl := (fe ρ).bind fun y ρ => (fo ρ).bind fun x ρ => (fi ρ).bind fun z ρ => opSetI x z y ρ
section
variable {K : PySem.W.Frag} {W : WX} {hs : List VT} {σ σ0 : Sg} {H : Hp} {ρ : Env} {pin : List Nat}
theorem finS_bindA {k : XV → Env → R Fl} {r : R XV} {E : Ends} (A : List VT) (h : finS K W hs pin σ0 (r.bind k) E) (hp : PinOk pin σ0 σ) :
    fin K W (A ++ hs) σ r (fun v H1 => ∃ x ρ1, ResV σ x v ∧ Stt K (hld x v ++ (A ++ hs)) σ H1 ρ1 ∧ finS K W hs pin σ0 (k x ρ1) E) := by
  cases r with
  | ok x ρ => exact fun v H1 hv s => ⟨x, ρ, hv, s, h⟩
  | exc c ρ => exact fun H1 s => h σ H1 s.dropA hp
  | bad => exact h
end
section
variable {X : Cx} {W : WX} {pin : List Nat} {e o i : Expr} {fe fo fi : Env → R XV} {pos p2 : Pos}
theorem ss_setI (he : SE X W e fe) (ho : SE X W o fo) (hi : SE X W i fi) (hs : swapsWithSole [.Subscript o i p2] e pos.line X.env = pure false) (hw : swappedStores [.Subscript o i p2] e X.env = pure none)
    (h1 : (assignEach [.Subscript o i p2] X.env).map (·.2) = [assign (.Subscript o i p2) X.env])
    (ha : ∀ v, assign (.Subscript o i p2) X.env v = (do
      let ov ← holding [v] (eval o X.env)
      let iv ← holding [v, ov] (eval i X.env)
      standAt p2
      holding [v, ov, iv] (setItem ov iv v)
      release [v, ov, iv] [])) : SS X W pin (.Assign [.Subscript o i p2] e pos) (xSetI fe fo fi) := by
  refine PS.weak (ps_asg he (pg_sub ho hi set_list ha) hs hw h1) fun E σ H h => ?_
  obtain ⟨ρ, hs, σ0, s, hp, h⟩ := h
  refine ⟨ρ, hs, s, fin_mono (finS_bind h hp) fun u H1 ⟨y, ρ1, hy, s1, h1⟩ => ?_⟩
  refine ⟨ρ1, _, s1, fin_mono (finS_bindA (hld y u) h1 hp) fun v H2 ⟨x, ρ2, hx, s2, h2⟩ => ?_⟩
  rw [← List.append_assoc] at s2
  refine ⟨ρ2, _, s2, fin_mono (finS_bindA (hld x v ++ hld y u) h2 hp) fun w H3 ⟨z, ρ3, hz, s3, h3⟩ => ?_⟩
  unfold opSetI at h3
  cases x with
  | v _ _ => exact h3.elim
  | b j =>
    cases ev : view z ρ3 with
    | none => rw [ev] at h3; exact h3.elim
    | some dz =>
      rw [ev] at h3
      cases dz <;> first | exact h3.elim | skip
      rename_i k
      obtain ⟨o1, m1⟩ := s3.mem hz (fun p hp => by simp [hp]) ev
      obtain ⟨ws0, q0⟩ := s3.sep
      have ew := q0.int m1
      subst ew
      dsimp only at h3
      have s4 : Stt X.K (hld y u ++ hs) σ H3 ρ3 := Stt.dropA (A := hld z (.int k)) (by simpa [hld] using s3)
      cases ez : frz y ρ3 with
      | bad => rw [ez] at h3; exact h3.elim
      | exc c ρ4 => exact (frz_exc ez).elim
      | ok d ρ4 =>
        rw [ez] at h3
        have h4 : finS X.K W hs pin σ0 (match gt ρ4 j with
          | some (true, .lst ds) => (match ixN ds.length k with
            | some m => .ok .nx (pt ρ4 j (some (true, .lst (ds.set m d))))
            | none => .bad)
          | _ => .bad) E := h3
        have s5 := frz_ok s4 hy ez
        have hx' : σ[j]? = some (some v) := hx
        cases eg : gt ρ4 j with
        | none => rw [eg] at h4; exact h4.elim
        | some t =>
          rw [eg] at h4
          obtain ⟨o, dd⟩ := t
          cases o with
          | false => exact h4.elim
          | true =>
            cases dd <;> first | exact h4.elim | skip
            rename_i ds
            have h5 : finS X.K W hs pin σ0 (match ixN ds.length k with
              | some m => .ok .nx (pt ρ4 j (some (true, .lst (ds.set m d))))
              | none => .bad) E := h4
            cases em : ixN ds.length k with
            | none => rw [em] at h5; exact h5.elim
            | some m =>
              rw [em] at h5
              obtain ⟨a, vs, wsx, L, rfl, h1, r, q, mm, fn⟩ := s5.lstAt hx' eg
              have ru : Rep X.K H3 (· ∈ wsx) u d := q.rep (mm _ (List.mem_append_right _ List.mem_cons_self))
              have s6 := fn (vs.set m u) (ds.set m d) (r.set ru m)
              refine ⟨a, vs, k, m, rfl, rfl, h1, by rw [r.length]; exact em, ?_⟩
              exact h5 σ _ (Stt.dropA (A := [(u, (false, d))]) s6) hp
end
/-! ### raise -/
def xRaise (c : Str) (ρ : Env) : R Fl := .exc c ρ
section
variable {X : Cx} {W : WX} {pin : List Nat} {x m : Str} {j : Nat} {p p2 pos rpos : Pos}
theorem ss_raise (hc : X.calm = true) (tk : Takes X W) (q : (He.Fa.exc x).ok X.K = true) (gC : X.mg x = some (.ref (He.ga X.K x))) (hg : Gl X x) (hdb : (x == ("__debug__" : Str)) = false) :
    SS X W pin (.Raise (some (.Call (.Name x p) [.Constant (.str m) j p2] [] pos)) none rpos) (xRaise x) := by
  obtain ⟨q1, q2, q3, q4⟩ := He.exc_ok q
  have r : Raises X (.ref (He.ga X.K x)) := fun M h hx => ⟨PySem.W.looks_subIn hx q3, PySem.W.looks_typeIn hx q4⟩
  refine PS.weak (ps_raise hc tk (pmk_own PySem.F.excBase_ValueError q1 gC q2 r hg hdb)) fun E σ H h => ?_
  obtain ⟨ρ, hs, σ0, s, hp, h⟩ := h
  exact h σ H s hp
end
end Lz
/-! the rules in short, as the translator prints them -/
namespace Lz
open PySem PySem.Spec PyProof.Rows L2

theorem room_u {k : Nat} {A : Around} (hr : Room k A) : A.units + 65 < cLine := by have := hr.un; omega
/-- a def of one's own, by its name -/
def OkF (P : Program) (w : World) (K : PySem.W.Frag) (mg : Str → Option Value) (base : Heap) (x : Str) (k : Nat) (F : List T → FR) : Prop :=
  ∃ (f : Addr) (fd : FuncData) (ps : List Str), FnOk P w K mg base (L2.CX P w) k f fd ps (spF K F) ∧ mg x = some (.ref f) ∧ PySem.W.keepIn K (.ref f) = true ∧ Binds K fd ps []
section
variable {X : Cx} {W : WX} {e : Expr} {es : List Expr} {fa : Env → R (List XV)} {k : Nat} {F : List T → FR} {x : Str} {p pos : Pos}
theorem cf (h : OkF X.prog X.w X.K X.mg X.base x k F) (hr : Room k X.A) (tk : Takes X W) (ha : SA X W (e :: es) fa) (hg : Gl X x := by rfl) (hdb : (x == ("__debug__" : Str)) = false := by decide)
    (he : starEach (e :: es) X.env = (false, eval e X.env) :: starEach es X.env := by rfl) (hpl : (backTo pos (starEach es X.env)).any (·.1) = false := by rfl) :
    SE X W (.Call (.Name x p) (e :: es) [] pos) (sCallF F fa) := by
  obtain ⟨f, fd, ps, h1, h2, h3, h4⟩ := h
  exact se_callF h1 hr hg h2 h3 h4 tk ha hdb he hpl
end

/-! ### names -/
def gN (i : Nat) (d : D) (ρ : Env) : Option Env := some (pt ρ i (some (false, d)))
def putY (i : Nat) (x : XV) (ρ : Env) : R Fl := match x with
  | .v o d => .ok .nx (pt ρ i (some (o, d)))
  | .b j => (match gt ρ j with
    | some t => .ok .nx (pt (pt ρ j (some (false, t.2))) i (some (false, t.2)))
    | none => .bad)
def xSt (i : Nat) (f : Env → R XV) (ρ : Env) : R Fl := (f ρ).bind (putY i)
theorem xSt_eq {pin : List Nat} {i : Nat} (h : i ∉ pin) (f : Env → R XV) : xSt i f = xSet pin i f := by
  funext ρ
  unfold xSt xSet
  congr 1
  funext x ρ
  unfold putX putY
  rw [if_neg h]
  try (cases x <;> rfl)
theorem gN_eq {pin : List Nat} {i : Nat} (h : i ∉ pin) : gN i = gNm pin i := by
  funext d ρ
  unfold gN gNm
  rw [if_neg h]
section
variable {X : Cx} {W : WX} {pin : List Nat}
theorem va (i : Nat) {x : Str} {pos : Pos} (hN : X.N[i]? = some x := by rfl) (hv : Vis X.env.scope x := by first | exact Or.inl rfl | exact Or.inr (Or.inl rfl) | exact Or.inr (Or.inr rfl)) (hd : (x == ("__debug__" : Str)) = false := by decide)
    (hcd : (x == ("__classdict__" : Str)) = false := by decide) : SE X W (.Name x pos) (sVar i) := se_var hN hv hd hcd
theorem gn (i : Nat) {x : Str} {pos : Pos} (hN : X.N.Nodup) (hm : i ∉ pin) (hi : X.N[i]? = some x := by rfl) (hx : Loc X.env.scope x := by first | exact Or.inl rfl | exact Or.inr rfl) (hf : X.fn x = true ∨ X.env.scope.names.lookup x = some .local := by first | exact .inl rfl | exact .inr rfl) :
    SG X pin (.Name x pos) (gN i) := by
  rw [gN_eq hm]
  exact sg_nm hN hi hx hf
theorem gc {e : Expr} {es : List Expr} {g : D → Env → Option Env} {h : List D → Env → Option Env} (h1 : SG X pin e g) (h2 : SGs X pin es h)
    (hst : (assignEach (e :: es) X.env).map (·.2) = assign e X.env :: (assignEach es X.env).map (·.2) := by rfl) : SGs X pin (e :: es) (gCn g h) := sg_cons h1 h2 hst
theorem gT {es : List Expr} {k : Nat} {h : List D → Env → Option Env} {pos : Pos} {n : Nat} (h2 : SGs X pin es h) (hc : X.calm = true := by rfl) (hn : (assignEach es X.env).length = n := by rfl) (hst : (assignEach es X.env).findIdx? (·.1) = none := by rfl) : SG X pin (.Tuple es k pos) (gTp n h) := sg_tup hc h2 hn hst
theorem st {i : Nat} {x : Str} {e : Expr} {fe : Env → R XV} {pos pos' : Pos} (hN : X.N.Nodup) (hm : i ∉ pin) (he : SE X W e fe) (hi : X.N[i]? = some x := by rfl) (hx : Loc X.env.scope x := by first | exact Or.inl rfl | exact Or.inr rfl) (hs : swapsWith e (some (.Name x pos')) pos.line X.env = pure false := by rfl)
    (hf : X.fn x = true ∨ X.env.scope.names.lookup x = some .local := by first | exact .inl rfl | exact .inr rfl) : SS X W pin (.Assign [.Name x pos'] e pos) (xSt i fe) := by
  rw [xSt_eq hm]
  exact ss_set hN hi hx he hs hf
theorem sg {e tg : Expr} {fe : Env → R XV} {g : D → Env → Option Env} {pos : Pos} (he : SE X W e fe) (hg : SG X pin tg g) (hs : swapsWithSole [tg] e pos.line X.env = pure false := by rfl) (hw : swappedStores [tg] e X.env = pure none := by rfl) (h1 : (assignEach [tg] X.env).map (·.2) = [assign tg X.env] := by rfl) :
    SS X W pin (.Assign [tg] e pos) (xSetG g fe) := ss_asg he hg hs hw h1
theorem si' {e o i : Expr} {fe fo fi : Env → R XV} {pos p2 : Pos} (he : SE X W e fe) (ho : SE X W o fo) (hi : SE X W i fi) (hs : swapsWithSole [.Subscript o i p2] e pos.line X.env = pure false := by rfl) (hw : swappedStores [.Subscript o i p2] e X.env = pure none := by rfl)
    (h1 : (assignEach [.Subscript o i p2] X.env).map (·.2) = [assign (.Subscript o i p2) X.env] := by rfl)
    (ha : ∀ v, assign (.Subscript o i p2) X.env v = (do
      let ov ← holding [v] (eval o X.env)
      let iv ← holding [v, ov] (eval i X.env)
      standAt p2
      holding [v, ov, iv] (setItem ov iv v)
      release [v, ov, iv] []) := by intro _; rfl) : SS X W pin (.Assign [.Subscript o i p2] e pos) (xSetI fe fo fi) := ss_setI he ho hi hs hw h1 ha
theorem ex {e : Expr} {fe : Env → R XV} {pos : Pos} (he : SE X W e fe) (hs : swapsWith e none pos.line X.env = pure false := by rfl) : SS X W pin (.Expr e pos) (xExpr fe) := ss_expr he hs

/-! ### loops -/
def xFr (pin : List Nat) (si : Env → R Its) (g : D → Env → Option Env) (f : Env → R Fl) (ρ : Env) : R Fl := (si ρ).bind fun it ρ => if lkOk pin it.lk = true then relk it.lk (forL g f it.items ρ) else .bad
theorem R.bind_le {K : PySem.W.Frag} {hs : List VT} {σ0 : Sg} {E : Ends} {α : Type} {r : R α} {k k' : α → Env → R Fl} (h : ∀ a ρ, k a ρ = k' a ρ ∨ k a ρ = .bad) (f : finS K W hs pin σ0 (r.bind k) E) : finS K W hs pin σ0 (r.bind k') E := by
  cases r with
  | ok a ρ =>
    rcases h a ρ with e | e
    · have f' : finS K W hs pin σ0 (k a ρ) E := f
      rw [e] at f'
      exact f'
    · have f' : finS K W hs pin σ0 (k a ρ) E := f
      rw [e] at f'
      exact f'.elim
  | exc c ρ => exact f
  | bad => exact f
theorem fr {L pin' : List Nat} {tg iter : Expr} {body : List Stmt} {si : Env → R Its} {g : D → Env → Option Env} {f : Env → R Fl} {pos : Pos} (hpo : PassesOwn (model X.prog X.w) X.A X.env X.xe) (hsub : ∀ j ∈ pin, j ∈ pin') (hL : ∀ j ∈ L, j ∈ pin') (hi : SI X W tg iter si) (hg : SG X pin' tg g) (hb : SSs X W pin' body f)
    (hc : X.calm = true := by rfl) (hs : ∀ x, foldedSetIterable iter X.env x = pure x := by intro _; rfl) : SS X W pin (.For tg iter body [] pos) (xFr L si g f) := by
  refine PS.weak (ss_for (pin := pin) hpo hc hsub hi hg hb hs) fun E σ H h => ?_
  obtain ⟨ρ, hs, σ0, s, hp, h⟩ := h
  refine ⟨ρ, hs, σ0, s, hp, R.bind_le (fun it ρ => ?_) h⟩
  cases e : lkOk L it.lk with
  | false => exact .inr (if_neg Bool.false_ne_true)
  | true =>
    have e2 : lkOk pin' it.lk = true := by
      unfold lkOk at e ⊢
      split at e
      · rfl
      · exact List.contains_iff_mem.mpr (hL _ (List.contains_iff_mem.mp e))
    rw [e2]
    exact .inl rfl
theorem wh (n : Nat) {c : Expr} {body : List Stmt} {gc : Env → R Bool} {f : Env → R Fl} {pos : Pos} (hpo : PassesOwn (model X.prog X.w) X.A X.env X.xe) (hc : SB X W c gc) (hb : SSs X W pin body f) : SS X W pin (.While c body [] pos) (xWhile gc f n) := ss_while n hpo hc hb

/-! ### tests -/
theorem tv {e : Expr} {fa : Env → R XV} (h : SE X W e fa) (he : ∀ whole, isTrue e X.env whole = (do let v ← whole; standAt e.pos; holding [v] (truthy v)) := by intro _; rfl) : SB X W e (sB fa) := sb_val h he
/-! ### arguments -/
theorem an : SA X W [] sNil := sa_nil
theorem ac {e : Expr} {es : List Expr} {f : Env → R XV} {g : Env → R (List XV)} (ha : SE X W e f) (hr : SA X W es g) (hst : starEach (e :: es) X.env = (false, eval e X.env) :: starEach es X.env := by rfl) : SA X W (e :: es) (sCons f g) := sa_cons ha hr hst
theorem cb {e : Expr} {es : List Expr} {f : Env → R (List XV)} {p pos : Pos} {x : Str} {id : String} {cf : List D → Option T} (hc : CallR X (.builtin id) (rCl X.K cf)) (hm : X.mg x = none) (ha : SA X W (e :: es) f) (hv : bootBuiltins x = some (.builtin id) := by decide +kernel) (hg : Gl X x := by rfl) (hn : x ≠ "__name__" := by decide) (hdb : (x == ("__debug__" : Str)) = false := by decide)
    (he : starEach (e :: es) X.env = (false, eval e X.env) :: starEach es X.env := by rfl) (hpl : (backTo pos (starEach es X.env)).any (·.1) = false := by rfl) : SE X W (.Call (.Name x p) (e :: es) [] pos) (sCl cf f) := se_callB hc hg hm hv ha hn hdb he hpl
theorem ct {e : Expr} {es : List Expr} {f : Env → R (List XV)} {p pos : Pos} {x : Str} {T : String} {cf : List D → Option Lz.T} (hc : CallR X (.type T) (rCl X.K cf)) (hm : X.mg x = none) (ha : SA X W (e :: es) f) (hv : bootBuiltins x = some (.type T) := by decide +kernel) (hg : Gl X x := by rfl) (hn : x ≠ "__name__" := by decide) (hdb : (x == ("__debug__" : Str)) = false := by decide)
    (he : starEach (e :: es) X.env = (false, eval e X.env) :: starEach es X.env := by rfl) (hpl : (backTo pos (starEach es X.env)).any (·.1) = false := by rfl) : SE X W (.Call (.Name x p) (e :: es) [] pos) (sCl cf f) := se_callTy hc hg hm hv ha hn hdb he hpl
theorem isi {e : Expr} {f : Env → R XV} {ty : Str} {T : String} {p p2 pos : Pos} (hm : X.mg "isinstance" = none) (hm2 : X.mg ty = none) (he : SE X W e f) (hv2 : bootBuiltins ty = some (.type T) := by decide +kernel) (hg : Gl X "isinstance" := by rfl) (hg2 : Gl X ty := by rfl) 
    (hn2 : ty ≠ "__name__" := by decide) (hd2 : (ty == ("__debug__" : Str)) = false := by decide) (hst : starEach [e, .Name ty p2] X.env = (false, eval e X.env) :: starEach [.Name ty p2] X.env := by rfl) :
    SE X W (.Call (.Name "isinstance" p) [e, .Name ty p2] [] pos) (sUn (isiD T) f) := se_isi trivial he hg hm hg2 hm2 hv2 hn2 hd2 hst
theorem ix {a b : Expr} {fa fb : Env → R XV} {pos : Pos} (ha : SE X W a fa) (hb : SE X W b fb) (hs : PlainIx b := by exact fun _ _ => rfl) : SE X W (.Subscript a b pos) (sBin opIx fa fb) := se_ix ir_ix ha hb hs
theorem sl {a : Expr} {lo hi : Option Expr} {p2 pos : Pos} {fa : Env → R XV} {fl fh : Option (Env → R XV)} (ha : SE X W a fa) (hl : SO X W lo (sOpt fl)) (hh : SO X W hi (sOpt fh)) :
    SE X W (.Subscript a (.Slice lo hi none p2) pos) (sSl opSl fa fl fh) := se_slice sr_sl ha hl hh
theorem cm {op : CmpOp} {f : D → D → Option T} {a b : Expr} {fa fb : Env → R XV} {pos : Pos} (ho : OpR X (compareOp op) (rOp X.K f)) (ha : SE X W a fa) (hb : SE X W b fb) (hm : behindInMarks op b = false := by rfl) : SE X W (.Compare a [op] [b] pos) (sBin f fa fb) := se_cmp ho ha hb hm
theorem cmB {op : CmpOp} {f : D → D → Option T} {a b : Expr} {fa fb : Env → R XV} {pos : Pos} (ho : OpR X (compareOp op) (rOp X.K f)) (ha : SE X W a fa) (hb : SE X W b fb) (hm : behindInMarks op b = false := by rfl) : SB X W (.Compare a [op] [b] pos) (sB (sBin f fa fb)) := sb_cmp ho ha hb hm
theorem chn {a b : Expr} {fa fb : Env → R XV} {pos : Pos} {op op' : CmpOp} {c : Expr} {fc : Env → R XV} {f f' : D → D → Option T} (ho : OpR X (compareOp op) (rOp X.K f)) (ho' : OpR X (compareOp op') (rOp X.K f')) (ha : SE X W a fa) (hb : SE X W b fb) (hc : SE X W c fc)
    (hm : lastMarks [op, op'] [b, c] = false := by rfl) : SE X W (.Compare a [op, op'] [b, c] pos) (sChain f f' fa fb fc) := se_chain ho ho' ha hb hc hm
theorem chnB {a b : Expr} {fa fb : Env → R XV} {pos : Pos} {op op' : CmpOp} {c : Expr} {fc : Env → R XV} {f f' : D → D → Option T} (ho : OpR X (compareOp op) (rOp X.K f)) (ho' : OpR X (compareOp op') (rOp X.K f')) (ha : SE X W a fa) (hb : SE X W b fb) (hc : SE X W c fc)
    (hm : lastMarks [op, op'] [b, c] = false := by rfl) : SB X W (.Compare a [op, op'] [b, c] pos) (sB (sChain f f' fa fb fc)) := sb_chain ho ho' ha hb hc hm
/-! ### methods -/
theorem mB {o e : Expr} {es : List Expr} {fa : Env → R XV} {f : Env → R (List XV)} {name : Str} {apos cpos : Pos} {ty id : String} {mf : D → List D → Option T} (pa : PlainAttrs ty) (slot : Slot ty name id) (hty : typeOf (.builtin id) = pure (.type "method_descriptor")) (hm : MtR X id (rMt X.K mf)) (ho : SE X W o fa) (ha : SA X W (e :: es) f)
    (hbase : attributeBase o name X.env (eval o X.env) = eval o X.env := by rfl)
    (few : ((backTo cpos (starEach (e :: es) X.env)).all (fun x => !x.1) && (backToKw cpos (keywordEach [] X.env)).all (fun x => x.1.isSome) && decide ((e :: es).length + 0 + 0 < 30)) = true := by rfl)
    (hline : (apos.endLine == cpos.line) = true := by rfl) (hst : starEach (e :: es) X.env = (false, eval e X.env) :: starEach es X.env := by rfl) (hpl : (backTo cpos (starEach es X.env)).any (·.1) = false := by rfl) :
    SE X W (.Call (.Attribute o name apos) (e :: es) [] cpos) (sMt ty mf fa f) := se_bm pa slot hty hm ho ha hbase few hline hst hpl
theorem mU {op : XV → List XV → Env → R XV} {r : V → List V → Hp → VK → Prop} {o e : Expr} {es : List Expr} {fa : Env → R XV} {f : Env → R (List XV)} {name : Str} {apos cpos : Pos} {id : String} (slot : Slot "list" name id) (hty : typeOf (.builtin id) = pure (.type "method_descriptor")) (hm : MtR X id r)
    (hop : ∀ {hs : List VT} {σ : Sg} {H : Hp} {ρ : Env} {Q : VK} {x : XV} {v : V} {xs : List XV} {vs : List V}, Stt X.K (hlds xs vs ++ (hld x v ++ hs)) σ H ρ → ResV σ x v → ResVs σ xs vs → fin X.K W hs σ (op x xs ρ) Q → r v vs H Q)
    (ho : SE X W o fa) (ha : SA X W (e :: es) f)
    (hbase : attributeBase o name X.env (eval o X.env) = eval o X.env := by rfl)
    (few : ((backTo cpos (starEach (e :: es) X.env)).all (fun x => !x.1) && (backToKw cpos (keywordEach [] X.env)).all (fun x => x.1.isSome) && decide ((e :: es).length + 0 + 0 < 30)) = true := by rfl)
    (hline : (apos.endLine == cpos.line) = true := by rfl) (hst : starEach (e :: es) X.env = (false, eval e X.env) :: starEach es X.env := by rfl) (hpl : (backTo cpos (starEach es X.env)).any (·.1) = false := by rfl) :
    SE X W (.Call (.Attribute o name apos) (e :: es) [] cpos) (sMu op fa f) := se_mu PySem.F.plainAttrs_list slot hty hm hop ho ha hbase few hline hst hpl
theorem mApp {o e : Expr} {fa : Env → R XV} {f : Env → R (List XV)} {apos cpos : Pos} (ho : SE X W o fa) (ha : SA X W [e] f)
    (hbase : attributeBase o "append" X.env (eval o X.env) = eval o X.env := by rfl)
    (few : ((backTo cpos (starEach [e] X.env)).all (fun x => !x.1) && (backToKw cpos (keywordEach [] X.env)).all (fun x => x.1.isSome) && decide ([e].length + 0 + 0 < 30)) = true := by rfl)
    (hline : (apos.endLine == cpos.line) = true := by rfl) (hst : starEach [e] X.env = (false, eval e X.env) :: starEach [] X.env := by rfl) :
    SE X W (.Call (.Attribute o "append" apos) [e] [] cpos) (sMu opApp fa f) := mU PySem.F.slot_list_append PySem.F.type_list_append mt_append (fun s hx hxs h => opApp_ok s hx hxs h) ho ha hbase few hline hst rfl
theorem mExt {o e : Expr} {fa : Env → R XV} {f : Env → R (List XV)} {apos cpos : Pos} (ho : SE X W o fa) (ha : SA X W [e] f)
    (hbase : attributeBase o "extend" X.env (eval o X.env) = eval o X.env := by rfl)
    (few : ((backTo cpos (starEach [e] X.env)).all (fun x => !x.1) && (backToKw cpos (keywordEach [] X.env)).all (fun x => x.1.isSome) && decide ([e].length + 0 + 0 < 30)) = true := by rfl)
    (hline : (apos.endLine == cpos.line) = true := by rfl) (hst : starEach [e] X.env = (false, eval e X.env) :: starEach [] X.env := by rfl) :
    SE X W (.Call (.Attribute o "extend" apos) [e] [] cpos) (sMu opExt fa f) := mU PySem.F.slot_list_extend PySem.F.type_list_extend mt_extend (fun s hx hxs h => opExt_ok s hx hxs h) ho ha hbase few hline hst rfl
/-! ### constants of the top -/
theorem gInt {x : Str} {i : Int} {pos : Pos} (hm : ∃ t, X.mg x = some (.int i t)) (hg : Gl X x := by rfl) (hd : (x == ("__debug__" : Str)) = false := by decide) : SE X W (.Name x pos) (sC (.int i)) := by
  obtain ⟨t, h⟩ := hm
  exact se_cst (pe_glob hg h (v := .int i) ⟨t, rfl⟩ hd) fun _ _ => .int i
theorem gStr {x z : Str} {pos : Pos} (hm : ∃ t, X.mg x = some (.str z t)) (hg : Gl X x := by rfl) (hd : (x == ("__debug__" : Str)) = false := by decide) : SE X W (.Name x pos) (sC (.str z)) := by
  obtain ⟨t, h⟩ := hm
  exact se_cst (pe_glob hg h (v := .str z) ⟨t, rfl⟩ hd) fun _ _ => .str z
theorem rep_strs {K : PySem.W.Frag} {H : Hp} {av : Addr → Prop} : ∀ zs : List Str, RepAll K H av (zs.map V.str) (zs.map D.str)
  | [] => .nil
  | z :: zs => .cons (.str z) (rep_strs zs)
theorem gTup {x : Str} {zs : List Str} {pos : Pos} (hm : ∃ a, X.mg x = some (.ref a) ∧ KTup X.K a (zs.map V.str)) (hg : Gl X x := by rfl) (hd : (x == ("__debug__" : Str)) = false := by decide) : SE X W (.Name x pos) (sC (.tup (zs.map D.str))) := by
  obtain ⟨a, h, ht⟩ := hm
  exact se_cst (pe_glob hg h (v := .ref a) rfl hd) fun _ _ => .ktup ht (rep_strs zs)
theorem un_negD : UnR X (unaryOp .USub) (rUnD X.K fun d => match d with | .int i => pI (-i) | _ => none) := by
  intro pins s σ H x v Q I r ⟨L, d, o, t, sep, m, ht, q⟩
  cases d <;> first | (cases ht; done) | skip
  cases ht
  exact un_neg pins s σ H x v Q I r ⟨_, sep.int m, q _ _ (sep.cInt _)⟩
end
def opNeg : D → Option T := fun d => match d with | .int i => pI (-i) | _ => none
end Lz
/-! products -/
namespace Lz
open PySem PySem.Spec PyProof.Rows L2
theorem tuple_mul1 (l : Addr) (items : Array Value) (n : Nat) (dd : Option Addr) (sl : Array (Option Value)) (u : Tok) :
    Meets (Builtin.«tuple.__mul__» ⟨[.ref l, .int 1 u], []⟩) (fun _ R s => s.heap.get? l = some { cls := .type "tuple", dict := dd, data := .seq items n, slots := sl } ∧
      R (.ok (.ret (Value.ref l))) s) :=
  .of_wp fun prog w A R s h => by
    obtain ⟨hp, g, d, tk, os⟩ := s
    obtain ⟨hl, h⟩ := h
    have f1 := AutoSeq1.idx_int
    wp_walk using wpAny_loadPart' hl
    exact ⟨_, rfl, h⟩
section
variable {X : Cx}
theorem op_rep1 : OpR X (binaryOp .Mult) (fun x y H Q => ∃ l xs, x = .ref l ∧ y = .int 1 ∧ SqT X.K H l xs ∧ Q (.ref l) H) := by
  intro pins s σ H x y v u Q I rx ry h
  obtain ⟨l, xs, rfl, rfl, hT, q⟩ := h
  cases rx
  obtain ⟨t, rfl⟩ := ry
  obtain ⟨its, r, ⟨⟨cls, dd, data, sl⟩, ho, hc, n, hd⟩, hs⟩ := I.tuple hT
  simp only at hc hd
  subst hc hd
  exact wpAny_binaryOp_repeat_ref (T := "tuple") (U := "int") (by decide) ⟨_, ho, rfl⟩ (fun s' => typeIs_int s' 1 t) noFill_tuple_mul F.fills_int_mul F.slot_int_rmul repeat_tuple F.slot_int_index.lookup
    (call_meets F.slot_int_rmul (typeIs_int s 1 t) F.entry_int_rmul (F.args_int_rmul_2 _ _) (int_rmul_tuple 1 t l its.toArray n dd sl)
      ⟨ho, rfl, ⟨_, ho, rfl⟩, call_meets F.slot_tuple_mul ⟨_, ho, rfl⟩ F.entry_tuple_mul (F.args_tuple_mul_2 _ _) (tuple_mul1 l its.toArray n dd sl t) ⟨ho, ⟨.ref l, H, I, rfl, q⟩⟩⟩)
theorem op_repF : OpR X (binaryOp .Mult) (fun x y H Q => ∃ l k xs, x = .ref l ∧ y = .int k ∧ SqT X.K H l xs ∧ xs ≠ [] ∧ 2 ≤ k ∧ k ≤ 1000 ∧ xs.length ≤ 1000 ∧ rNewT (List.replicate k.toNat xs).flatten H Q) := by
  intro pins s σ H x y v u Q I rx ry h
  obtain ⟨l, k, xs, rfl, rfl, hT, hne, h1, h2, hz, q⟩ := h
  cases rx
  obtain ⟨t, rfl⟩ := ry
  obtain ⟨its, r, ⟨⟨cls, dd, data, sl⟩, ho, hc, n, hd⟩, hs⟩ := I.tuple hT
  simp only at hc hd
  subst hc hd
  have hle : its.length = xs.length := r.length.symm
  have hn : its ≠ [] := fun e => hne (by
    rw [e] at hle
    exact List.eq_nil_of_length_eq_zero hle.symm)
  have hi : its.toArray.isEmpty = false := by
    cases its with
    | nil => exact absurd rfl hn
    | cons a b => rfl
  have hsz0 : its.toArray.size = xs.length := by rw [List.size_toArray, hle]
  have hm : ((its.toArray.size : Nat) : Int) * k ≤ 1000000 := by
    rw [hsz0]
    have a1 : ((xs.length : Nat) : Int) * k ≤ 1000 * k := Int.mul_le_mul_of_nonneg_right (by omega) (by omega)
    omega
  have flen : (List.replicate k.toNat its).flatten.length ≤ sizeLine := by
    rw [PyProof.Rows.lm_len_rep_flat, hle, sizeLine_eq]
    have a1 : k.toNat * xs.length ≤ 1000 * 1000 := Nat.mul_le_mul (by omega) hz
    omega
  have c0 : (decide (k < -(2 ^ 63)) || decide (k ≥ 2 ^ 63)) = false := by
    rw [decide_eq_false (by omega), decide_eq_false (by omega)] <;> rfl
  have c1 : (its.toArray.isEmpty || k == 1) = false := by
    rw [hi, Bool.false_or]
    exact beq_eq_false_iff_ne.mpr (by omega)
  have c2 : (decide (k ≤ 0) || its.toArray.isEmpty) = false := by
    rw [hi, Bool.or_false]
    exact decide_eq_false (by omega)
  have c4 : Builtin.Tuple.tupleTooMany (((its.toArray.size : Nat) : Int) * k) = false := by
    unfold Builtin.Tuple.tupleTooMany
    rw [sizeLine_eq]
    exact decide_eq_false (by omega)
  refine wpAny_binaryOp_repeat_ref (T := "tuple") (U := "int") (by decide) ⟨_, ho, rfl⟩ (fun s' => typeIs_int s' k t) noFill_tuple_mul F.fills_int_mul F.slot_int_rmul repeat_tuple F.slot_int_index.lookup
    (call_meets F.slot_int_rmul (typeIs_int s k t) F.entry_int_rmul (F.args_int_rmul_2 _ _) (int_rmul_tuple k t l its.toArray n dd sl)
      ⟨ho, rfl, ⟨_, ho, rfl⟩, call_meets F.slot_tuple_mul ⟨_, ho, rfl⟩ F.entry_tuple_mul (F.args_tuple_mul_2 _ _) (tuple_mulW l its.toArray n dd sl k t c0 c1 c2 (by omega) c4 (by rw [size_rep, List.size_toArray]; exact flen)) ⟨ho, ?_⟩⟩)
  rw [size_rep]
  exact q.use (t' := s.toks) I (r.rep k.toNat) (by rw [PyProof.Rows.lm_len_rep_flat, sizeLine_eq]; have a1 : k.toNat * xs.length ≤ 1000 * 1000 := Nat.mul_le_mul (by omega) hz; omega)
theorem or_mul : OpR X (binaryOp .Mult) (rOp X.K opMul) := by
  intro pins s σ H x y v u Q I rx ry ⟨L, d, e, o, o', t, sep, m1, m2, ht, q⟩
  cases d <;> cases e <;> first | (cases ht; done) | skip
  · rename_i i j
    have h' : cif ((-(2 ^ 64) < i ∧ i < 2 ^ 64) ∨ (-(2 ^ 64) < j ∧ j < 2 ^ 64)) (pI (i * j)) none = some t := ht
    by_cases hc : (-(2 ^ 64) < i ∧ i < 2 ^ 64) ∨ (-(2 ^ 64) < j ∧ j < 2 ^ 64)
    · rw [cif_pos hc] at h'
      cases h'
      exact op_mul pins s σ H x y v u Q I rx ry ⟨_, _, sep.int m1, sep.int m2, hc, q _ _ (sep.cInt _)⟩
    · rw [cif_neg hc] at h'; cases h'
  · rename_i a k
    have h' : (if a ≠ [] ∧ 2 ≤ k ∧ k ≤ 1000 ∧ a.length ≤ 1000 then some (false, .tup (List.replicate k.toNat a).flatten) else if k = 1 then some (false, .tup a) else none) = some t := ht
    obtain ⟨ws, w⟩ := sep
    obtain ⟨p, xs, rfl, hq, r, td⟩ := w.tup m1
    by_cases hc : a ≠ [] ∧ 2 ≤ k ∧ k ≤ 1000 ∧ a.length ≤ 1000
    · rw [if_pos hc] at h'
      cases h'
      refine op_repF pins s σ H _ y v u Q I rx ry ⟨p, k, xs, rfl, w.int m2, hq, fun e => hc.1 ?_, hc.2.1, hc.2.2.1, by rw [r.length]; exact hc.2.2.2, rNewT.of w (r.rep _) q⟩
      have := r.length
      rw [e] at this
      exact List.eq_nil_of_length_eq_zero this.symm
    · rw [if_neg hc] at h'
      by_cases h1 : k = 1
      · rw [if_pos h1] at h'
        cases h'
        subst h1
        refine op_rep1 pins s σ H _ y v u Q I rx ry ⟨p, xs, rfl, w.int m2, hq, q _ _ ?_⟩
        obtain ⟨w1, o1, hw1⟩ := w.own.get m1
        cases o1 with
        | pure rr => exact ⟨ws, w.pure rr⟩
      · rw [if_neg h1] at h'; cases h'
  · rename_i a k
    have h' : (if -(2 ^ 63) ≤ k ∧ k < 2 ^ 63 ∧ a.length * k.toNat ≤ lim then some (true, .lst (List.replicate k.toNat a).flatten) else none) = some t := ht
    obtain ⟨ws, w⟩ := sep
    obtain ⟨p, xs, rfl, hq, r⟩ := w.lst m1
    by_cases hc : -(2 ^ 63) ≤ k ∧ k < 2 ^ 63 ∧ a.length * k.toNat ≤ lim
    · rw [if_pos hc] at h'
      cases h'
      exact op_rep pins s σ H _ y v u Q I rx ry ⟨p, k, xs, rfl, w.int m2, hq, hc.1, hc.2.1, by rw [r.length]; exact hc.2.2, newLst_of w (r.rep _) q⟩
    · rw [if_neg hc] at h'; cases h'
end
end Lz
/-! more rules in short; facts of the top -/
namespace Lz
open PySem PySem.Spec PyProof.Rows L2
theorem hu64 {u c : Nat} (h : u + 65 < c) : u + 64 < c := by omega
def wN : Nat := 1000000000000000000000000000000
section
variable {X : Cx} {W : WX} {pin : List Nat}
def cT (ρ : Env) : R Bool := .ok true ρ
theorem sc0 : SC X [] cT := sc_nil
theorem stLc {elt tg iter : Expr} {ifs : List Expr} {scope : Scope} {own : List (Str × Nat)} {pos : Pos} {si : Env → R Its} {g : D → Env → Option Env} {c : Env → R Bool} {f : Env → R XV} {i : Nat} {y : Str} {py spos : Pos} (hN : X.N.Nodup) (hm : i ∉ pin)
    (hsw : swapsWith (.ListComp elt [⟨tg, iter, ifs, 0⟩] scope pos) (some (.Name y py)) spos.line X.env = pure true) (hi : SI X W tg iter si) (ok : BlkOk X.N X.env.scope scope own)
    (hg : ∀ (s : Shared) (H : Hp) (C : Addr) (cl : List (Str × Addr)) (fp : List Addr), SG (X.blk s H scope (compEnvC scope cl C X.env) fp) (notOwn X.N.length (own.map (·.2))) tg g)
    (ht : ∀ (s : Shared) (H : Hp) (C : Addr) (cl : List (Str × Addr)) (fp : List Addr), SC (X.blk s H scope (compEnvC scope cl C X.env) fp) ifs c)
    (he : ∀ (s : Shared) (H : Hp) (C : Addr) (cl : List (Str × Addr)) (fp : List Addr), SE (X.blk s H scope (compEnvC scope cl C X.env) fp) W0 elt f) (hs : ∀ x, foldedSetIterable iter X.env x = pure x)
    (hy : X.N[i]? = some y := by rfl) (hyl : X.env.scope.names.lookup y = some .local := by rfl) (hc : X.calm = true := by rfl) :
    SS X W pin (.Assign [.Name y py] (.ListComp elt [⟨tg, iter, ifs, 0⟩] scope pos) spos) (xSt i (sComp (own.map (·.2)) si g c f)) := by
  rw [xSt_eq hm]
  exact ss_setLc hc hN hy hyl hsw hi ok hg ht he hs
theorem rg1 {tg a : Expr} {f : Env → R XV} {p pos : Pos} (hm : X.mg "range" = none) (ha : SA X W [a] (sCons f sNil)) (hg : Gl X "range" := by rfl) (hst : starEach [a] X.env = [(false, eval a X.env)] := by rfl) :
    SI X W tg (.Call (.Name "range" p) [a] [] pos) (sRng (sCons f sNil)) := si_rng1 hg hm ha hst fun ρ xs ρ' h => by
  unfold sCons sNil at h
  cases e : f ρ with
  | ok x ρ1 => rw [e] at h; injection h with h1; rw [← h1]; rfl
  | exc c ρ1 => rw [e] at h; cases h
  | bad => rw [e] at h; cases h
theorem rg2 {tg a b : Expr} {f g : Env → R XV} {p pos : Pos} (hm : X.mg "range" = none) (ha : SA X W [a, b] (sCons f (sCons g sNil))) (hg : Gl X "range" := by rfl) (hst : starEach [a, b] X.env = [(false, eval a X.env), (false, eval b X.env)] := by rfl)
    (hst2 : starEach [b] X.env = [(false, eval b X.env)] := by rfl) : SI X W tg (.Call (.Name "range" p) [a, b] [] pos) (sRng (sCons f (sCons g sNil))) := si_rng2 hg hm ha hst hst2 fun ρ xs ρ' h => by
  unfold sCons sNil at h
  cases e : f ρ with
  | ok x ρ1 =>
    rw [e] at h
    cases e2 : g ρ1 with
    | ok y ρ2 =>
      have h' : ((g ρ1).bind fun x ρ => R.bind (R.ok ([] : List XV) ρ) fun xs ρ => R.ok (x :: xs) ρ).bind (fun xs ρ => R.ok (x :: xs) ρ) = R.ok xs ρ' := h
      rw [e2] at h'
      injection h' with h1; rw [← h1]; rfl
    | exc c ρ2 =>
      have h' : ((g ρ1).bind fun x ρ => R.bind (R.ok ([] : List XV) ρ) fun xs ρ => R.ok (x :: xs) ρ).bind (fun xs ρ => R.ok (x :: xs) ρ) = R.ok xs ρ' := h
      rw [e2] at h'; cases h'
    | bad =>
      have h' : ((g ρ1).bind fun x ρ => R.bind (R.ok ([] : List XV) ρ) fun xs ρ => R.ok (x :: xs) ρ).bind (fun xs ρ => R.ok (x :: xs) ρ) = R.ok xs ρ' := h
      rw [e2] at h'; cases h'
  | exc c ρ1 => rw [e] at h; cases h
  | bad => rw [e] at h; cases h
end
/-! ### facts of the top -/
def ktupB (K : PySem.W.Frag) (x : Str) (zs : List Str) : Bool := match K.lookup (He.ga K x) with
  | some ⟨.type c, none, .seq its _, _⟩ => decide (c = "tuple") && (decide (its.size ≤ sizeLine) && He.relAll (zs.map V.str) its.toList)
  | _ => false
theorem ktupB_ok {K : PySem.W.Frag} {x : Str} {zs : List Str} (h : ktupB K x zs = true) : KTup K (He.ga K x) (zs.map V.str) := by
  unfold ktupB at h
  split at h
  · rename_i c its n sl q
    obtain ⟨h1, h⟩ := He.ba h
    obtain ⟨h2, h3⟩ := He.ba h
    exact ⟨_, its, n, q, by rw [of_decide_eq_true h1], rfl, rfl, of_decide_eq_true h2, He.relAll_ok h3⟩
  · cases h
def exB (ts : List (Str × List Str)) (K : PySem.W.Frag) : Bool := ts.all fun p => ktupB K p.1 p.2
theorem ex_at {ts : List (Str × List Str)} {K : PySem.W.Frag} (h : exB ts K = true) {i : Nat} {p : Str × List Str} (e : ts[i]? = some p) : ktupB K p.1 p.2 = true :=
  List.all_eq_true.mp h p (List.mem_of_getElem? e)
end Lz
namespace Lz
open PySem PySem.Spec PyProof.Rows L2
theorem law_end {K : PySem.W.Frag} {H : Hp} {a : Addr} {ns : List Int} {F : List T → FR} (hO : Only H) (hS : SqL K H a (ns.map V.int)) (hl : ns.length ≤ sizeLine) (h : ∃ outs, F [(false, .scr ns)] = .ok (false, .bl true) outs) :
    spF K F [.ref a] H (fun v _ => v = .bl true) (fun _ _ _ => False) := by
  obtain ⟨outs, h⟩ := h
  refine ⟨[(false, .scr ns)], [], rfl, ?_, ?_⟩
  · have r : ∀ av : Addr → Prop, (∀ b, ¬ av b) → Rep K H av (.ref a) (.scr ns) := fun av hav => by
      rcases hS with (hS | ⟨o, hS⟩) | hS
      · rcases hO a with q | ⟨o, xs, q⟩ <;> rw [q] at hS <;> cases hS
      · exact .scr (hav a) hS
      · exact .kscr hS
    exact ⟨[], ⟨.cons (w := []) (.pure (r _ fun b hb => by cases hb)) .nil, List.nodup_nil⟩⟩
  · rw [h]
    intro v H' s
    exact s.bl List.mem_cons_self
theorem cx_end {P : Program} {w : World} (H : Hp) (s : Shared) (e : Value) (s' : Shared) (h : L2.CX P w [] H s (fun _ _ _ => False) e s') : False := by
  obtain ⟨_, _, _, _, _, _, _, _, _, _, _, _, z⟩ := h
  exact z
end Lz
namespace Lz
open PySem PySem.Spec PyProof.Rows L2
/-! a def that lets nothing out (the law's own) -/
def noE : FR → FR
  | .exc _ => .bad
  | r => r
theorem fn_ok0 {P : Program} {w : World} {K : PySem.W.Frag} {mg : Str → Option Value} {base : Heap} {x qual : Str} {params : Arguments} {body : List Stmt} {scope : Scope} {f : Addr} {fd : FuncData}
    {N ps : List Str} {k : Nat} {pin : List Nat} {g : Env → R Fl} (F : FunD K x qual params body scope [] [] f fd) (S : FnScope N ps scope) (hp : ps.length ≤ N.length) (hpin : ∀ j ∈ pin, j < ps.length)
    (hbody : ∀ (cdv : Value) (A : Around) (outer : List PySem.Env) (s : Shared) (H : Hp) (E : XK), Room k (A.deeper (envOfC qual scope s.heap.objs.size f cdv)) →
      SSs (cxOf CX0 P w K mg base N qual scope f cdv A outer s H E) W0 pin body g) :
    FnOk P w K mg base CX0 (k + 1) f fd ps (spF K fun ts => noE (bodyF ps.length pin N.length g ts)) := by
  have len : ∀ vs H Q E, spF K (fun ts => noE (bodyF ps.length pin N.length g ts)) vs H Q E → vs.length = ps.length := fun vs H Q E ⟨ts, hs, hl, _, h⟩ => by
    by_cases q : ts.length = ps.length
    · rw [← hl]; exact q
    · simp only [bodyF, if_neg q, noE] at h
  refine F.ok S len fun cdv A outer s H vs Q E hr hsp => ⟨_, hbody cdv A outer s H E hr, ?_⟩
  have hvl := len _ _ _ _ hsp
  obtain ⟨ts, hs, hl, sep, h⟩ := hsp
  have htl : ts.length = ps.length := hl.trans hvl
  simp only [bodyF, if_pos htl] at h
  have st : Stt K hs (L2.start N vs) H (ts.map some ++ List.replicate (N.length - ps.length) none) := by
    unfold L2.start
    rw [hvl]
    refine ⟨sok_app vs ts _ hl, ?_⟩
    rw [slots_app vs ts _ _ hl]
    exact sep
  refine ⟨_, hs, L2.start N vs, st, fun _ _ => rfl, ?_⟩
  have outs : ∀ {σ : Sg} {H' : Hp} {ρ : Env} {B : List VT}, Stt K (B ++ hs) σ H' ρ → PinOk pin (L2.start N vs) σ → Sep K H' (B ++ (slotsL (vs.map some) (keepP pin ps.length 0 ρ) ++ hs)) := fun {σ H' ρ B} s1 hp1 => by
    have sb := keepP_sub (pin := pin) (vs := vs) (σ := σ) (ρ := ρ) (j := 0) fun i v hv hi => by
      rw [Nat.zero_add] at hi
      rw [hp1 i hi]
      unfold L2.start
      rw [List.getElem?_append_left (by rw [List.length_map]; exact (List.getElem?_eq_some_iff.mp hv).1), List.getElem?_map, hv]
      rfl
    rw [hvl] at sb
    have p1 : (slotsL σ ρ ++ (B ++ hs)).Perm ((B ++ hs) ++ slotsL σ ρ) := List.perm_append_comm
    have q := Sep.sub sb (A := B ++ hs) (s1.sep.perm p1)
    refine q.perm ?_
    rw [List.append_assoc]
    exact List.perm_append_comm.append_left _
  unfold finS
  cases e : g (ts.map some ++ List.replicate (N.length - ps.length) none) with
  | bad => rw [e] at h; exact h.elim
  | exc c ρ => rw [e] at h; exact h.elim
  | ok a ρ =>
    rw [e] at h
    cases a with
    | bk => exact h.elim
    | ct => exact h.elim
    | ra i =>
      intro v σ H' hi s1 hp1
      dsimp only at h
      cases hc : pin.contains i with
      | false => rw [hc, if_neg Bool.false_ne_true] at h; exact h.elim
      | true =>
        rw [hc, if_pos rfl] at h
        have hm : i ∈ pin := by simpa using hc
        have hlt : i < vs.length := by rw [hvl]; exact hpin i hm
        refine h v H' ?_ (outs (B := []) s1 hp1)
        have e1 := hp1 i hm
        rw [hi] at e1
        unfold L2.start at e1
        rw [List.getElem?_append_left (by rw [List.length_map]; exact hlt), List.getElem?_map] at e1
        cases hq : vs[i]? with
        | none => rw [hq] at e1; cases e1
        | some w =>
          rw [hq] at e1
          have e2 : some v = some w := Option.some.inj e1
          exact e2.symm
    | nx =>
      intro σ H' s1 hp1
      refine h _ H' ?_
      obtain ⟨ws, q⟩ := outs (B := []) s1 hp1
      exact ⟨ws, q.pure .non⟩
    | rt t =>
      intro v σ H' s1 hp1
      exact h v H' (outs (B := [(v, t)]) s1 hp1)
theorem law_end0 {K : PySem.W.Frag} {H : Hp} {a : Addr} {ns : List Int} {F : List T → FR} (hO : Only H) (hS : SqL K H a (ns.map V.int)) (hl : ns.length ≤ sizeLine) (h : ∃ outs, F [(false, .scr ns)] = .ok (false, .bl true) outs) :
    spF K (fun ts => noE (F ts)) [.ref a] H (fun v _ => v = .bl true) (fun _ _ _ => False) := by
  obtain ⟨outs, h⟩ := h
  exact law_end hO hS hl ⟨outs, by show noE (F _) = _; rw [h]; rfl⟩
end Lz
/-! count, index -/
namespace Lz
open PySem PySem.Spec PyProof.Rows L2
def strsD : List D → Option (List Str)
  | [] => some []
  | .str b :: r => (strsD r).map (b :: ·)
  | _ :: _ => none
theorem strsD_rep {K : PySem.W.Frag} {H : Hp} {av : Addr → Prop} : ∀ {vs : List V} {ds : List D} {bs : List Str}, RepAll K H av vs ds → strsD ds = some bs → vs = bs.map V.str
  | [], [], _, _, h => by cases h; rfl
  | _ :: _, d :: ds, bs, .cons r t, h => by
    cases d <;> first | (cases h; done) | skip
    rename_i b
    have h' : (strsD ds).map (b :: ·) = some bs := h
    cases e : strsD ds with
    | none => rw [e] at h'; cases h'
    | some bs' =>
      rw [e] at h'
      cases h'
      cases r
      rw [strsD_rep t e]
      rfl
def fstAt (z : Str) : List Str → Nat → Option Nat
  | [], _ => none
  | y :: ys, n => if y = z then some n else fstAt z ys (n + 1)
theorem fstAt_of {z : Str} : ∀ {ys : List Str} {n j : Nat}, fstAt z ys n = some j → n ≤ j ∧ ys[j - n]? = some z ∧ ∀ m, m < j - n → ys[m]? ≠ some z
  | [], _, _, h => by cases h
  | y :: ys, n, j, h => by
    unfold fstAt at h
    by_cases e : y = z
    · rw [if_pos e] at h
      cases h
      exact ⟨Nat.le_refl _, by simp [e], fun m hm => by omega⟩
    · rw [if_neg e] at h
      obtain ⟨h1, h2, h3⟩ := fstAt_of h
      have e2 : j - n = (j - (n + 1)) + 1 := by omega
      refine ⟨by omega, by rw [e2]; simpa using h2, fun m hm => ?_⟩
      cases m with
      | zero => simpa using e
      | succ m => simpa using h3 m (by omega)
def mfCount (d : D) (ds : List D) : Option T := match d, ds with
  | .tup xs, [.str z] => (strsD xs).map fun ys => (false, .int ((ys.countP fun y => y == z : Nat) : Int))
  | _, _ => none
def mfIndex (d : D) (ds : List D) : Option T := match d, ds with
  | .tup xs, [.str z] => (strsD xs).bind fun ys => (fstAt z ys 0).map fun j => (false, .int (j : Nat))
  | _, _ => none
section
variable {X : Cx}
theorem mt_tup_count : MtR X "tuple.count" (fun x xs H Q => ∃ p, ∃ ys : List Str, ∃ z, x = .ref p ∧ xs = [.str z] ∧ SqT X.K H p (ys.map V.str) ∧ Q (.int ((ys.countP fun y => y == z : Nat) : Int)) H) := by
  intro pins s σ H x xs v us Q I rx rs h
  obtain ⟨p, ys, z, rfl, rfl, hq, q⟩ := h
  cases rx
  obtain ⟨u, rfl, t, rfl⟩ := vals1 rs
  obtain ⟨its, r, pl, hz⟩ := I.tuple hq
  obtain ⟨⟨cls, dd, dt, sl⟩, ho, hc, n, hd⟩ := pl
  simp only at hc hd
  subst hc
  subst hd
  have hcnt : ∀ {ys : List Str} {its : List Value}, Vals (ys.map V.str) its → its.countP (eqU (.str z)) = ys.countP fun y => y == z := by
    intro ys
    induction ys with
    | nil => intro its r; cases r; rfl
    | cons y ys ih =>
      intro its r
      cases r with
      | cons r t =>
        rw [List.countP_cons, List.countP_cons, ih t, eqU_of r rfl]
        rfl
  refine call_meets PySem.F.slot_tuple_count ⟨_, ho, rfl⟩ PySem.F.entry_tuple_count (PySem.F.args_tuple_count_2 _ _) (SeqAt.tuple_countAt p its.toArray n dd sl (.str z t) (eqU (.str z)))
    ⟨ho, fun w hw => mem_eqAt (x := .str z) ⟨t, rfl⟩ rfl r (flat_strs ys) w (by simpa using hw), ?_⟩
  refine ⟨.int ((ys.countP fun y => y == z : Nat) : Int), H, I.tok _, ⟨s.toks, ?_⟩, q⟩
  show Value.int ((its.countP (eqU (.str z)) : Nat) : Int) s.toks = _
  rw [hcnt r]
theorem mr_count : MtR X "tuple.count" (rMt X.K mfCount) := by
  intro pins s σ H x xs v us Q I rx rs ⟨L, d, o, ds, t, sep, m, ms, ht, q⟩
  unfold mfCount at ht
  split at ht
  · rename_i zs z
    cases ms with
    | cons h1 t1 =>
      cases t1
      obtain ⟨o1, m1⟩ := h1
      obtain ⟨ws, w⟩ := sep
      obtain ⟨p, vs, rfl, hq, r, _⟩ := w.tup m
      cases e : strsD zs with
      | none => rw [e] at ht; cases ht
      | some ys =>
        rw [e] at ht
        cases ht
        have ev := strsD_rep r e
        subst ev
        have ez := w.str m1
        subst ez
        exact mt_tup_count pins s σ H _ _ v us Q I rx rs ⟨p, ys, z, rfl, rfl, hq, q _ _ (Sep.cInt ⟨ws, w⟩ _)⟩
  · cases ht
theorem mr_index : MtR X "tuple.index" (rMt X.K mfIndex) := by
  intro pins s σ H x xs v us Q I rx rs ⟨L, d, o, ds, t, sep, m, ms, ht, q⟩
  unfold mfIndex at ht
  split at ht
  · rename_i zs z
    cases ms with
    | cons h1 t1 =>
      cases t1
      obtain ⟨o1, m1⟩ := h1
      obtain ⟨ws, w⟩ := sep
      obtain ⟨p, vs, rfl, hq, r, _⟩ := w.tup m
      cases e : strsD zs with
      | none => rw [e] at ht; cases ht
      | some ys =>
        rw [e] at ht
        have ht' : (fstAt z ys 0).map (fun j => ((false, D.int (j : Nat)) : T)) = some t := ht
        cases e2 : fstAt z ys 0 with
        | none => rw [e2] at ht'; cases ht'
        | some j =>
          rw [e2] at ht'
          cases ht'
          have ev := strsD_rep r e
          subst ev
          have ez := w.str m1
          subst ez
          obtain ⟨_, h2, h3⟩ := fstAt_of e2
          exact mt_tup_index pins s σ H _ _ v us Q I rx rs ⟨p, ys, z, j, rfl, rfl, hq, h2, h3, q _ _ (Sep.cInt ⟨ws, w⟩ _)⟩
  · cases ht
/-- list.index: the first place of an equal one -/
def fstEq (d : PyData) : List PyData → Nat → Option Nat
  | [], _ => none
  | y :: ys, n => if PyData.eqv y d = true then some n else fstEq d ys (n + 1)
theorem fstEq_of {d : PyData} : ∀ {ys : List PyData} {n j : Nat}, fstEq d ys n = some j → n ≤ j ∧ (∃ z, ys[j - n]? = some z ∧ PyData.eqv z d = true) ∧ ∀ m z, m < j - n → ys[m]? = some z → PyData.eqv z d = false
  | [], _, _, h => by cases h
  | y :: ys, n, j, h => by
    unfold fstEq at h
    by_cases e : PyData.eqv y d = true
    · rw [if_pos e] at h
      cases h
      exact ⟨Nat.le_refl _, ⟨y, by simp, e⟩, fun m z hm => by omega⟩
    · rw [if_neg e] at h
      obtain ⟨h1, ⟨z, h2, h2'⟩, h3⟩ := fstEq_of h
      have e2 : j - n = (j - (n + 1)) + 1 := by omega
      refine ⟨by omega, ⟨z, by rw [e2]; simpa using h2, h2'⟩, fun m z hm hz => ?_⟩
      cases m with
      | zero =>
        have : y = z := by simpa using hz
        subst this
        simpa using e
      | succ m => exact h3 m z (by omega) (by simpa using hz)
def mfLIndex (d : D) (ds : List D) : Option T := match d, ds with
  | .lst xs, [z] => if okD (.lst xs) = true ∧ okD z = true then (fstEq z.toPy (D.toPys xs) 0).map fun j => (false, .int (j : Nat)) else none
  | _, _ => none
theorem mr_lindex (hu : X.A.units + 65 < cLine) : MtR X "list.index" (rMt X.K mfLIndex) := by
  intro pins s σ H x xs v us Q I rx rs ⟨L, d, o, ds, t, sep, m, ms, ht, q⟩
  unfold mfLIndex at ht
  split at ht
  · rename_i zs z
    cases ms with
    | cons h1 t1 =>
      cases t1
      obtain ⟨o1, m1⟩ := h1
      split at ht
      · rename_i hc
        cases e2 : fstEq z.toPy (D.toPys zs) 0 with
        | none => rw [e2] at ht; cases ht
        | some j =>
          rw [e2] at ht
          cases ht
          obtain ⟨ws, w⟩ := sep
          obtain ⟨p, vs, rfl, hq, r⟩ := w.lst m
          obtain ⟨_, ⟨u, h2, h2'⟩, h3⟩ := fstEq_of e2
          have r1 := w.any m
          have r2 := w.any m1
          have d1 := Rep.dp r1 (SeqAt.canLay_of_shaped hc.1)
          have d2 := Rep.dp r2 (SeqAt.canLay_of_shaped hc.2)
          rw [D.toPy] at d1
          have sh : SeqAt.shaped (D.toPy (.lst zs)) = true := hc.1
          rw [D.toPy] at sh
          exact mt_indexD hu pins s σ H _ _ v us Q I rx rs ⟨p, _, _, _, j, u, rfl, rfl, d1, d2, sh, hc.2, h2, h2', h3, q _ _ (Sep.cInt ⟨ws, w⟩ _)⟩
      · cases ht
  · cases ht
end
section
variable {X : Cx} {W : WX} {o e : Expr} {fa : Env → R XV} {f : Env → R (List XV)} {apos cpos : Pos}
theorem tCount (ho : SE X W o fa) (ha : SA X W [e] f)
    (hbase : attributeBase o "count" X.env (eval o X.env) = eval o X.env := by rfl)
    (few : ((backTo cpos (starEach [e] X.env)).all (fun x => !x.1) && (backToKw cpos (keywordEach [] X.env)).all (fun x => x.1.isSome) && decide ([e].length + 0 + 0 < 30)) = true := by rfl)
    (hline : (apos.endLine == cpos.line) = true := by rfl) (hst : starEach [e] X.env = (false, eval e X.env) :: starEach [] X.env := by rfl) :
    SE X W (.Call (.Attribute o "count" apos) [e] [] cpos) (sMt "tuple" mfCount fa f) := mB PySem.F.plainAttrs_tuple PySem.F.slot_tuple_count PySem.F.type_tuple_count mr_count ho ha hbase few hline hst rfl
theorem tIndex (ho : SE X W o fa) (ha : SA X W [e] f)
    (hbase : attributeBase o "index" X.env (eval o X.env) = eval o X.env := by rfl)
    (few : ((backTo cpos (starEach [e] X.env)).all (fun x => !x.1) && (backToKw cpos (keywordEach [] X.env)).all (fun x => x.1.isSome) && decide ([e].length + 0 + 0 < 30)) = true := by rfl)
    (hline : (apos.endLine == cpos.line) = true := by rfl) (hst : starEach [e] X.env = (false, eval e X.env) :: starEach [] X.env := by rfl) :
    SE X W (.Call (.Attribute o "index" apos) [e] [] cpos) (sMt "tuple" mfIndex fa f) := mB PySem.F.plainAttrs_tuple PySem.F.slot_tuple_index PySem.F.type_tuple_index mr_index ho ha hbase few hline hst rfl
theorem lIndex (hu : X.A.units + 65 < cLine) (ho : SE X W o fa) (ha : SA X W [e] f)
    (hbase : attributeBase o "index" X.env (eval o X.env) = eval o X.env := by rfl)
    (few : ((backTo cpos (starEach [e] X.env)).all (fun x => !x.1) && (backToKw cpos (keywordEach [] X.env)).all (fun x => x.1.isSome) && decide ([e].length + 0 + 0 < 30)) = true := by rfl)
    (hline : (apos.endLine == cpos.line) = true := by rfl) (hst : starEach [e] X.env = (false, eval e X.env) :: starEach [] X.env := by rfl) :
    SE X W (.Call (.Attribute o "index" apos) [e] [] cpos) (sMt "list" mfLIndex fa f) := mB PySem.F.plainAttrs_list PySem.F.slot_list_index PySem.F.type_list_index (mr_lindex hu) ho ha hbase few hline hst rfl
end
end Lz
/-! try .. except -/
namespace Lz
open PySem PySem.Spec PyProof.Rows L2
/-- whether the one class stands under the other -/
def excSub (x c : Str) : Bool := x == c || (c == "LossError" || c == "ValueError")
/-- the value of a class's name -/
def clV (K : PySem.W.Frag) (c : Str) : Value := if c == "ValueError" then .type "ValueError" else .ref (He.ga K c)
def exOk (K : PySem.W.Frag) (x : Str) : Bool :=
  let D := He.ga K x
  decide (PySem.W.findIn K (.ref D) "__getattribute__" = some (some (.builtin "BaseException.__getattribute__"))) &&
  (decide (PySem.W.findIn K (.ref D) "__getattr__" = some none) &&
  (decide (PySem.W.subIn K (.ref D) (.type "BaseException") = some true) &&
  (PySem.W.hasDictIn K D &&
  (decide (PySem.W.findIn K (.ref D) "__class__" = some (some (.builtin "object.__class__"))) &&
  (decide (PySem.W.specialIn K (.builtin "object.__class__") "__get__" = some (some (.builtin "getset_descriptor.__get__"))) &&
  (decide (PySem.W.takesIn K (.builtin "object.__class__") = some true) &&
  decide (PySem.W.mroIn K D (.type "object") = some true)))))))
theorem exOk_C {K : PySem.W.Frag} {x : Str} (h : exOk K x = true) : ExcC K (He.ga K x) := by
  unfold exOk at h
  obtain ⟨h1, h⟩ := He.ba h
  obtain ⟨h2, h⟩ := He.ba h
  obtain ⟨h3, h⟩ := He.ba h
  obtain ⟨h4, h⟩ := He.ba h
  obtain ⟨h5, h⟩ := He.ba h
  obtain ⟨h6, h⟩ := He.ba h
  obtain ⟨h7, h8⟩ := He.ba h
  exact ⟨of_decide_eq_true h1, of_decide_eq_true h2, of_decide_eq_true h3, h4, of_decide_eq_true h5, of_decide_eq_true h6, of_decide_eq_true h7, of_decide_eq_true h8⟩
/-- the exceptions' facts: those that may be raised, those that are asked for -/
def exsB (xs cs : List Str) (K : PySem.W.Frag) : Bool := xs.all fun x => exOk K x && cs.all fun c =>
  decide (PySem.W.kitOne K (.ref (He.ga K x)) (clV K c) = some (excSub x c)) && (c == "ValueError" || decide (PySem.W.exmOne K (.ref (He.ga K x)) (.ref (He.ga K c)) = some (excSub x c)))
structure ExF (K : PySem.W.Frag) (xs cs : List Str) : Prop where
  c : ∀ x ∈ xs, ExcC K (He.ga K x)
  k : ∀ x ∈ xs, ∀ c ∈ cs, PySem.W.kitOne K (.ref (He.ga K x)) (clV K c) = some (excSub x c)
  m : ∀ x ∈ xs, ∀ c ∈ cs, (c == "ValueError") = false → PySem.W.exmOne K (.ref (He.ga K x)) (.ref (He.ga K c)) = some (excSub x c)
theorem exF_of {xs cs : List Str} {K : PySem.W.Frag} (h : exsB xs cs K = true) : ExF K xs cs := by
  have h1 := List.all_eq_true.mp h
  refine ⟨fun x hx => exOk_C (He.ba (h1 x hx)).1, fun x hx c hc => ?_, fun x hx c hc hne => ?_⟩
  · have h2 := List.all_eq_true.mp (He.ba (h1 x hx)).2 c hc
    exact of_decide_eq_true (He.ba h2).1
  · have h2 := List.all_eq_true.mp (He.ba (h1 x hx)).2 c hc
    have h3 := (He.ba h2).2
    rw [hne, Bool.false_or] at h3
    exact of_decide_eq_true h3
def xTry (xs : List Str) (c : Str) (f : Env → R Fl) (h : Str → Env → R Fl) (ρ : Env) : R Fl := match f ρ with
  | .exc x ρ' => if x ∈ xs then (if excSub x c = true then (match h x ρ' with
    | .exc _ _ => .bad
    | r => r) else .exc x ρ') else .bad
  | r => r
section
variable {X : Cx} {W : WX} {x : Str} {xs cs : List Str} {body suite : List Stmt} {b₀ : Stmt} {np pos pos' : Pos} {pin : List Nat} {f : Env → R Fl}
theorem fin_noexc {K : PySem.W.Frag} {hs : List VT} {σ0 : Sg} {r : R Fl} {E : Ends} (h : finS K W hs pin σ0 (match r with | .exc _ _ => .bad | r => r) E) : finS K W0 hs pin σ0 r E := by
  cases r with
  | ok a ρ => cases a <;> exact h
  | exc c ρ => exact h.elim
  | bad => exact h
theorem ss_try {h : Env → R Fl} (hs : X.stack = X.env :: X.outer) (hf : X.env.frame = some X.env.locals) (hc : Names X x (.ref (He.ga X.K x))) (tk : Takes X W) (F : ExF X.K xs cs) (hx : x ∈ cs) (hne : (x == "ValueError") = false)
    (hb : ∀ (W : WX) (pn : List (Addr × Obj)) (xe : Value → Shared → Prop), Takes (X.tr pn xe) W → PassesOwn (model X.prog X.w) X.A X.env xe → SSs (X.tr pn xe) W pin body f)
    (hh : ∀ (a : Addr) (oe : Obj) (pn : List (Addr × Obj)), SSs (X.suite a ((a, oe) :: pn)) W0 pin (b₀ :: suite) h) :
    SS X W pin (.Try body [.ExceptHandler (some (.Name x np)) none (b₀ :: suite) pos'] [] [] pos) (xTry xs x f fun _ => h) := by
  refine PS.weak (ps_try_only (tb := fun W => tS X.K W pin f) (ts := fun _ _ _ => tS X.K W0 pin h) hs hf hc tk hb (fun a oe _ _ pn _ _ => hh a oe pn)) fun E σ H hq => ?_
  obtain ⟨ρ, hs', σ0, s, hp, hq⟩ := hq
  refine ⟨ρ, hs', σ0, s, hp, ?_⟩
  unfold xTry at hq
  cases e : f ρ with
  | ok a ρ1 => rw [e] at hq; cases a <;> exact hq
  | bad => rw [e] at hq; exact hq
  | exc y ρ1 =>
    rw [e] at hq
    intro σ1 H1 s1 p1
    have hq' : finS X.K W hs' pin σ0 (if y ∈ xs then (if excSub y x = true then (match h ρ1 with | .exc _ _ => .bad | r => r) else .exc y ρ1) else .bad) E := hq
    by_cases hy : y ∈ xs
    · rw [if_pos hy] at hq'
      refine ⟨excSub y x, F.m y hy x hx hne, fun hb1 a na => ?_, fun hb0 => ?_⟩
      · rw [if_pos hb1] at hq'
        exact ⟨ρ1, hs', σ0, s1, p1, fin_noexc hq'⟩
      · rw [if_neg (by rw [hb0]; exact Bool.false_ne_true)] at hq'
        exact hq' σ1 H1 s1 p1
    · rw [if_neg hy] at hq'; exact hq'.elim
/-! ### the exception by its name -/
/-- in the suite: an expression that asks of which class the exception is -/
def KE (X : Cx) (xs : List Str) (i : Nat) (a : Addr) (cls : Value) (d : Option Addr) (e : Expr) (B : Str → Bool) : Prop := ∀ x ∈ xs, cls = .ref (He.ga X.K x) → d = none → PE X e (fun σ H Q => σ[i]? = some (some (.ref a)) ∧ Q (.bl (B x)) H)
section
variable {i : Nat} {a : Addr} {oe : Obj} {cls : Value} {d : Option Addr} {pn : List (Addr × Obj)} {e e1 e2 : Expr} {rest : List Expr} {B1 B2 : Str → Bool} {p : Pos}
theorem ke_isi {n c : Str} {p1 p2 p3 p4 : Pos} (F : ExF X.K xs cs) (hz : Zc cls d oe) (hf : ∃ vs, oe.data = .fields vs) (hcs : c ∈ cs) (hm : X.mg "isinstance" = none) (hc : (c = "ValueError" ∧ X.mg c = none) ∨ ((c == "ValueError") = false ∧ X.mg c = some (.ref (He.ga X.K c))))
    (hN : X.N[i]? = some n) (hv : Vis X.env.scope n) (hd : (n == ("__debug__" : Str)) = false) (hcd : (n == ("__classdict__" : Str)) = false) (hg : Gl X "isinstance") (hg2 : Gl X c) (hd2 : (c == ("__debug__" : Str)) = false)
    (hst : starEach [.Name n p1, .Name c p2] X.env = (false, eval (.Name n p1) X.env) :: starEach [.Name c p2] X.env) :
    KE (X.suite a ((a, oe) :: pn)) xs i a cls d (.Call (.Name "isinstance" p3) [.Name n p1, .Name c p2] [] p4) (fun x => excSub x c) := by
  intro x hx e1 e2
  subst e1 e2
  have hN' : (X.suite a ((a, oe) :: pn)).N[i]? = some n := hN
  have hcl : ∃ cv : V, RelV cv (clV X.K c) ∧ (∀ u, RelV cv u → u = clV X.K c) ∧ PE (X.suite a ((a, oe) :: pn)) (.Name c p2) (tC cv) := by
    rcases hc with ⟨rfl, hm2⟩ | ⟨hne, hm2⟩
    · refine ⟨.ty "ValueError", rfl, fun u r => r, ?_⟩
      exact pe_bltn (X := X.suite a ((a, oe) :: pn)) hg2 hm2 (show bootBuiltins "ValueError" = some (.type "ValueError") by decide +kernel) rfl (by decide) (by decide)
    · have e : clV X.K c = .ref (He.ga X.K c) := by unfold clV; rw [hne]; rfl
      refine ⟨.ref (He.ga X.K c), by rw [e]; rfl, fun u r => by rw [e]; exact r, ?_⟩
      exact pe_glob (X := X.suite a ((a, oe) :: pn)) hg2 hm2 rfl hd2
  obtain ⟨cv, _, hcv, hpe⟩ := hcl
  have ha : PA (X.suite a ((a, oe) :: pn)) [.Name n p1, .Name c p2] (tCons (tVar i) (tCons (tC cv) tNil)) := pa_cons (pe_var hN' hv hd hcd) (pa_cons hpe pa_nil) hst
  refine PE.weak (pe_callB (X := X.suite a ((a, oe) :: pn)) (call_isE (F.c x hx) hz hf) hg hm (by decide +kernel) ha (by decide) (by decide) hst) fun σ H Q h => ?_
  exact ⟨_, h.1, cv, _, _, rfl, hcv, F.k x hx c hcs, h.2⟩
theorem ke_not (h : KE X xs i a cls d e B1) : KE X xs i a cls d (.UnaryOp .Not e p) (fun x => !B1 x) := fun x hx e1 e2 =>
  PE.weak (pe_not (h x hx e1 e2)) fun σ H Q q => ⟨q.1, _, rfl, q.2⟩
theorem ke_one {op} (h : KE X xs i a cls d e B1) : KE X xs i a cls d (.BoolOp op [e] p) B1 := fun x hx e1 e2 => pe_one (h x hx e1 e2)
theorem ke_and (h : KE X xs i a cls d e1 B1) (h2 : KE X xs i a cls d (.BoolOp .And (e2 :: rest) p) B2) : KE X xs i a cls d (.BoolOp .And (e1 :: e2 :: rest) p) (fun x => B1 x && B2 x) := fun x hx q1 q2 =>
  PE.weak (pe_and (h x hx q1 q2) (h2 x hx q1 q2)) fun σ H Q q => by
    refine ⟨q.1, B1 x, rfl, ?_⟩
    cases e : B1 x with
    | true =>
      rw [if_pos rfl]
      have q2 : Q (.bl (B1 x && B2 x)) H := q.2
      rw [e, Bool.true_and] at q2
      exact ⟨q.1, q2⟩
    | false =>
      rw [if_neg Bool.false_ne_true]
      have q2 : Q (.bl (B1 x && B2 x)) H := q.2
      rw [e, Bool.false_and] at q2
      exact q2
theorem ke_or (h : KE X xs i a cls d e1 B1) (h2 : KE X xs i a cls d (.BoolOp .Or (e2 :: rest) p) B2) : KE X xs i a cls d (.BoolOp .Or (e1 :: e2 :: rest) p) (fun x => B1 x || B2 x) := fun x hx q1 q2 =>
  PE.weak (pe_or (h x hx q1 q2) (h2 x hx q1 q2)) fun σ H Q q => by
    refine ⟨q.1, B1 x, rfl, ?_⟩
    cases e : B1 x with
    | true =>
      rw [if_pos rfl]
      have q2 : Q (.bl (B1 x || B2 x)) H := q.2
      rw [e, Bool.true_or] at q2
      exact q2
    | false =>
      rw [if_neg Bool.false_ne_true]
      have q2 : Q (.bl (B1 x || B2 x)) H := q.2
      rw [e, Bool.false_or] at q2
      exact ⟨q.1, q2⟩
end
/-- the suite: return .. -/
def hRet (B : Str → Bool) (x : Str) (ρ : Env) : R Fl := .ok (.rt (false, .bl (B x))) ρ
/-- the suite: if ..: return False -/
def hIfF (B : Str → Bool) (x : Str) (ρ : Env) : R Fl := if B x = true then .ok (.rt (false, .bl false)) ρ else .ok .nx ρ
def tsH (K : PySem.W.Frag) (xs : List Str) (i : Nat) (h : Str → Env → R Fl) (pin : List Nat) (a : Addr) (cls : Value) (d : Option Addr) : TS := fun D σ H => σ[i]? = some (some (.ref a)) ∧ d = none ∧ ∃ x ∈ xs, cls = .ref (He.ga K x) ∧ tS K W0 pin (h x) D σ H
/-- the suite's end: the name is gone -/
def asEnd (i : Nat) (h : Env → R Fl) (ρ : Env) : R Fl := if i < ρ.length then (match h (pt ρ i none) with
  | .ok .nx ρ' => .ok .nx (pt ρ' i none)
  | .ok (.rt t) ρ' => .ok (.rt t) ρ'
  | _ => .bad) else .bad
theorem ss_tryAs {n : Str} {i : Nat} {h : Str → Env → R Fl} (hs : X.stack = X.env :: X.outer) (hf : X.env.frame = some X.env.locals) (hN : X.N.Nodup) (hi : X.N[i]? = some n) (hln : X.env.kindOf n = some .local) (hip : i ∉ pin) (hc : Names X x (.ref (He.ga X.K x))) (tk : Takes X W) (F : ExF X.K xs cs) (hx : x ∈ cs) (hne : (x == "ValueError") = false)
    (hb : ∀ (W : WX) (pn : List (Addr × Obj)) (xe : Value → Shared → Prop), Takes (X.tr pn xe) W → PassesOwn (model X.prog X.w) X.A X.env xe → SSs (X.tr pn xe) W pin body f)
    (hh : ∀ (a : Addr) (oe : Obj) (cls : Value) (d : Option Addr) (pn : List (Addr × Obj)), Zc cls d oe → (∃ vs, oe.data = .fields vs) → PSs (X.suite a ((a, oe) :: pn)) (b₀ :: suite) (tsH X.K xs i h pin a cls d)) :
    SS X W pin (.Try body [.ExceptHandler (some (.Name x np)) (some n) (b₀ :: suite) pos'] [] [] pos) (xTry xs x f fun x => asEnd i (h x)) := by
  have hps := ps_try_as (np := np) (pos := pos) (pos' := pos') (tb := fun W => tS X.K W pin f) (ts := fun a cls d => tsH X.K xs i h pin a cls d) hs hf hN hi hln hc tk hb hh
  refine ⟨fun pins s σ H E I hq => hps.run pins s σ H E I ?_⟩
  obtain ⟨ρ, hs', σ0, s, hp, hq⟩ := hq
  refine ⟨ρ, hs', σ0, s, hp, ?_⟩
  unfold xTry at hq
  cases e : f ρ with
  | ok a ρ1 => rw [e] at hq; cases a <;> exact hq
  | bad => rw [e] at hq; exact hq
  | exc y ρ1 =>
    rw [e] at hq
    intro σ1 H1 s1 p1
    have hq' : finS X.K W hs' pin σ0 (if y ∈ xs then (if excSub y x = true then (match asEnd i (h y) ρ1 with | .exc _ _ => .bad | r => r) else .exc y ρ1) else .bad) E := hq
    by_cases hy : y ∈ xs
    · rw [if_pos hy] at hq'
      refine ⟨excSub y x, F.m y hy x hx hne, fun hb1 a na => ?_, fun hb0 => ?_⟩
      · rw [if_pos hb1] at hq'
        unfold asEnd at hq'
        by_cases hlt : i < ρ1.length
        · rw [if_pos hlt] at hq'
          have hl1 := s1.ok.len
          refine ⟨by rw [List.getElem?_set_self (by omega)], rfl, y, hy, rfl, pt ρ1 i none, hs', σ0, ?_, pin_set p1 hip, ?_⟩
          · refine (s1.clear i).chg (List.length_set ..) fun j t hj => ?_
            have ne : i ≠ j := fun q => by
              rw [← q, gt_pt_same ρ1 i none hlt] at hj
              cases hj
            rw [List.getElem?_set_ne ne]
          · cases e2 : h y (pt ρ1 i none) with
            | bad => rw [e2] at hq'; exact hq'.elim
            | exc c ρ2 => rw [e2] at hq'; exact hq'.elim
            | ok b ρ2 =>
              rw [e2] at hq'
              cases b with
              | bk => exact hq'.elim
              | ct => exact hq'.elim
              | ra j => exact hq'.elim
              | rt t => exact hq'
              | nx =>
                intro σ2 H2 s2 p2
                refine hq' _ H2 ((s2.clear i).chg (List.length_set ..) fun j t hj => ?_) (pin_set p2 hip)
                by_cases ne : i = j
                · subst ne
                  by_cases hl2 : i < ρ2.length
                  · rw [gt_pt_same ρ2 i none hl2] at hj; cases hj
                  · rw [pt_out ρ2 i none (by omega)] at hj
                    exact absurd (gt_lt hj) hl2
                · rw [List.getElem?_set_ne ne]
        · rw [if_neg hlt] at hq'; exact hq'.elim
      · rw [if_neg (by rw [hb0]; exact Bool.false_ne_true)] at hq'
        exact hq' σ1 H1 s1 p1
    · rw [if_neg hy] at hq'; exact hq'.elim
section
variable {i : Nat} {a : Addr} {oe : Obj} {cls : Value} {d : Option Addr} {pn : List (Addr × Obj)} {e : Expr} {B : Str → Bool} {p p2 p3 : Pos} {k : Nat}
/-- return e, e about the exception -/
theorem hs_ret (h : KE (X.suite a ((a, oe) :: pn)) xs i a cls d e B) : PSs (X.suite a ((a, oe) :: pn)) [.Return (some e) p] (tsH X.K xs i (hRet B) pin a cls d) := by
  refine ⟨fun pins s σ H E I hq => ?_⟩
  obtain ⟨hi, hd, x, hx, hcl, hq⟩ := hq
  refine (pss_one (ps_ret (h x hx hcl hd))).run pins s σ H E I ⟨hi, ?_⟩
  obtain ⟨ρ, hs', σ0, st, hp, hq⟩ := hq
  refine hq (.bl (B x)) σ H ?_ hp
  refine ⟨st.ok, ?_⟩
  obtain ⟨ws, q⟩ := st.sep
  exact Sep.perm List.perm_middle.symm ⟨ws, q.pure (.bl _)⟩
def KT (X : Cx) (xs : List Str) (i : Nat) (a : Addr) (cls : Value) (d : Option Addr) (e : Expr) (B : Str → Bool) : Prop := ∀ x ∈ xs, cls = .ref (He.ga X.K x) → d = none → PT X e (fun σ H Q => σ[i]? = some (some (.ref a)) ∧ Q (B x) H)
def KW (X : Cx) (xs : List Str) (i : Nat) (a : Addr) (cls : Value) (d : Option Addr) (e : Expr) (B : Str → Bool) : Prop := ∀ x ∈ xs, cls = .ref (He.ga X.K x) → d = none → PW X e (fun σ H Q => σ[i]? = some (some (.ref a)) ∧ Q (B x) H)
theorem kt_val (h : KE X xs i a cls d e B) (he : ∀ whole, isTrue e X.env whole = (do let v ← whole; standAt e.pos; holding [v] (truthy v))) : KT X xs i a cls d e B := fun x hx e1 e2 =>
  PT.weak (pt_val (h x hx e1 e2) he) fun σ H Q q => ⟨q.1, _, rfl, q.2⟩
theorem kt_not (h : KT X xs i a cls d e B) : KT X xs i a cls d (.UnaryOp .Not e p) (fun x => !B x) := fun x hx e1 e2 =>
  PT.weak (pt_not (h x hx e1 e2)) fun σ H Q q => q
theorem kw_or1 (h : KT X xs i a cls d e B) : KW X xs i a cls d (.BoolOp .Or [e] p) B := fun x hx e1 e2 => pw_or1 (h x hx e1 e2)
theorem kw_or {e2 : Expr} {rest : List Expr} {B2 : Str → Bool} (h : KT X xs i a cls d e B) (h2 : KW X xs i a cls d (.BoolOp .Or (e2 :: rest) p) B2) : KW X xs i a cls d (.BoolOp .Or (e :: e2 :: rest) p) (fun x => B x || B2 x) := fun x hx q1 q2 =>
  PW.weak (pw_or (h x hx q1 q2) (h2 x hx q1 q2)) fun σ H Q q => by
    refine ⟨q.1, ?_⟩
    have q3 : Q (B x || B2 x) H := q.2
    cases e : B x with
    | true =>
      rw [e, Bool.true_or] at q3
      exact iteT q3
    | false =>
      rw [e, Bool.false_or] at q3
      exact iteF ⟨q.1, q3⟩
theorem KW.kt (h : KW X xs i a cls d e B) : KT X xs i a cls d e B := fun x hx e1 e2 => PW.pt (h x hx e1 e2)
/-- if e: return False -/
theorem hs_if (h : KT (X.suite a ((a, oe) :: pn)) xs i a cls d e B) :
    PSs (X.suite a ((a, oe) :: pn)) [.If e [.Return (some (.Constant (.bool false) k p3)) p2] [] p] (tsH X.K xs i (hIfF B) pin a cls d) := by
  refine ⟨fun pins s σ H E I hq => ?_⟩
  obtain ⟨hi, hd, x, hx, hcl, hq⟩ := hq
  have rd : tIfS (fun σ H Q => σ[i]? = some (some (.ref a)) ∧ Q (B x) H) (tRet (tC (.bl false))) tNext E σ H := by
    refine ⟨hi, ?_⟩
    obtain ⟨ρ, hs', σ0, st, hp, hq⟩ := hq
    unfold hIfF at hq
    cases eb : B x with
    | true =>
      rw [eb, if_pos rfl] at hq
      refine iteT (hq (.bl false) σ H ?_ hp)
      refine ⟨st.ok, ?_⟩
      obtain ⟨ws, q⟩ := st.sep
      exact Sep.perm List.perm_middle.symm ⟨ws, q.pure (.bl _)⟩
    | false =>
      rw [eb, if_neg Bool.false_ne_true] at hq
      exact iteF (hq σ H st hp)
  exact (pss_one (ps_if (h x hx hcl hd) (pss_one (ps_ret (pe_bl (b := false)))) pss_nil)).run pins s σ H E I rd
end
end
/-! evaluation -/
section
variable {xs : List Str} {c x : Str} {f : Env → R Fl} {h : Str → Env → R Fl} {ρ : Env} {i : Nat}
def tryE (h : Str → Env → R Fl) (x : Str) (ρ : Env) : R Fl := match h x ρ with
  | .exc _ _ => .bad
  | r => r
def tryK (xs : List Str) (c : Str) (h : Str → Env → R Fl) : R Fl → R Fl
  | .exc x ρ' => if x ∈ xs then (if excSub x c = true then tryE h x ρ' else .exc x ρ') else .bad
  | r => r
@[simp] theorem tryK_ok {a : Fl} : tryK xs c h (.ok a ρ) = .ok a ρ := rfl
@[simp] theorem tryK_exc : tryK xs c h (.exc x ρ) = if x ∈ xs then (if excSub x c = true then tryE h x ρ else .exc x ρ) else .bad := rfl
@[simp] theorem xTry_ev : xTry xs c f h ρ = tryK xs c h (f ρ) := by
  unfold xTry tryK
  cases f ρ <;> rfl
theorem tryE_ok {a : Fl} {ρ' : Env} (q : h x ρ = .ok a ρ') : tryE h x ρ = .ok a ρ' := by unfold tryE; rw [q]
end
end Lz
/-! range downward -/
namespace Lz
open PySem PySem.Spec PyProof.Rows L2
noncomputable def rngX3 (xs : List XV) (ρ : Env) : R Its := match views xs ρ with
  | some [.int a, .int b, .int c] => cif (c = -1 ∧ -(2 ^ 62) ≤ a ∧ a < 2 ^ 62 ∧ -(2 ^ 62) ≤ b ∧ b < 2 ^ 62 ∧ a - b ≤ 16777216) (.ok ⟨rngL a (-1) (a - b).toNat, none⟩ ρ) .bad
  | _ => .bad
noncomputable def sRng3 (f : Env → R (List XV)) (ρ : Env) : R Its := (f ρ).bind rngX3
theorem src_rngC {K : PySem.W.Frag} {a c : Int} {n : Nat} {v : V} {t : T} : Src K (Itc a c n) v t (rngL a c n) := fun i L H ws w m => by
  refine ⟨fun d hd => ?_, fun hlen => ?_⟩
  · obtain ⟨h1, rfl⟩ := rngL_get n a c i d hd
    refine ⟨h1, fun x H' hy => ?_⟩
    obtain ⟨rfl, rfl⟩ := hy
    exact ⟨rfl, .int _⟩
  · rw [rngL_len] at hlen
    exact hlen
section
variable {X : Cx} {W : WX} {tg : Expr}
theorem rngX3_ok {K : PySem.W.Frag} {hs : List VT} {σ : Sg} {H : Hp} {ρ : Env} {xs : List XV} {vs : List V} {Q : It → Hp → Prop} (s : Stt K (hlds xs vs ++ hs) σ H ρ) (hx : ResVs σ xs vs) (h : finI K W hs σ (rngX3 xs ρ) Q) :
    ∃ (i j c : Int) (n : Nat), vs = [.int i, .int j, .int c] ∧ RgC i j c n ∧ Q (Itc i c n) H := by
  unfold rngX3 at h
  cases e : views xs ρ with
  | none => rw [e] at h; exact h.elim
  | some ds =>
    rw [e] at h
    have ms := views_mem s hx (fun p hp => List.mem_append_left _ hp) e
    have s0 : Stt K hs σ H ρ := s.dropA
    have s1 : Stt K ((.non, (false, .non)) :: hs) σ H ρ := ⟨s0.ok, Sep.perm List.perm_middle.symm (s0.sep.pureC fun _ => .non)⟩
    split at h
    · rename_i a b c e2
      obtain rfl := Option.some.inj e2
      by_cases hb : c = -1 ∧ -(2 ^ 62) ≤ a ∧ a < 2 ^ 62 ∧ -(2 ^ 62) ≤ b ∧ b < 2 ^ 62 ∧ a - b ≤ 16777216
      · rw [cif_pos hb] at h
        cases ms with
        | cons h1 t1 =>
          cases t1 with
          | cons h2 t2 =>
            cases t2 with
            | cons h3 t3 =>
              cases t3
              obtain ⟨o, m⟩ := h1
              obtain ⟨o2, m2⟩ := h2
              obtain ⟨o3, m3⟩ := h3
              obtain ⟨rfl, b1, b2, b3, b4, b5⟩ := hb
              exact ⟨a, b, -1, (a - b).toNat, by rw [s.sep.int m, s.sep.int m2, s.sep.int m3], RgC.neg b1 b2 b3 b4, h _ .non (false, .non) H src_rngC (by rw [rngL_len]; show (a - b).toNat ≤ 16777216; omega) trivial s1⟩
      · rw [cif_neg hb] at h; exact h.elim
    · exact h.elim
theorem rg3 {a b c : Expr} {fs : Env → R (List XV)} {p pos : Pos} (hm : X.mg "range" = none) (ha : SA X W [a, b, c] fs) (hg : Gl X "range" := by rfl)
    (hst : starEach [a, b, c] X.env = (false, eval a X.env) :: starEach [b, c] X.env := by rfl) (hpl : (backTo pos (starEach [b, c] X.env)).any (·.1) = false := by rfl) :
    SI X W tg (.Call (.Name "range" p) [a, b, c] [] pos) (sRng3 fs) := by
  refine PI.weak (pi_range3 hg hm ha hst hpl) fun σ H Q h => ?_
  obtain ⟨ρ, hs, s, h⟩ := h
  refine ⟨ρ, hs, s, ?_⟩
  have h2 := finI_bindA h
  cases e : fs ρ with
  | ok xs ρ1 =>
    rw [e] at h2
    intro vs H1 hx s1
    obtain ⟨xs', ρ2, hx', s2, h3⟩ := h2 vs H1 hx s1
    exact rngX3_ok s2 hx' h3
  | exc c ρ1 => rw [e] at h2; exact h2
  | bad => rw [e] at h2; exact h2
noncomputable def rng3K (ρ : Env) : Option (List D) → R Its
  | some [.int a, .int b, .int c] => cif (c = -1 ∧ -(2 ^ 62) ≤ a ∧ a < 2 ^ 62 ∧ -(2 ^ 62) ≤ b ∧ b < 2 ^ 62 ∧ a - b ≤ 16777216) (.ok ⟨rngL a (-1) (a - b).toNat, none⟩ ρ) .bad
  | _ => .bad
@[simp] theorem rng3K_s {ρ : Env} {a b c : Int} : rng3K ρ (some [.int a, .int b, .int c]) = cif (c = -1 ∧ -(2 ^ 62) ≤ a ∧ a < 2 ^ 62 ∧ -(2 ^ 62) ≤ b ∧ b < 2 ^ 62 ∧ a - b ≤ 16777216) (.ok ⟨rngL a (-1) (a - b).toNat, none⟩ ρ) .bad := rfl
@[simp] theorem rngX3_ev {ρ : Env} {xs : List XV} : rngX3 xs ρ = rng3K ρ (views xs ρ) := by
  unfold rngX3 rng3K
  rfl
@[simp] theorem sRng3_ev {f : Env → R (List XV)} {ρ : Env} : sRng3 f ρ = (f ρ).bind rngX3 := rfl
end
end Lz
/-! list(range(..)), tuple(range(..)) -/
namespace Lz
open PySem PySem.Spec PyProof.Rows L2
theorem tE_mono {K : PySem.W.Frag} {W : WX} {f : Env → R XV} {σ : Sg} {H : Hp} {Q Q' : VK} (h : tE K W f σ H Q) (m : ∀ v H, Q v H → Q' v H) : tE K W f σ H Q' := by
  obtain ⟨ρ, hs, s, h⟩ := h
  exact ⟨ρ, hs, s, fin_mono h m⟩
theorem tE_wk {K : PySem.W.Frag} {W : WX} {f g : Env → R XV} {σ : Sg} {H : Hp} {Q : VK} (h : tE K W f σ H Q) (e : f = g) : tE K W g σ H Q := e ▸ h
def rgOkB (a b : Int) : Prop := -(2 ^ 62) ≤ a ∧ a < 2 ^ 62 ∧ -(2 ^ 62) ≤ b ∧ b < 2 ^ 62 ∧ b - a ≤ 16777216
theorem rgOkB_of {a b : Int} (h1 : -(2 ^ 62) ≤ a) (h2 : a < 2 ^ 62) (h3 : -(2 ^ 62) ≤ b) (h4 : b < 2 ^ 62) (h5 : b - a ≤ 16777216) : rgOkB a b := ⟨h1, h2, h3, h4, h5⟩
noncomputable def opLRg : D → D → Option T
  | .int a, .int b => cif (rgOkB a b) (some (true, .lst (rngL a 1 (b - a).toNat))) none
  | _, _ => none
noncomputable def opLRg1 : D → Option T := fun d => opLRg (.int 0) d
noncomputable def opTRg : D → D → Option T
  | .int a, .int b => cif (rgOkB a b) (some (false, .tup (rngL a 1 (b - a).toNat))) none
  | _, _ => none
noncomputable def opTRg1 : D → Option T := fun d => opTRg (.int 0) d
theorem rgV_cons {a b : Int} (h : a < b) : rgV a b = .int a :: rgV (a + 1) b := by
  unfold rgV
  obtain ⟨n, hn⟩ : ∃ n, (b - a).toNat = n + 1 := ⟨(b - a).toNat - 1, by omega⟩
  have e : (b - (a + 1)).toNat = n := by omega
  rw [hn, e, List.range_succ_eq_map]
  simp only [List.map_cons, List.map_map]
  refine congr (congrArg List.cons (by simp)) (List.map_congr_left fun i _ => ?_)
  show V.int (a + ((i + 1 : Nat) : Int)) = V.int (a + 1 + (i : Int))
  congr 1
  omega
theorem rep_rg {K : PySem.W.Frag} {H : Hp} {av : Addr → Prop} {b : Int} : ∀ (n : Nat) (a : Int), (b - a).toNat = n → RepAll K H av (rgV a b) (rngL a 1 n)
  | 0, a, h => by
    have e : rgV a b = [] := by unfold rgV; rw [h]; rfl
    rw [e]
    exact .nil
  | n + 1, a, h => by
    rw [rgV_cons (by omega)]
    exact .cons (.int a) (rep_rg n (a + 1) (by omega))
theorem rgOk_of {a b : Int} (h : rgOkB a b) : RgOk a b := by
  exact ⟨h.1, h.2.1, h.2.2.1, h.2.2.2.1, by have := h.2.2.2.2; omega⟩
section
variable {X : Cx} {W : WX} {a b : Expr} {fa fb : Env → R XV} {p p2 pos pos2 : Pos}
theorem lrg_use {K : PySem.W.Frag} {x y : V} {H : Hp} {Q : VK} (h : rOp K opLRg x y H Q) : ∃ i j, x = .int i ∧ y = .int j ∧ RgOk i j ∧ ∀ q, H q = none → Q (.ref q) (upd H q (.lst (rgV i j))) := by
  obtain ⟨L, d, e, o, o', t, s, m1, m2, ht, q⟩ := h
  cases d <;> cases e <;> first | (cases ht; done) | skip
  rename_i i j
  have h' : (cif (rgOkB i j) (some (true, D.lst (rngL i 1 (j - i).toNat))) none) = some t := ht
  by_cases hr : rgOkB i j
  · rw [cif_pos hr] at h'
    cases h'
    obtain ⟨ws, w⟩ := s
    exact ⟨i, j, w.int m1, w.int m2, rgOk_of hr, newLst_of w (rep_rg _ i rfl) q⟩
  · rw [cif_neg hr] at h'; cases h'
theorem se_lrg2 (hm : X.mg "list" = none) (hm2 : X.mg "range" = none) (ha : SE X W a fa) (hb : SE X W b fb) (hc : X.calm = true := by rfl) (hg : Gl X "list" := by rfl) (hg2 : Gl X "range" := by rfl)
    (n1 : starEach [.Call (.Name "range" p2) [a, b] [] pos2] X.env = (false, eval (.Call (.Name "range" p2) [a, b] [] pos2) X.env) :: starEach [] X.env := by rfl)
    (na : starEach [a, b] X.env = (false, eval a X.env) :: starEach [b] X.env := by rfl) (nb : starEach [b] X.env = (false, eval b X.env) :: starEach [] X.env := by rfl) (hp : (backTo pos2 (starEach [b] X.env)).any (·.1) = false := by rfl) :
    SE X W (.Call (.Name "list" p) [.Call (.Name "range" p2) [a, b] [] pos2] [] pos) (sBin opLRg fa fb) := by
  refine PE.weak (pe_listRg hc hg hm (prg_2 hg2 hm2 ha hb na nb hp) n1) fun σ H Q h => ?_
  have h1 := tOp_of h
  exact tE_mono h1 fun x H1 h2 => tE_mono h2 fun y H2 h3 => lrg_use h3
theorem se_lrg1 (hm : X.mg "list" = none) (hm2 : X.mg "range" = none) (ha : SE X W a fa) (hc : X.calm = true := by rfl) (hg : Gl X "list" := by rfl) (hg2 : Gl X "range" := by rfl)
    (n1 : starEach [.Call (.Name "range" p2) [a] [] pos2] X.env = (false, eval (.Call (.Name "range" p2) [a] [] pos2) X.env) :: starEach [] X.env := by rfl)
    (na : starEach [a] X.env = (false, eval a X.env) :: starEach [] X.env := by rfl) :
    SE X W (.Call (.Name "list" p) [.Call (.Name "range" p2) [a] [] pos2] [] pos) (sUn opLRg1 fa) := by
  refine PE.weak (pe_listRg hc hg hm (prg_1 hg2 hm2 ha na) n1) fun σ H Q h => ?_
  obtain ⟨ρ, hs, s, h⟩ := h
  refine ⟨ρ, hs, s, fin_mono (fin_bind0 h) fun v H1 ⟨x, ρ1, hx, s1, h1⟩ => ?_⟩
  obtain ⟨L, d, o, t, sp, m, ht, q⟩ := op1_ok s1 hx (fun p hp => by simp [hp]) h1
  obtain ⟨i, j, e1, e2, ok, qq⟩ := lrg_use (K := X.K) (x := .int 0) (y := v) (H := H1) (Q := Q) ⟨_, .int 0, d, false, o, t, sp.cInt 0, List.mem_cons_self, List.mem_cons_of_mem _ m, ht, fun w H' s' => q w H' (Sep.drop_mid (A := [(w, t)]) (B := [(V.int 0, (false, D.int 0))]) s')⟩
  cases e1
  exact ⟨j, e2, ok, qq⟩
/-- a tuple that is laid -/
theorem pe_tupRgF {te : L2.St → Hp → (Int → Int → Hp → Prop) → Prop} {e : Expr} (hc : X.calm = true) (hg : Gl X "tuple") (hm : X.mg "tuple" = none) (he : PRg X e te) (na : starEach [e] X.env = (false, eval e X.env) :: starEach [] X.env := by rfl) :
    PE X (.Call (.Name "tuple" p) [e] [] pos) (fun σ H Q => te σ H fun a b H1 => RgOk a b ∧ rNewT (rgV a b) H1 Q) := by
  refine ⟨fun pins s σ H Q I h => ?_⟩
  refine Call_ (ld_blt I hg hm boot_tuple (PyProof.Rows.callWith_type1 (args_cons (thn (he pins s σ H _ I h) fun x s1 ⟨r, a, b, t, u, v, H1, ex, hr, I1, ok, q⟩ => args_nil ?_) na) na))
  subst ex
  obtain ⟨b1, b2, b3, b4, b5⟩ := ok
  refine call_tuple_range (n := (b - a).toNat) (I1.ok.hd hc) hr (small_one b1 b2 b3 b4) (rangeSize_nat a b) b5 fun h' tk acc hk hi => ?_
  have I2 : L2.Inv X pins σ H1 { s1 with heap := h', toks := tk } := I1.kept hk
  have e := q.use (t' := tk) I2 (vals_rg hi) (by rw [rgV_length, sizeLine_eq]; omega)
  rw [Array.toArray_toList] at e
  exact e
theorem trg_use {K : PySem.W.Frag} {x y : V} {H : Hp} {Q : VK} (h : rOp K opTRg x y H Q) : ∃ i j, x = .int i ∧ y = .int j ∧ RgOk i j ∧ rNewT (rgV i j) H Q := by
  obtain ⟨L, d, e, o, o', t, s, m1, m2, ht, q⟩ := h
  cases d <;> cases e <;> first | (cases ht; done) | skip
  rename_i i j
  have h' : (cif (rgOkB i j) (some (false, D.tup (rngL i 1 (j - i).toNat))) none) = some t := ht
  by_cases hr : rgOkB i j
  · rw [cif_pos hr] at h'
    cases h'
    obtain ⟨ws, w⟩ := s
    exact ⟨i, j, w.int m1, w.int m2, rgOk_of hr, rNewT.of w (rep_rg _ i rfl) q⟩
  · rw [cif_neg hr] at h'; cases h'
theorem se_trg1 (hm : X.mg "tuple" = none) (hm2 : X.mg "range" = none) (ha : SE X W a fa) (hc : X.calm = true := by rfl) (hg : Gl X "tuple" := by rfl) (hg2 : Gl X "range" := by rfl)
    (n1 : starEach [.Call (.Name "range" p2) [a] [] pos2] X.env = (false, eval (.Call (.Name "range" p2) [a] [] pos2) X.env) :: starEach [] X.env := by rfl)
    (na : starEach [a] X.env = (false, eval a X.env) :: starEach [] X.env := by rfl) :
    SE X W (.Call (.Name "tuple" p) [.Call (.Name "range" p2) [a] [] pos2] [] pos) (sUn opTRg1 fa) := by
  refine PE.weak (pe_tupRgF hc hg hm (prg_1 hg2 hm2 ha na) n1) fun σ H Q h => ?_
  obtain ⟨ρ, hs, s, h⟩ := h
  refine ⟨ρ, hs, s, fin_mono (fin_bind0 h) fun v H1 ⟨x, ρ1, hx, s1, h1⟩ => ?_⟩
  obtain ⟨L, d, o, t, sp, m, ht, q⟩ := op1_ok s1 hx (fun p hp => by simp [hp]) h1
  obtain ⟨i, j, e1, e2, ok, qq⟩ := trg_use (K := X.K) (x := .int 0) (y := v) (H := H1) (Q := Q) ⟨_, .int 0, d, false, o, t, sp.cInt 0, List.mem_cons_self, List.mem_cons_of_mem _ m, ht, fun w H' s' => q w H' (Sep.drop_mid (A := [(w, t)]) (B := [(V.int 0, (false, D.int 0))]) s')⟩
  cases e1
  exact ⟨j, e2, ok, qq⟩
@[simp] theorem opLRg_s {i j : Int} : opLRg (.int i) (.int j) = cif (rgOkB i j) (some (true, .lst (rngL i 1 (j - i).toNat))) none := rfl
@[simp] theorem opLRg1_s {j : Int} : opLRg1 (.int j) = cif (rgOkB 0 j) (some (true, .lst (rngL 0 1 (j - 0).toNat))) none := rfl
@[simp] theorem opTRg1_s {j : Int} : opTRg1 (.int j) = cif (rgOkB 0 j) (some (false, .tup (rngL 0 1 (j - 0).toNat))) none := rfl
end
end Lz
/-! objects of own classes: attributes read, stored; methods called; made -/
namespace Lz
open PySem PySem.Spec PyProof.Rows L2
/-! ### what a slot or a held thing is -/
def viewT (x : XV) (ρ : Env) : Option T := match x with
  | .v o d => some (o, d)
  | .b i => gt ρ i
theorem Stt.memT {K : PySem.W.Frag} {hs : List VT} {σ : Sg} {H : Hp} {ρ : Env} {x : XV} {v : V} (s : Stt K hs σ H ρ) (h : ResV σ x v) (hm : ∀ p ∈ hld x v, p ∈ hs) {t : T} (e : viewT x ρ = some t) : (v, t) ∈ slotsL σ ρ ++ hs := by
  cases x with
  | v o d =>
    have e' : ((o, d) : T) = t := Option.some.inj e
    subst e'
    exact List.mem_append_right _ (hm _ (List.mem_singleton.mpr rfl))
  | b i =>
    have e' : gt ρ i = some t := e
    exact List.mem_append_left _ (slots_mem h e')
/-! ### attributes by name -/
theorem lk_names {K : PySem.W.Frag} {H : Hp} {av : Addr → Prop} {f : Str} {b : Bool} {d : D} : ∀ {fs : List (Str × V)} {gs : List (Str × Bool × D)}, fs.map (·.1) = gs.map (·.1) → RepAll K H av (fs.map (·.2)) (gs.map (·.2.2)) → gs.lookup f = some (b, d) → ∃ u, fs.lookup f = some u ∧ Rep K H av u d
  | [], [], _, _, h => by cases h
  | [], _ :: _, h, _, _ => by cases h
  | _ :: _, [], h, _, _ => by cases h
  | (g, v) :: fs, (g', b', d') :: gs, hn, r, h => by
    simp only [List.map_cons, List.cons.injEq] at hn r
    obtain ⟨rfl, hn⟩ := hn
    cases r with
    | cons r1 r2 =>
      rw [List.lookup_cons] at h ⊢
      cases hb : (f == g) with
      | true =>
        rw [hb] at h
        cases h
        exact ⟨v, rfl, r1⟩
      | false =>
        rw [hb] at h
        exact lk_names hn r2 h
theorem lk_own {K : PySem.W.Frag} {H : Hp} {av : Addr → Prop} {f : Str} {d : D} : ∀ {fs : List (Str × V)} {gs : List (Str × Bool × D)} {w : List Addr}, OwnFs K H av fs gs w → gs.lookup f = some (false, d) → ∃ u, fs.lookup f = some u ∧ Rep K H av u d
  | _, _, _, .nil, h => by cases h
  | _, _, _, .pure (f := g) r t, h => by
    rw [List.lookup_cons] at h ⊢
    cases hb : (f == g) with
    | true => rw [hb] at h; cases h; exact ⟨_, rfl, r⟩
    | false => rw [hb] at h; exact lk_own t h
  | _, _, _, .lst (f := g) e r t, h => by
    rw [List.lookup_cons] at h ⊢
    cases hb : (f == g) with
    | true => rw [hb] at h; cases h
    | false => rw [hb] at h; exact lk_own t h
theorem lk_none {fs : List (Str × V)} {gs : List (Str × Bool × D)} {f : Str} (hn : fs.map (·.1) = gs.map (·.1)) (h : gs.lookup f = none) : fs.lookup f = none := by
  induction fs generalizing gs with
  | nil => rfl
  | cons p fs ih =>
    cases gs with
    | nil => cases hn
    | cons q gs =>
      simp only [List.map_cons, List.cons.injEq] at hn
      rw [List.lookup_cons] at h ⊢
      rw [hn.1]
      cases hb : (f == q.1) with
      | true => rw [hb] at h; cases h
      | false => rw [hb] at h; exact ih hn.2 h
/-- what an object's attribute gives free -/
def fldV (o : Bool) (gs : List (Str × Bool × D)) (f : Str) : Option D := match gs.lookup f with
  | some (b, d) => if (o && b) = true then none else some d
  | none => none
theorem SepW.ob {K : PySem.W.Frag} {H : Hp} {L : List VT} {ws : List Addr} {v : V} {o : Bool} {c : Str} {gs : List (Str × Bool × D)} (s : SepW K H L ws) (hm0 : (v, (o, D.ob c gs)) ∈ L) :
    ∃ a dx fs, v = .ref a ∧ H a = some (.ins (He.ga K c) dx fs) ∧ fs.map (·.1) = gs.map (·.1) ∧ ∀ f d, fldV o gs f = some d → ∃ u, fs.lookup f = some u ∧ Rep K H (· ∈ ws) u d := by
  obtain ⟨w, q, hw⟩ := s.own.get hm0
  cases q with
  | pure r =>
    cases r with
    | ob n h e m r =>
      subst e
      refine ⟨_, _, _, rfl, h, m, fun f d hf => ?_⟩
      unfold fldV at hf
      cases hl : gs.lookup f with
      | none => rw [hl] at hf; cases hf
      | some p =>
        obtain ⟨b, d'⟩ := p
        rw [hl] at hf
        simp only [Bool.false_and, Bool.false_eq_true, if_false, Option.some.injEq] at hf
        subst hf
        exact lk_names m r hl
  | ob h e r =>
    subst e
    refine ⟨_, _, _, rfl, h, r.names, fun f d hf => ?_⟩
    unfold fldV at hf
    cases hl : gs.lookup f with
    | none => rw [hl] at hf; cases hf
    | some p =>
      obtain ⟨b, d'⟩ := p
      rw [hl] at hf
      cases b with
      | true => simp at hf
      | false =>
        simp at hf
        subst hf
        exact lk_own r hl
/-! ### o.f -/
def fldX (c f : Str) (x : XV) (ρ : Env) : R XV := match viewT x ρ with
  | some (o, .ob c' gs) => if c' = c then (match fldV o gs f with
    | some d => .ok (.v false d) ρ
    | none => .bad) else .bad
  | _ => .bad
def sFld (c f : Str) (fe : Env → R XV) (ρ : Env) : R XV := (fe ρ).bind (fldX c f)
section
variable {X : Cx} {W : WX} {e : Expr} {fe : Env → R XV} {c f : Str} {pos : Pos}
theorem se_fld (hc : Cls X.K (He.ga X.K c)) (hn : NoAttr X.K (He.ga X.K c) f) (he : SE X W e fe) (hb : attributeBase e f X.env (eval e X.env) = eval e X.env := by rfl) : SE X W (.Attribute e f pos) (sFld c f fe) := by
  refine PE.weak (pe_fld he hb) fun σ H Q h => ?_
  obtain ⟨ρ, hs, s, h⟩ := h
  refine ⟨ρ, hs, s, fin_mono (fin_bind0 h) fun v H1 ⟨x, ρ1, hx, s1, h1⟩ => ?_⟩
  unfold fldX at h1
  cases ev : viewT x ρ1 with
  | none => rw [ev] at h1; exact h1.elim
  | some t =>
    obtain ⟨o, d⟩ := t
    rw [ev] at h1
    cases d <;> first | exact h1.elim | skip
    rename_i c' gs
    dsimp only at h1
    by_cases hcc : c' = c
    · rw [if_pos hcc] at h1
      subst hcc
      cases ef : fldV o gs f with
      | none => rw [ef] at h1; exact h1.elim
      | some d =>
        rw [ef] at h1
        have m := s1.memT hx (fun p hp => by simp [hp]) ev
        obtain ⟨ws, w⟩ := s1.sep
        obtain ⟨a, dx, fs, rfl, h2, hnm, hl⟩ := w.ob m
        obtain ⟨u, hu, r⟩ := hl f d ef
        exact ⟨a, _, dx, fs, u, rfl, h2, hc, hn, hu, h1 u H1 trivial (s1.done (t := (false, d)) ⟨ws, w.pure r⟩)⟩
    · rw [if_neg hcc] at h1; exact h1.elim
end
/-! ### calls by a def's promise -/
theorem opF_ok {K : PySem.W.Frag} {W : WX} {hs : List VT} {σ : Sg} {H1 : Hp} {ρ1 : Env} {F : List T → FR} {xs : List XV} {vs : List V} {Q : VK} (s1 : Stt K (hlds xs vs ++ hs) σ H1 ρ1) (hx : ResVs σ xs vs) (h1 : fin K W hs σ (opF F xs ρ1) Q) : spF K F vs H1 Q (WE W σ) := by
  unfold opF at h1
  cases e1 : takeA xs ρ1 with
  | none => rw [e1] at h1; exact h1.elim
  | some q =>
    obtain ⟨ts, ρ2⟩ := q
    rw [e1] at h1
    obtain ⟨ok2, hl, pm⟩ := takeA_ok (hs := hs) s1.ok hx e1
    refine ⟨ts, slotsL σ ρ2 ++ hs, hl, s1.sep.perm pm, ?_⟩
    dsimp only at h1
    cases e2 : F ts with
    | bad => rw [e2] at h1; exact h1.elim
    | exc c =>
      rw [e2] at h1
      exact fun H' s' => h1 H' ⟨ok2, s'⟩
    | al i outs =>
      rw [e2] at h1
      intro v H' hv s'
      have pm2 : ∀ B : List VT, (B ++ (slotsL σ ρ2 ++ hs)).Perm (slotsL σ ρ2 ++ (B ++ hs)) := fun B => by
        rw [← List.append_assoc, ← List.append_assoc]
        exact List.perm_append_comm.append_right _
      have rv : ∀ {xs : List XV} {vs : List V} {i : Nat} {v : V}, ResVs σ xs vs → vs[i]? = some v → ∃ x, xs[i]? = some x ∧ ResV σ x v := by
        intro xs
        induction xs with
        | nil => intro vs i v h e; cases vs with | nil => simp at e | cons _ _ => exact h.elim
        | cons x xs ih =>
          intro vs i v h e
          cases vs with
          | nil => exact h.elim
          | cons u us =>
            cases i with
            | zero =>
              have eu : u = v := by simpa using e
              subst eu
              exact ⟨x, rfl, h.1⟩
            | succ i =>
              obtain ⟨y, h1, h2⟩ := ih (i := i) h.2 (by simpa using e)
              exact ⟨y, by simpa using h1, h2⟩
      obtain ⟨x, ex, hxv⟩ := rv hx hv
      dsimp only at h1
      rw [ex] at h1
      cases x with
      | b j =>
        refine h1 v H' hxv ?_
        exact putA_ok ⟨ok2, s'.perm (pm2 _)⟩ hx
      | v o d =>
        dsimp only at h1
        cases eg : gt outs i with
        | none => rw [eg] at h1; exact h1.elim
        | some t =>
          rw [eg] at h1
          refine h1 v H' trivial ?_
          have hv2 : (vs.map some)[i]? = some (some v) := by rw [List.getElem?_map, hv]; rfl
          have p1 := (slots_take hv2 eg).append_right (slotsL σ ρ2 ++ hs)
          have s3 : Sep K H' ((v, t) :: (slotsL (vs.map some) (pt outs i none) ++ (slotsL σ ρ2 ++ hs))) := s'.perm p1
          have p4 : ((v, t) :: (slotsL (vs.map some) (pt outs i none) ++ (slotsL σ ρ2 ++ hs))).Perm (slotsL σ ρ2 ++ (slotsL (vs.map some) (pt outs i none) ++ ((v, t) :: hs))) :=
            ((pm2 (slotsL (vs.map some) (pt outs i none))).cons (v, t)).trans (List.perm_middle.symm.trans (List.perm_middle.symm.append_left _))
          exact putA_ok ⟨ok2, s3.perm p4⟩ hx
    | ok r outs =>
      rw [e2] at h1
      intro v H' s'
      refine h1 v H' trivial ?_
      have s3 : Stt K (slotsL (vs.map some) outs ++ ((v, r) :: hs)) σ H' ρ2 := by
        refine ⟨ok2, s'.perm ?_⟩
        have p1 : ((v, r) :: (slotsL (vs.map some) outs ++ (slotsL σ ρ2 ++ hs))).Perm ((slotsL (vs.map some) outs ++ (slotsL σ ρ2 ++ hs)) ++ [(v, r)]) := (List.perm_append_comm (l₁ := [(v, r)]))
        refine p1.trans ?_
        have p2 : ((slotsL (vs.map some) outs ++ (slotsL σ ρ2 ++ hs)) ++ [(v, r)]) = (slotsL (vs.map some) outs ++ slotsL σ ρ2) ++ (hs ++ [(v, r)]) := by simp
        rw [p2]
        have p3 : (slotsL σ ρ2 ++ (slotsL (vs.map some) outs ++ ((v, r) :: hs))) = (slotsL σ ρ2 ++ slotsL (vs.map some) outs) ++ ((v, r) :: hs) := by simp
        rw [p3]
        exact List.perm_append_comm.append (List.perm_append_comm (l₁ := hs) (l₂ := [(v, r)]))
      exact putA_ok s3 hx
/-- nothing is let out -/
def nX (F : List T → FR) (ts : List T) : FR := match F ts with
  | .exc _ => .bad
  | r => r
theorem spF_nX {K : PySem.W.Frag} {F : List T → FR} {vs : List V} {H : Hp} {Q : VK} {E E' : XK} (h : spF K (nX F) vs H Q E) : spF K F vs H Q E' := by
  obtain ⟨ts, hs, h1, h2, h3⟩ := h
  refine ⟨ts, hs, h1, h2, ?_⟩
  unfold nX at h3
  cases e : F ts with
  | ok r outs => rw [e] at h3; exact h3
  | al i outs => rw [e] at h3; exact h3
  | exc c => rw [e] at h3; exact h3.elim
  | bad => rw [e] at h3; exact h3
theorem no_pass {X : Cx} : Passes (L2.CX X.prog X.w) X (fun _ _ _ => False) := fun pins σ H s e s' I c => by
  obtain ⟨_, _, _, _, _, _, _, _, _, _, _, _, z⟩ := c
  exact z.elim
/-- a method, by class and name -/
def OkM (P : Program) (w : World) (K : PySem.W.Frag) (mg : Str → Option Value) (base : Heap) (c m : Str) (k : Nat) (F : List T → FR) : Prop :=
  ∃ (f : Addr) (fd : FuncData) (ps : List Str), FnOk P w K mg base (L2.CX P w) k f fd ps (spF K F) ∧ Meth K (He.ga K c) m f ∧ Binds K fd ps []
/-- whether it is an object of the class, without an attribute of the name -/
def isOb (c m : Str) (x : XV) (ρ : Env) : Bool := match viewT x ρ with
  | some (_, .ob c' gs) => decide (c' = c) && (gs.lookup m).isNone
  | _ => false
def sMeth (c m : Str) (F : List T → FR) (fo : Env → R XV) (fa : Env → R (List XV)) (ρ : Env) : R XV := (fo ρ).bind fun x ρ => if isOb c m x ρ = true then (fa ρ).bind fun xs ρ => opF (nX F) (x :: xs) ρ else .bad
section
variable {X : Cx} {W : WX} {o e : Expr} {es : List Expr} {fo : Env → R XV} {fa : Env → R (List XV)} {k : Nat} {F : List T → FR} {c m : Str} {apos pos : Pos}
theorem isOb_ok {K : PySem.W.Frag} {hs : List VT} {σ : Sg} {H : Hp} {ρ : Env} {x : XV} {v : V} (s : Stt K (hld x v ++ hs) σ H ρ) (hx : ResV σ x v) (h : isOb c m x ρ = true) : ∃ a dx fs, v = .ref a ∧ H a = some (.ins (He.ga K c) dx fs) ∧ fs.lookup m = none := by
  unfold isOb at h
  cases ev : viewT x ρ with
  | none => rw [ev] at h; cases h
  | some t =>
    obtain ⟨o, d⟩ := t
    rw [ev] at h
    cases d <;> first | (cases h; done) | skip
    rename_i c' gs
    dsimp only at h
    rw [Bool.and_eq_true] at h
    have hcc := of_decide_eq_true h.1
    subst hcc
    have mm := s.memT hx (fun p hp => by simp [hp]) ev
    obtain ⟨ws, w⟩ := s.sep
    obtain ⟨a, dx, fs, rfl, h2, hnm, _⟩ := w.ob mm
    exact ⟨a, dx, fs, rfl, h2, lk_none hnm (Option.isNone_iff_eq_none.mp h.2)⟩
theorem tMeth_of {σ : Sg} {H : Hp} {Q : VK} (h : tE X.K W (sMeth c m F fo fa) σ H Q) : tMeth (He.ga X.K c) m (spF X.K F) [] (fun _ _ _ => False) (tE X.K W fo) (tA X.K W fa) σ H Q := by
  obtain ⟨ρ, hs, s, h⟩ := h
  refine ⟨ρ, hs, s, fin_mono (fin_bind0 h) fun v H1 ⟨x, ρ1, hx, s1, h1⟩ => ?_⟩
  cases ho : isOb c m x ρ1 with
  | false => rw [ho] at h1; exact h1.elim
  | true =>
    rw [ho, if_pos rfl] at h1
    obtain ⟨a, dx, fs, rfl, h2, h3⟩ := isOb_ok s1 hx ho
    refine ⟨a, dx, fs, rfl, h2, h3, ρ1, _, s1, finA_mono (fin_bindA (hld x (.ref a)) h1) fun vs H2 ⟨xs, ρ2, hxs, s2, h4⟩ => ?_⟩
    have s3 : Stt X.K (hlds (x :: xs) (.ref a :: vs) ++ hs) σ H2 ρ2 := by
      refine s2.perm ?_
      show (hlds xs vs ++ (hld x (.ref a) ++ hs)).Perm ((hld x (.ref a) ++ hlds xs vs) ++ hs)
      rw [← List.append_assoc]
      exact List.perm_append_comm.append_right _
    have q := opF_ok (W := W) (xs := x :: xs) (vs := .ref a :: vs) s3 ⟨hx, hxs⟩ h4
    rw [List.append_nil]
    exact spF_nX q
theorem se_meth {pl : Sem Bool} (h : OkM X.prog X.w X.K X.mg X.base c m k F) (hc : Cls X.K (He.ga X.K c)) (hr : Room k X.A) (ho : SE X W o fo) (ha : SA X W (e :: es) fa)
    (hst : starEach (e :: es) X.env = (false, eval e X.env) :: starEach es X.env := by rfl) (hpl : (backTo pos (starEach es X.env)).any (·.1) = false := by rfl)
    (ht : eval (.Call (.Attribute o m apos) (e :: es) [] pos) X.env = (do
      let ov ← eval o X.env
      standAt apos.atName
      let (f, first) ← holding [ov] (getMethod ov m pl)
      callWith pos f first (backTo pos (starEach (e :: es) X.env)) (backToKw pos (keywordEach [] X.env))) := by rfl) :
    SE X W (.Call (.Attribute o m apos) (e :: es) [] pos) (sMeth c m F fo fa) := by
  obtain ⟨f, fd, ps, h1, h2, h3⟩ := h
  exact PE.weak (pe_meth (pl := pl) ho hc h2 h1 hr h3 .nil no_pass ha hst hpl ht) fun _ _ _ => tMeth_of
theorem tA_nil {K : PySem.W.Frag} {σ : Sg} {H : Hp} {Q : List V → Hp → Prop} (h : tA K W sNil σ H Q) : tNil σ H Q := by
  obtain ⟨ρ, hs, s, h⟩ := h
  exact h [] H trivial s
theorem se_meth0 {pl : Sem Bool} (h : OkM X.prog X.w X.K X.mg X.base c m k F) (hc : Cls X.K (He.ga X.K c)) (hr : Room k X.A) (ho : SE X W o fo)
    (ht : eval (.Call (.Attribute o m apos) [] [] pos) X.env = (do
      let ov ← eval o X.env
      standAt apos.atName
      let (f, first) ← holding [ov] (getMethod ov m pl)
      callWith pos f first (backTo pos (starEach [] X.env)) (backToKw pos (keywordEach [] X.env))) := by rfl) :
    SE X W (.Call (.Attribute o m apos) [] [] pos) (sMeth c m F fo sNil) := by
  obtain ⟨f, fd, ps, h1, h2, h3⟩ := h
  refine PE.weak (pe_meth0 (pl := pl) ho hc h2 h1 hr h3 .nil no_pass ht) fun σ H Q hq => ?_
  have q := tMeth_of (m := m) hq
  obtain ⟨ρ, hs, s, q⟩ := q
  exact ⟨ρ, hs, s, fin_mono q fun v H1 ⟨a, dx, fs, e1, e2, e3, q2⟩ => ⟨a, dx, fs, e1, e2, e3, tA_nil q2⟩⟩
/-! ### C(..) -/
def OkC (P : Program) (w : World) (K : PySem.W.Frag) (mg : Str → Option Value) (base : Heap) (c : Str) (k : Nat) (F : List T → FR) : Prop :=
  ∃ (f : Addr) (fd : FuncData) (ps : List Str), FnOk P w K mg base (L2.CX P w) k f fd ps (spF K F) ∧ Mk K (He.ga K c) f ∧ Binds K fd ps [] ∧ mg c = some (.ref (He.ga K c))
def opMk (c : Str) (F : List T → FR) (xs : List XV) (ρ : Env) : R XV := match takeA xs ρ with
  | none => .bad
  | some p => (match F ((true, .ob c []) :: p.1) with
    | .ok (false, .non) (some t :: outs) => .ok (.v t.1 t.2) (putA xs outs p.2)
    | _ => .bad)
def sMake (c : Str) (F : List T → FR) (fa : Env → R (List XV)) (ρ : Env) : R XV := (fa ρ).bind (opMk c F)
theorem SepW.newOb {K : PySem.W.Frag} {H : Hp} {L : List VT} {ws : List Addr} {x dx : Addr} {c : Str} (s : SepW K H L ws) (h : H x = none) (h2 : H dx = none) (ne : dx ≠ x) : SepW K (upd (upd H dx (.own x)) x (.ins (He.ga K c) dx [])) ((.ref x, (true, .ob c [])) :: L) (x :: ws) := by
  have s1 := s.laid (o := .own x) h2
  have hx : upd H dx (.own x) x = none := by rw [upd_ne (Ne.symm ne)]; exact h
  exact ⟨.cons (w := [x]) (.ob upd_same rfl .nil) (s1.own.mono (Kp.laidO hx) fun b hb => upd_ne fun e => s1.fresh hx (e ▸ hb)), List.nodup_cons.mpr ⟨s1.fresh hx, s1.nd⟩⟩
theorem opMk_ok {K : PySem.W.Frag} {hs : List VT} {σ : Sg} {H1 : Hp} {ρ1 : Env} {xs : List XV} {vs : List V} {Q : VK} {x dx : Addr} (s1 : Stt K (hlds xs vs ++ hs) σ H1 ρ1) (hx : ResVs σ xs vs) (h1 : fin K W hs σ (opMk c F xs ρ1) Q)
    (n1 : H1 x = none) (n2 : H1 dx = none) (ne : dx ≠ x) : spF K F (.ref x :: vs) (upd (upd H1 dx (.own x)) x (.ins (He.ga K c) dx [])) (fun v H2 => v = .non ∧ Q (.ref x) H2) (fun _ _ _ => False) := by
  unfold opMk at h1
  cases e1 : takeA xs ρ1 with
  | none => rw [e1] at h1; exact h1.elim
  | some q =>
    obtain ⟨ts, ρ2⟩ := q
    rw [e1] at h1
    obtain ⟨ok2, hl, pm⟩ := takeA_ok (hs := hs) s1.ok hx e1
    obtain ⟨ws, w⟩ := s1.sep.perm pm
    refine ⟨(true, .ob c []) :: ts, slotsL σ ρ2 ++ hs, by simp [hl], ⟨_, w.newOb n1 n2 ne⟩, ?_⟩
    dsimp only at h1
    cases e2 : F ((true, .ob c []) :: ts) with
    | bad => rw [e2] at h1; exact h1.elim
    | exc c => rw [e2] at h1; exact h1.elim
    | al i outs => rw [e2] at h1; exact h1.elim
    | ok r outs =>
      rw [e2] at h1
      obtain ⟨b, d⟩ := r
      cases b with
      | true => exact h1.elim
      | false =>
        cases d <;> first | exact h1.elim | skip
        cases outs with
        | nil => exact h1.elim
        | cons u outs =>
          cases u with
          | none => exact h1.elim
          | some t =>
            dsimp only at h1
            intro v H' s'
            obtain ⟨ws2, w2⟩ := s'
            have ev := w2.non List.mem_cons_self
            refine ⟨ev, h1 (.ref x) H' trivial ?_⟩
            have s3 : Sep K H' ((V.ref x, t) :: (slotsL (vs.map some) outs ++ (slotsL σ ρ2 ++ hs))) := Sep.drop ⟨ws2, w2⟩
            have s4 : Stt K (slotsL (vs.map some) outs ++ (hld (.v t.1 t.2) (.ref x) ++ hs)) σ H' ρ2 := by
              refine ⟨ok2, s3.perm ?_⟩
              have p1 : (slotsL σ ρ2 ++ (slotsL (vs.map some) outs ++ (hld (.v t.1 t.2) (.ref x) ++ hs))) = (slotsL σ ρ2 ++ slotsL (vs.map some) outs) ++ ((V.ref x, t) :: hs) := by simp [hld]
              rw [p1]
              refine List.Perm.trans ?_ List.perm_middle.symm
              refine List.Perm.cons _ ?_
              rw [← List.append_assoc]
              exact List.perm_append_comm.append_right _
            exact putA_ok s4 hx
theorem se_make {p : Pos} (h : OkC X.prog X.w X.K X.mg X.base c k F) (hr : Room (k + 1) X.A) (ha : SA X W (e :: es) fa) (hg : Gl X c := by rfl) (hdb : (c == ("__debug__" : Str)) = false := by decide)
    (he : starEach (e :: es) X.env = (false, eval e X.env) :: starEach es X.env := by rfl) (hpl : (backTo pos (starEach es X.env)).any (·.1) = false := by rfl) :
    SE X W (.Call (.Name c p) (e :: es) [] pos) (sMake c F fa) := by
  obtain ⟨f, fd, ps, h1, h2, h3, h4⟩ := h
  refine PE.weak (pe_make h2 h1 hr hg h4 h3 .nil no_pass ha hdb he hpl) fun σ H Q hq => ?_
  obtain ⟨ρ, hs, s, hq⟩ := hq
  refine ⟨ρ, hs, s, finA_mono (fin_bindA0 hq) fun vs H1 ⟨xs, ρ1, hx, s1, q1⟩ => fun x dx n1 n2 ne => ?_⟩
  rw [List.append_nil]
  exact opMk_ok s1 hx q1 n1 n2 ne
end
end Lz
/-! o.f = e -/
namespace Lz
open PySem PySem.Spec PyProof.Rows L2
def putO (f : Str) (x : Bool × D) : List (Str × Bool × D) → List (Str × Bool × D)
  | [] => [(f, x)]
  | (g, y) :: r => if g = f then (g, x) :: r else (g, y) :: putO f x r
section
variable {K : PySem.W.Frag} {H : Hp} {av : Addr → Prop}
theorem OwnFs.put {f : Str} {y : V} {d : D} (q : Rep K H av y d) : ∀ {fs : List (Str × V)} {gs : List (Str × Bool × D)} {w : List Addr}, OwnFs K H av fs gs w → ∃ w', OwnFs K H av (putF f y fs) (putO f (false, d) gs) w' ∧ w'.Sublist w
  | _, _, _, .nil => ⟨[], .pure q .nil, List.Sublist.refl _⟩
  | _, _, _, .pure (f := g) (fs := fs) (gs := gs) (w := w) r t => by
    unfold putF putO
    by_cases h : g = f
    · rw [if_pos h, if_pos h]
      exact ⟨w, .pure q t, List.Sublist.refl _⟩
    · rw [if_neg h, if_neg h]
      obtain ⟨w', h1, h2⟩ := OwnFs.put q t
      exact ⟨w', .pure r h1, h2⟩
  | _, _, _, .lst (f := g) (b := b) (w := w) e r t => by
    unfold putF putO
    by_cases h : g = f
    · rw [if_pos h, if_pos h]
      exact ⟨w, .pure q t, List.sublist_cons_self _ _⟩
    · rw [if_neg h, if_neg h]
      obtain ⟨w', h1, h2⟩ := OwnFs.put q t
      exact ⟨b :: w', .lst e r h1, h2.cons_cons b⟩
theorem OwnFs.putL {f : Str} {b : Addr} {vs : List V} {ds : List D} (q : H b = some (.lst vs)) (qr : RepAll K H av vs ds) : ∀ {fs : List (Str × V)} {gs : List (Str × Bool × D)} {w : List Addr}, OwnFs K H av fs gs w → ∃ w' w0, OwnFs K H av (putF f (.ref b) fs) (putO f (true, .lst ds) gs) w' ∧ w0.Sublist w ∧ w'.Perm (b :: w0)
  | _, _, _, .nil => ⟨[b], [], .lst q qr .nil, List.Sublist.refl _, .refl _⟩
  | _, _, _, .pure (f := g) (fs := fs) (gs := gs) (w := w) r t => by
    unfold putF putO
    by_cases h : g = f
    · rw [if_pos h, if_pos h]
      exact ⟨b :: w, w, .lst q qr t, List.Sublist.refl _, .refl _⟩
    · rw [if_neg h, if_neg h]
      obtain ⟨w', w0, h1, h2, h3⟩ := OwnFs.putL q qr t
      exact ⟨w', w0, .pure r h1, h2, h3⟩
  | _, _, _, .lst (f := g) (b := b') (w := w) e r t => by
    unfold putF putO
    by_cases h : g = f
    · rw [if_pos h, if_pos h]
      exact ⟨b :: w, w, .lst q qr t, List.sublist_cons_self _ _, .refl _⟩
    · rw [if_neg h, if_neg h]
      obtain ⟨w', w0, h1, h2, h3⟩ := OwnFs.putL q qr t
      exact ⟨b' :: w', b' :: w0, .lst e r h1, h2.cons_cons b', (h3.cons b').trans (.swap _ _ _)⟩
/-- a pure attribute is stored -/
theorem SepW.chgOb {L : List VT} {ws : List Addr} {v : V} {c f : Str} {gs : List (Str × Bool × D)} {y : V} {d : D} (s : SepW K H ((v, (true, .ob c gs)) :: L) ws) (r : Rep K H (· ∈ ws) y d) :
    ∃ a dx fs, v = .ref a ∧ H a = some (.ins (He.ga K c) dx fs) ∧ fs.length = gs.length ∧ Sep K (upd H a (.ins (He.ga K c) dx (putF f y fs))) ((.ref a, (true, .ob c (putO f (false, d) gs))) :: L) := by
  obtain ⟨h, n⟩ := s
  cases h with
  | @cons _ _ _ w ws' h t =>
    cases h with
    | @ob a C dx _ fs _ w1 h e o =>
      subst e
      have hnm := congrArg List.length o.names
      rw [List.length_map, List.length_map] at hnm
      refine ⟨a, dx, fs, rfl, h, hnm, ?_⟩
      obtain ⟨w', o', sb⟩ := o.put (f := f) r
      have n1 : a ∉ w1 ++ ws' := (List.nodup_cons.mp n).1
      have sub : ((a :: w') ++ ws').Sublist ((a :: w1) ++ ws') := List.Sublist.append_right (sb.cons_cons a) ws'
      have k : Kp H (upd H a (.ins (He.ga K c) dx (putF f y fs))) (· ∈ (a :: w1) ++ ws') (· ∈ (a :: w') ++ ws') :=
        ⟨fun b o q nb => by rw [upd_ne (fun e => nb (by rw [e]; simp))]; exact q, fun b q => .inl (sub.subset q)⟩
      exact ⟨_, .cons (.ob upd_same rfl (o'.mono k fun b hb => upd_ne fun e => n1 (List.mem_append_left _ (sb.subset (e ▸ hb))))) (t.mono k fun b hb => upd_ne fun e => n1 (List.mem_append_right _ (e ▸ hb))), n.sublist sub⟩
/-- an owned list is stored -/
theorem SepW.chgObL {L : List VT} {ws : List Addr} {v y : V} {c f : Str} {gs : List (Str × Bool × D)} {ds : List D} (s : SepW K H ((y, (true, .lst ds)) :: (v, (true, .ob c gs)) :: L) ws) :
    ∃ a dx fs, v = .ref a ∧ H a = some (.ins (He.ga K c) dx fs) ∧ fs.length = gs.length ∧ Sep K (upd H a (.ins (He.ga K c) dx (putF f y fs))) ((.ref a, (true, .ob c (putO f (true, .lst ds) gs))) :: L) := by
  obtain ⟨h, n⟩ := s
  cases h with
  | @cons _ _ _ wy wsy hy t0 =>
    cases hy with
    | @lst b vs _ hb rb =>
      cases t0 with
      | @cons _ _ _ w ws' h t =>
        cases h with
        | @ob a C dx _ fs _ w1 h e o =>
          subst e
          have hnm := congrArg List.length o.names
          rw [List.length_map, List.length_map] at hnm
          refine ⟨a, dx, fs, rfl, h, hnm, ?_⟩
          obtain ⟨w', w0, o', sb, pm⟩ := o.putL (f := f) hb rb
          have n' : (b :: a :: (w1 ++ ws')).Nodup := n
          have nb : b ∉ a :: (w1 ++ ws') := (List.nodup_cons.mp n').1
          have n2 : (a :: (w1 ++ ws')).Nodup := (List.nodup_cons.mp n').2
          have n1 : a ∉ w1 ++ ws' := (List.nodup_cons.mp n2).1
          have ab : b ≠ a := fun e => nb (by rw [e]; simp)
          have mem' : ∀ x, x ∈ w' → x = b ∨ x ∈ w1 := fun x hx => by
            rcases List.mem_cons.mp (pm.subset hx) with h | h
            · exact .inl h
            · exact .inr (sb.subset h)
          have k : Kp H (upd H a (.ins (He.ga K c) dx (putF f (.ref b) fs))) (· ∈ [b] ++ ((a :: w1) ++ ws')) (· ∈ (a :: w') ++ ws') :=
            ⟨fun x o q nb => by rw [upd_ne (fun e => nb (by rw [e]; simp))]; exact q, fun x q => .inl (by
              rcases List.mem_append.mp q with q | q
              · rcases List.mem_cons.mp q with rfl | q
                · simp
                · rcases mem' x q with rfl | q
                  · simp
                  · simp [q]
              · simp [q])⟩
          have sub : ((b :: w0) ++ ws').Sublist ((b :: w1) ++ ws') := List.Sublist.append_right (sb.cons_cons b) ws'
          have nd1 : ((b :: w1) ++ ws').Nodup := by
            have : ((b :: w1) ++ ws').Sublist (b :: a :: (w1 ++ ws')) := List.Sublist.cons_cons b (List.sublist_cons_self a _)
            exact n'.sublist this
          have nd2 : ((b :: w0) ++ ws').Nodup := nd1.sublist sub
          have nd3 : (w' ++ ws').Nodup := ((pm.append_right ws').nodup_iff).mpr nd2
          have na : a ∉ w' ++ ws' := fun q => by
            rcases List.mem_append.mp q with q | q
            · rcases mem' a q with q | q
              · exact ab q.symm
              · exact n1 (List.mem_append_left _ q)
            · exact n1 (List.mem_append_right _ q)
          exact ⟨_, .cons (.ob upd_same rfl (o'.mono k fun x hx => upd_ne fun e => na (List.mem_append_left _ (e ▸ hx)))) (t.mono k fun x hx => upd_ne fun e => na (List.mem_append_right _ (e ▸ hx))), List.nodup_cons.mpr ⟨na, nd3⟩⟩
end
/-! ### the statement -/
def setFld (i : Nat) (c f : Str) (own : Bool) (y : XV) (ρ : Env) : R Fl := match own with
  | false => (frz y ρ).bind fun d ρ => (match gt ρ i with
    | some (true, .ob c' gs) => if c' = c ∧ gs.length < 1000 then .ok .nx (pt ρ i (some (true, .ob c (putO f (false, d) gs)))) else .bad
    | _ => .bad)
  | true => (match y, gt ρ i with
    | .v true (.lst ds), some (true, .ob c' gs) => if c' = c ∧ gs.length < 1000 then .ok .nx (pt ρ i (some (true, .ob c (putO f (true, .lst ds) gs)))) else .bad
    | _, _ => .bad)
def xFset (i : Nat) (c f : Str) (own : Bool) (fe : Env → R XV) (ρ : Env) : R Fl := (fe ρ).bind (setFld i c f own)
section
variable {X : Cx} {W : WX} {pin : List Nat} {value : Expr} {fe : Env → R XV} {c f x : Str} {i : Nat} {p pos pos' : Pos}
theorem ss_fset {own : Bool} (hc : Cls X.K (He.ga X.K c)) (hn : NoAttr X.K (He.ga X.K c) f) (he : SE X W value fe) (hN : X.N[i]? = some x := by rfl) (hv : Vis X.env.scope x := by first | exact Or.inl rfl | exact Or.inr (Or.inl rfl) | exact Or.inr (Or.inr rfl))
    (hs : swapsWith value (some (.Attribute (.Name x p) f pos')) pos.line X.env = pure false := by rfl) (hd : (x == ("__debug__" : Str)) = false := by decide) (hcd : (x == ("__classdict__" : Str)) = false := by decide) :
    SS X W pin (.Assign [.Attribute (.Name x p) f pos'] value pos) (xFset i c f own fe) := by
  refine PS.weak (ps_fld (pe_var hN hv hd hcd) he hs) fun E σ H h => ?_
  obtain ⟨ρ, hs', σ0, s, hp, h⟩ := h
  refine ⟨ρ, hs', s, fin_mono (finS_bind h hp) fun u H1 ⟨y, ρ1, hy, s1, h1⟩ => ?_⟩
  unfold setFld at h1
  cases own with
  | false =>
    dsimp only at h1
    cases ez : frz y ρ1 with
    | bad => rw [ez] at h1; exact h1.elim
    | exc c ρ2 => exact (frz_exc ez).elim
    | ok d ρ2 =>
      rw [ez] at h1
      have h2 : finS X.K W hs' pin σ0 (match gt ρ2 i with
        | some (true, .ob c' gs) => if c' = c ∧ gs.length < 1000 then .ok .nx (pt ρ2 i (some (true, .ob c (putO f (false, d) gs)))) else .bad
        | _ => .bad) E := h1
      have s2 := frz_ok s1 hy ez
      cases eg : gt ρ2 i with
      | none => rw [eg] at h2; exact h2.elim
      | some t =>
        obtain ⟨o, dd⟩ := t
        rw [eg] at h2
        cases o with
        | false => exact h2.elim
        | true =>
          cases dd <;> first | exact h2.elim | skip
          rename_i c' gs
          dsimp only at h2
          by_cases hcc : c' = c ∧ gs.length < 1000
          · rw [if_pos hcc] at h2
            obtain ⟨rfl, hl⟩ := hcc
            obtain ⟨v, hv2⟩ := s2.ok.slot eg
            have hi : i < ρ2.length := gt_lt eg
            have p1 := (slots_take hv2 eg).append_right ((u, (false, d)) :: hs')
            have p2 : ((v, (true, D.ob c' gs)) :: (slotsL σ (pt ρ2 i none) ++ (u, (false, d)) :: hs')).Perm ((v, (true, D.ob c' gs)) :: (u, (false, d)) :: (slotsL σ (pt ρ2 i none) ++ hs')) := List.Perm.cons _ List.perm_middle
            obtain ⟨ws, w⟩ := (s2.sep.perm p1).perm p2
            have r : Rep X.K H1 (· ∈ ws) u d := w.rep (List.mem_cons_of_mem _ List.mem_cons_self)
            obtain ⟨a, dx, fs, rfl, ha, hlen, q⟩ := w.chgOb (f := f) r
            refine ⟨_, hv2, a, _, dx, fs, rfl, ha, hc, hn, by rw [hlen]; exact hl, ?_⟩
            refine h2 σ _ ⟨s2.ok.keep i hv2, ?_⟩ hp
            have q2 := Sep.drop_mid (A := [(V.ref a, (true, D.ob c' (putO f (false, d) gs)))]) (B := [(u, (false, d))]) q
            exact q2.perm ((slots_keep hv2 hi).append_right hs').symm
          · rw [if_neg hcc] at h2; exact h2.elim
  | true =>
    dsimp only at h1
    cases y with
    | b j => exact h1.elim
    | v o dy =>
      cases o with
      | false => exact h1.elim
      | true =>
        cases dy <;> first | exact h1.elim | skip
        rename_i ds
        cases eg : gt ρ1 i with
        | none => rw [eg] at h1; exact h1.elim
        | some t =>
          obtain ⟨o, dd⟩ := t
          rw [eg] at h1
          cases o with
          | false => exact h1.elim
          | true =>
            cases dd <;> first | exact h1.elim | skip
            rename_i c' gs
            dsimp only at h1
            by_cases hcc : c' = c ∧ gs.length < 1000
            · rw [if_pos hcc] at h1
              obtain ⟨rfl, hl⟩ := hcc
              obtain ⟨v, hv2⟩ := s1.ok.slot eg
              have hi : i < ρ1.length := gt_lt eg
              have p1 := (slots_take hv2 eg).append_right ((u, (true, D.lst ds)) :: hs')
              have p2 : ((v, (true, D.ob c' gs)) :: (slotsL σ (pt ρ1 i none) ++ (u, (true, D.lst ds)) :: hs')).Perm ((u, (true, D.lst ds)) :: (v, (true, D.ob c' gs)) :: (slotsL σ (pt ρ1 i none) ++ hs')) := (List.Perm.cons _ List.perm_middle).trans (.swap _ _ _)
              obtain ⟨ws, w⟩ := (s1.sep.perm p1).perm p2
              obtain ⟨a, dx, fs, rfl, ha, hlen, q⟩ := w.chgObL (f := f)
              refine ⟨_, hv2, a, _, dx, fs, rfl, ha, hc, hn, by rw [hlen]; exact hl, ?_⟩
              exact h1 σ _ ⟨s1.ok.keep i hv2, q.perm ((slots_keep hv2 hi).append_right hs').symm⟩ hp
            · rw [if_neg hcc] at h1; exact h1.elim
end
/-! evaluation -/
section
variable {ρ : Env} {c f m : Str} {gs : List (Str × Bool × D)} {o : Bool} {i : Nat} {d : D}
def viewTK : Option T → Option T := id
@[simp] theorem viewT_v : viewT (.v o d) ρ = some (o, d) := rfl
@[simp] theorem viewT_b : viewT (.b i) ρ = gt ρ i := rfl
def fldK (c f : Str) (ρ : Env) : Option T → R XV
  | some (o, .ob c' gs) => if c' = c then (match fldV o gs f with
    | some d => .ok (.v false d) ρ
    | none => .bad) else .bad
  | _ => .bad
def fldK2 (ρ : Env) : Option D → R XV
  | some d => .ok (.v false d) ρ
  | none => .bad
@[simp] theorem fldK2_s : fldK2 ρ (some d) = .ok (.v false d) ρ := rfl
@[simp] theorem fldK_s : fldK c f ρ (some (o, .ob c gs)) = fldK2 ρ (fldV o gs f) := by
  unfold fldK fldK2
  dsimp only
  rw [if_pos rfl]
  try (cases fldV o gs f <;> rfl)
@[simp] theorem fldX_ev {x : XV} : fldX c f x ρ = fldK c f ρ (viewT x ρ) := by
  unfold fldX fldK
  try (cases viewT x ρ with
  | none => rfl
  | some t => obtain ⟨o, d⟩ := t; cases d <;> rfl)
@[simp] theorem sFld_ev {fe : Env → R XV} : sFld c f fe ρ = (fe ρ).bind (fldX c f) := rfl
@[simp] theorem isOb_v {c' : Str} : isOb c m (.v o (.ob c' gs)) ρ = (decide (c' = c) && (gs.lookup m).isNone) := rfl
def isObK (c m : Str) : Option T → Bool
  | some (_, .ob c' gs) => decide (c' = c) && (gs.lookup m).isNone
  | _ => false
@[simp] theorem isObK_s {c' : Str} : isObK c m (some (o, .ob c' gs)) = (decide (c' = c) && (gs.lookup m).isNone) := rfl
@[simp] theorem isOb_b : isOb c m (.b i) ρ = isObK c m (gt ρ i) := by
  show isOb c m (.b i) ρ = _
  unfold isOb isObK
  rw [viewT_b]
  try (cases gt ρ i with
  | none => rfl
  | some t => obtain ⟨o, d⟩ := t; cases d <;> rfl)
def methK (F : List T → FR) (x : XV) (xs : List XV) (ρ : Env) : R XV := opF (nX F) (x :: xs) ρ
@[simp] theorem methK_ev {F : List T → FR} {x : XV} {xs : List XV} : methK F x xs ρ = opF (nX F) (x :: xs) ρ := rfl
def methK2 (c m : Str) (F : List T → FR) (fa : Env → R (List XV)) (x : XV) (ρ : Env) : R XV := if isOb c m x ρ = true then (fa ρ).bind (methK F x) else .bad
@[simp] theorem methK2_ev {F : List T → FR} {fa : Env → R (List XV)} {x : XV} : methK2 c m F fa x ρ = if isOb c m x ρ = true then (fa ρ).bind (methK F x) else .bad := rfl
@[simp] theorem sMeth_ev {F : List T → FR} {fo : Env → R XV} {fa : Env → R (List XV)} : sMeth c m F fo fa ρ = (fo ρ).bind (methK2 c m F fa) := rfl
def nXK : FR → FR
  | .exc _ => .bad
  | r => r
@[simp] theorem nXK_ok {r : T} {outs : Env} : nXK (.ok r outs) = .ok r outs := rfl
@[simp] theorem nXK_al {outs : Env} : nXK (.al i outs) = .al i outs := rfl
@[simp] theorem nX_ev {F : List T → FR} {ts : List T} : nX F ts = nXK (F ts) := by
  unfold nX nXK
  try (cases F ts <;> rfl)
@[simp] theorem sMake_ev {F : List T → FR} {fa : Env → R (List XV)} : sMake c F fa ρ = (fa ρ).bind (opMk c F) := rfl
def mkK2 (xs : List XV) (ρ : Env) : FR → R XV
  | .ok (false, .non) (some t :: outs) => .ok (.v t.1 t.2) (putA xs outs ρ)
  | _ => .bad
@[simp] theorem mkK2_s {xs : List XV} {t : T} {outs : Env} : mkK2 xs ρ (.ok (false, .non) (some t :: outs)) = .ok (.v t.1 t.2) (putA xs outs ρ) := rfl
def mkK (c : Str) (F : List T → FR) (xs : List XV) : Option (List T × Env) → R XV
  | none => .bad
  | some p => mkK2 xs p.2 (F ((true, .ob c []) :: p.1))
@[simp] theorem mkK_s {F : List T → FR} {xs : List XV} {ts : List T} {ρ' : Env} : mkK c F xs (some (ts, ρ')) = mkK2 xs ρ' (F ((true, .ob c []) :: ts)) := rfl
@[simp] theorem opMk_ev {F : List T → FR} {xs : List XV} : opMk c F xs ρ = mkK c F xs (takeA xs ρ) := by
  unfold opMk mkK
  cases takeA xs ρ with
  | none => rfl
  | some p =>
    dsimp only
    unfold mkK2
    rfl
@[simp] theorem xFset_ev {own : Bool} {fe : Env → R XV} : xFset i c f own fe ρ = (fe ρ).bind (setFld i c f own) := rfl
def setK2 (i : Nat) (c f : Str) (x : Bool × D) (ρ : Env) : Option T → R Fl
  | some (true, .ob c' gs) => if c' = c ∧ gs.length < 1000 then .ok .nx (pt ρ i (some (true, .ob c (putO f x gs)))) else .bad
  | _ => .bad
@[simp] theorem setK2_s {x : Bool × D} {c' : Str} : setK2 i c f x ρ (some (true, .ob c' gs)) = if c' = c ∧ gs.length < 1000 then .ok .nx (pt ρ i (some (true, .ob c (putO f x gs)))) else .bad := rfl
def setK (i : Nat) (c f : Str) (d : D) (ρ : Env) : R Fl := setK2 i c f (false, d) ρ (gt ρ i)
@[simp] theorem setK_ev : setK i c f d ρ = setK2 i c f (false, d) ρ (gt ρ i) := rfl
@[simp] theorem setFld_f {y : XV} : setFld i c f false y ρ = (frz y ρ).bind (setK i c f) := by
  unfold setFld
  dsimp only
  congr 1
  try funext d ρ
  try (cases gt ρ i with
  | none => rfl
  | some t => obtain ⟨o, d⟩ := t; cases o <;> cases d <;> rfl)
@[simp] theorem setFld_t {ds : List D} : setFld i c f true (.v true (.lst ds)) ρ = setK2 i c f (true, .lst ds) ρ (gt ρ i) := by
  unfold setFld setK2
  dsimp only
  try (cases gt ρ i with
  | none => rfl
  | some t => obtain ⟨o, d⟩ := t; cases o <;> cases d <;> rfl)
@[simp] theorem putO_n {x : Bool × D} : putO f x [] = [(f, x)] := rfl
@[simp] theorem putO_c {g : Str} {x y : Bool × D} : putO f x ((g, y) :: gs) = if g = f then (g, x) :: gs else (g, y) :: putO f x gs := rfl
end
/-- what is never reached -/
def F_wall0 : List T → FR := fun _ => .bad
end Lz
/-! dicts whose keys are tuples -/
namespace Lz
open PySem PySem.Spec PyProof.Rows L2
/-! ### the keys in the heap -/
section
variable {X : Cx} {pins : List (Addr × Obj)} {σ : Sg} {H : Hp} {s : Shared} {av : Addr → Prop}
mutual
theorem rep_nk (I : L2.Inv X pins σ H s) : ∀ {v : V} {d : D} {k : NestedKey} {u : Value}, Rep X.K H av v d → nkD d = some k → RelV v u → NestedIs s.heap k u
  | _, _, _, _, .non, h, _ => by rw [nkD] at h; cases h; all_goals exact nofun
  | _, _, _, _, .bl b, h, r => by
    rw [nkD] at h
    cases h
    have e : _ = Value.bool b := r
    subst e
    exact .bool rfl
  | _, _, _, _, .int i, h, r => by
    rw [nkD] at h
    cases h
    obtain ⟨t, rfl⟩ := r
    exact .int i t
  | _, _, _, _, .str x, h, _ => by rw [nkD] at h; cases h; all_goals exact nofun
  | _, _, _, _, .tup (a := a) (vs := vs) (ds := ds) n h1 e rr, h, r => by
    rw [nkD] at h
    have eu : _ = Value.ref a := r
    subst eu
    cases e2 : nkDs ds with
    | none => rw [e2] at h; cases h
    | some ks =>
      rw [e2] at h
      cases h
      obtain ⟨_, _, its, rv, ob, q1, q2, m, q3⟩ := I.hok a _ h1
      exact .tup q1 q2 q3 (reps_nk I rr e2 rv)
  | _, _, _, _, .ktup (a := a) (vs := vs) (ds := ds) h1 rr, h, r => by
    rw [nkD] at h
    have eu : _ = Value.ref a := r
    subst eu
    cases e2 : nkDs ds with
    | none => rw [e2] at h; cases h
    | some ks =>
      rw [e2] at h
      cases h
      obtain ⟨o, its, n, q1, q2, _, q3, _, rv⟩ := h1
      exact .tup (I.kIn a o q1) q2 q3 (reps_nk I rr e2 rv)
  | _, _, _, _, .lst _ _ _, h, _ => by rw [nkD] at h; cases h; all_goals exact nofun
  | _, _, _, _, .scr _ _, h, _ => by rw [nkD] at h; cases h; all_goals exact nofun
  | _, _, _, _, .kscr _, h, _ => by rw [nkD] at h; cases h; all_goals exact nofun
  | _, _, _, _, .obj _ _ _ _ _, h, _ => by rw [nkD] at h; cases h; all_goals exact nofun
  | _, _, _, _, .ob _ _ _ _ _, h, _ => by rw [nkD] at h; cases h; all_goals exact nofun
  | _, _, _, _, .dct _ _ _ _ _, h, _ => by rw [nkD] at h; cases h; all_goals exact nofun
theorem reps_nk (I : L2.Inv X pins σ H s) : ∀ {vs : List V} {ds : List D} {ks : List NestedKey} {us : List Value}, RepAll X.K H av vs ds → nkDs ds = some ks → Vals vs us → NestedAll s.heap ks us
  | _, _, _, _, .nil, h, r => by
    rw [nkDs] at h
    cases h
    cases r
    exact .nil
  | _, _, _, _, .cons (d := d) (ds := ds) r1 r2, h, r => by
    rw [nkDs] at h
    cases e : nkD d with
    | none => rw [e] at h; cases h
    | some k =>
      rw [e] at h
      cases e2 : nkDs ds with
      | none => rw [e2] at h; cases h
      | some ks =>
        rw [e2] at h
        cases h
        cases r with
        | cons ra rb => exact .cons (rep_nk I r1 e ra) (reps_nk I r2 e2 rb)
end
theorem keys_is (I : L2.Inv X pins σ H s) : ∀ {es : List DEnt} {kvs : List (D × D)}, es.map (fun x => some x.1) = kvs.map (fun p => nkD p.1) → RepAll X.K H av (es.map fun x => .ref x.2.1) (kvs.map (·.1)) → ∀ x ∈ es, NestedIs s.heap x.1 (.ref x.2.1)
  | [], _, _, _, _, h => by cases h
  | e :: es, [], h, _, _, _ => by cases h
  | e :: es, p :: kvs, h, r, x, hx => by
    simp only [List.map_cons, List.cons.injEq] at h
    rw [List.map_cons, List.map_cons] at r
    cases r with
    | cons r1 r2 =>
      rcases List.mem_cons.mp hx with rfl | hx
      · exact rep_nk I r1 h.1.symm rfl
      · exact keys_is I h.2 r2 x hx
theorem dict_of (I : L2.Inv X pins σ H s) {a : Addr} {es : List DEnt} {vs : List V} {kvs : List (D × D)} (hH : H a = some (.ext (dPhi a es))) (f : DFm a es vs kvs) (r1 : RepAll X.K H av (es.map fun x => .ref x.2.1) (kvs.map (·.1))) :
    s.heap.DictOfH (nestedKind X.prog X.w) a es := by
  obtain ⟨⟨o, arr, ep, h1, h2, h3, h4⟩, _⟩ := I.hok a _ hH
  exact ⟨o, arr, ep, h1, h2, h3, h4 X.w, fun x hx => ⟨keys_is I f.keys r1 x hx, f.dep x hx⟩, f.nd⟩
theorem dPhi_of {P : Program} {w : World} {h : Heap} {a : Addr} {es : List DEnt} (x : h.DictOfH (nestedKind P w) a es) (ht : ∀ x ∈ es, nkT x.1 = true) : dPhi a es h := by
  obtain ⟨o, arr, ep, h1, h2, h3, h4, _⟩ := x
  refine ⟨o, arr, ep, h1, h2, h3, fun w' => h4.trans (List.map_congr_left fun y hy => ?_)⟩
  show (⟨y.1.hash w, .ref y.2.1, y.2.2⟩ : DictEntry) = ⟨y.1.hash w', .ref y.2.1, y.2.2⟩
  rw [nkT_hash w w' y.1 (ht y hy)]
theorem dPhi_ok {P : Program} {w : World} {H : Hp} {h : Heap} {a : Addr} {es : List DEnt} (x : dPhi a es h) : ObjOk P w H h a (.ext (dPhi a es)) := by
  refine ⟨x, ?_, fun h1 h2 q k => ?_⟩
  · obtain ⟨o, _, _, e, _⟩ := x; exact ⟨o, e⟩
  · obtain ⟨o, arr, ep, e, q2⟩ := q
    exact ⟨o, arr, ep, k o e, q2⟩
theorem keys_T {es : List DEnt} {kvs : List (D × D)} : es.map (fun x => some x.1) = kvs.map (fun p => nkD p.1) → ∀ x ∈ es, nkT x.1 = true := fun h x hx => by
  have : some x.1 ∈ kvs.map (fun p => nkD p.1) := by rw [← h]; exact List.mem_map_of_mem hx
  obtain ⟨p, _, e⟩ := List.mem_map.mp this
  exact nkD_T p.1 x.1 e
end
/-! ### what a dict tells -/
def dGet : List (D × D) → NestedKey → Option D
  | [], _ => none
  | p :: r, k => if nkD p.1 = some k then some p.2 else dGet r k
def dSet : List (D × D) → NestedKey → D → List (D × D)
  | [], _, _ => []
  | p :: r, k, d => (if nkD p.1 = some k then (p.1, d) else p) :: dSet r k d
def dPut (kvs : List (D × D)) (k : D) (nk : NestedKey) (d : D) : List (D × D) := if (dGet kvs nk).isSome = true then dSet kvs nk d else kvs ++ [(k, d)]
section
variable {K : PySem.W.Frag} {H : Hp} {av : Addr → Prop} {nk : NestedKey}
theorem atKey_cons {e : DEnt} {es : List DEnt} : atKey (e :: es) nk = if e.1 = nk then some e.2 else atKey es nk := by
  unfold atKey
  by_cases h : e.1 = nk
  · simp [h]
  · simp [h]
theorem dGet_at : ∀ {es : List DEnt} {vs : List V} {kvs : List (D × D)}, es.map (fun x => some x.1) = kvs.map (fun p => nkD p.1) → Vals vs (es.map (·.2.2)) → RepAll K H av vs (kvs.map (·.2)) →
    (dGet kvs nk = none → atKey es nk = none) ∧ ∀ d, dGet kvs nk = some d → ∃ p v, atKey es nk = some p ∧ RelV v p.2 ∧ Rep K H av v d
  | [], _, [], _, _, _ => ⟨fun _ => rfl, fun d h => by cases h⟩
  | [], _, _ :: _, h, _, _ => by cases h
  | _ :: _, _, [], h, _, _ => by cases h
  | e :: es, [], p :: kvs, _, r, _ => by cases r
  | e :: es, v :: vs, p :: kvs, h, r, q => by
    simp only [List.map_cons, List.cons.injEq] at h
    rw [List.map_cons] at r q
    cases r with
    | cons ra rb =>
      cases q with
      | cons qa qb =>
        obtain ⟨i1, i2⟩ := dGet_at h.2 rb qb
        rw [atKey_cons]
        unfold dGet
        rw [← h.1]
        by_cases he : e.1 = nk
        · rw [if_pos (by rw [he]), if_pos he]
          exact ⟨fun h => (by cases h), fun d hd => ⟨e.2, v, rfl, ra, by cases hd; exact qa⟩⟩
        · rw [if_neg (fun q => he (Option.some.inj q)), if_neg he]
          exact ⟨i1, i2⟩
theorem dSet_ok {val : Value} {v : V} {d : D} (rv : RelV v val) (rd : Rep K H av v d) : ∀ {es : List DEnt} {vs : List V} {kvs : List (D × D)}, es.map (fun x => some x.1) = kvs.map (fun p => nkD p.1) → Vals vs (es.map (·.2.2)) → RepAll K H av (es.map fun x => .ref x.2.1) (kvs.map (·.1)) → RepAll K H av vs (kvs.map (·.2)) →
    ∃ vs', Vals vs' ((es.map (putAt nk val)).map (·.2.2)) ∧ (es.map (putAt nk val)).map (fun x => some x.1) = (dSet kvs nk d).map (fun p => nkD p.1) ∧ RepAll K H av ((es.map (putAt nk val)).map fun x => .ref x.2.1) ((dSet kvs nk d).map (·.1)) ∧ RepAll K H av vs' ((dSet kvs nk d).map (·.2))
  | [], vs, [], _, r, _, q => by
    cases r
    exact ⟨[], .nil, rfl, .nil, .nil⟩
  | [], _, _ :: _, h, _, _, _ => by cases h
  | _ :: _, _, [], h, _, _, _ => by cases h
  | e :: es, [], p :: kvs, _, r, _, _ => by cases r
  | e :: es, u :: vs, p :: kvs, h, r, q1, q2 => by
    simp only [List.map_cons, List.cons.injEq] at h
    rw [List.map_cons] at r q2
    rw [List.map_cons, List.map_cons] at q1
    cases r with
    | cons ra rb =>
      cases q1 with
      | cons qa qb =>
        cases q2 with
        | cons qc qd =>
          obtain ⟨vs', i1, i2, i3, i4⟩ := dSet_ok rv rd h.2 rb qb qd
          unfold dSet
          by_cases he : e.1 = nk
          · have hp : nkD p.1 = some nk := by rw [← h.1, he]
            have hq : putAt nk val e = (e.1, e.2.1, val) := by unfold putAt; rw [if_pos he]
            rw [if_pos hp]
            simp only [List.map_cons, hq]
            exact ⟨v :: vs', .cons rv i1, by rw [i2, h.1], .cons qa i3, .cons rd i4⟩
          · have hp : ¬ nkD p.1 = some nk := fun q => he (by rw [← h.1] at q; exact Option.some.inj q)
            have hq : putAt nk val e = e := by unfold putAt; rw [if_neg he]
            rw [if_neg hp]
            simp only [List.map_cons, hq]
            exact ⟨u :: vs', .cons ra i1, by rw [i2, h.1], .cons qa i3, .cons qc i4⟩
theorem keys_put {es : List DEnt} {val : Value} : (es.map (putAt nk val)).map (·.1) = es.map (·.1) := by
  rw [List.map_map]
  refine List.map_congr_left fun x _ => ?_
  show (putAt nk val x).1 = x.1
  unfold putAt
  split <;> rfl
theorem RepAll.snoc {vs : List V} {ds : List D} {v : V} {d : D} (r : RepAll K H av vs ds) (q : Rep K H av v d) : RepAll K H av (vs ++ [v]) (ds ++ [d]) := r.append (.cons q .nil)
theorem DFm.put {a ka : Addr} {es : List DEnt} {vs : List V} {kvs : List (D × D)} {val : Value} {v : V} {k d : D} (f : DFm a es vs kvs) (r1 : RepAll K H av (es.map fun x => .ref x.2.1) (kvs.map (·.1))) (r2 : RepAll K H av vs (kvs.map (·.2)))
    (hk : nkD k = some nk) (hd : nk.depth ≤ 8) (rk : Rep K H av (.ref ka) k) (rv : RelV v val) (rd : Rep K H av v d) :
    ∃ vs', DFm a (storedH es nk ka val) vs' (dPut kvs k nk d) ∧ RepAll K H av ((storedH es nk ka val).map fun x => .ref x.2.1) ((dPut kvs k nk d).map (·.1)) ∧ RepAll K H av vs' ((dPut kvs k nk d).map (·.2)) := by
  obtain ⟨i1, i2⟩ := dGet_at (nk := nk) f.keys f.vals r2
  unfold dPut
  cases hg : dGet kvs nk with
  | none =>
    have ha := i1 hg
    rw [storedH_new ha, if_neg (by simp)]
    refine ⟨vs ++ [v], ⟨f.sys, ?_, ?_, ?_, ?_⟩, ?_, ?_⟩
    · rw [List.map_append]
      refine List.nodup_append.mpr ⟨f.nd, by simp, fun x hx y hy e => ?_⟩
      have ey : y = nk := List.mem_singleton.mp hy
      subst ey
      subst e
      obtain ⟨z, hz, ez⟩ := List.mem_map.mp hx
      have : atKey es x ≠ none := by
        intro q
        unfold atKey at q
        rw [Option.map_eq_none_iff, List.find?_eq_none] at q
        exact q z hz (by simp [ez])
      exact this ha
    · rw [List.map_append]
      exact f.vals.append (.cons rv .nil)
    · rw [List.map_append, List.map_append, f.keys]
      simp [hk]
    · intro x hx
      rcases List.mem_append.mp hx with hx | hx
      · exact f.dep x hx
      · rw [List.mem_singleton.mp hx]; exact hd
    · rw [List.map_append, List.map_append]
      exact r1.snoc rk
    · rw [List.map_append]
      exact r2.snoc rd
  | some d0 =>
    obtain ⟨p, u, ha, _, _⟩ := i2 d0 hg
    rw [storedH_old ha, if_pos (by simp)]
    obtain ⟨vs', j1, j2, j3, j4⟩ := dSet_ok (nk := nk) rv rd f.keys f.vals r1 r2
    refine ⟨vs', ⟨f.sys, by rw [keys_put]; exact f.nd, j1, j2, fun x hx => ?_⟩, j3, j4⟩
    obtain ⟨y, hy, rfl⟩ := List.mem_map.mp hx
    have e : (putAt nk val y).1 = y.1 := by unfold putAt; split <;> rfl
    rw [e]
    exact f.dep y hy
theorem dPut_len (kvs : List (D × D)) (k d : D) : (dPut kvs k nk d).length ≤ kvs.length + 1 := by
  unfold dPut
  split
  · have : ∀ l : List (D × D), (dSet l nk d).length = l.length := by
      intro l
      induction l with
      | nil => rfl
      | cons p l ih => unfold dSet; simp [ih]
    rw [this]; omega
  · simp
end
end Lz
/-! dicts with tuples as keys: in, d[k], d[k] = v, {k: v} -/
namespace Lz
open PySem PySem.Spec PyProof.Rows L2
theorem SepW.dct {K : PySem.W.Frag} {H : Hp} {L : List VT} {ws : List Addr} {v : V} {o : Bool} {kvs : List (D × D)} (s : SepW K H L ws) (hm0 : (v, (o, D.dct kvs)) ∈ L) :
    ∃ a es vs, v = .ref a ∧ H a = some (.ext (dPhi a es)) ∧ DFm a es vs kvs ∧ RepAll K H (· ∈ ws) (es.map fun x => .ref x.2.1) (kvs.map (·.1)) ∧ RepAll K H (· ∈ ws) vs (kvs.map (·.2)) := by
  obtain ⟨w, q, _⟩ := s.own.get hm0
  cases q with
  | pure r =>
    cases r with
    | dct n h f r1 r2 => exact ⟨_, _, _, rfl, h, f, r1, r2⟩
  | dct h f r1 r2 => exact ⟨_, _, _, rfl, h, f, r1, r2⟩
/-- the key that a tuple is -/
def nkOf : D → Option NestedKey
  | .tup xs => (nkD (.tup xs)).bind fun k => if k.depth ≤ 8 then some k else none
  | _ => none
theorem nkOf_ok {d : D} {k : NestedKey} (h : nkOf d = some k) : (∃ xs, d = .tup xs) ∧ nkD d = some k ∧ k.depth ≤ 8 := by
  cases d <;> first | (cases h; done) | skip
  rename_i xs
  have h' : (nkD (.tup xs)).bind (fun k => if k.depth ≤ 8 then some k else none) = some k := h
  cases e : nkD (.tup xs) with
  | none => rw [e] at h'; cases h'
  | some j =>
    rw [e] at h'
    have h2 : (if j.depth ≤ 8 then some j else none) = some k := h'
    by_cases hd : j.depth ≤ 8
    · rw [if_pos hd] at h2; cases h2; exact ⟨⟨xs, rfl⟩, rfl, hd⟩
    · rw [if_neg hd] at h2; cases h2
/-- a tuple is known by its address -/
theorem SepW.tupR {K : PySem.W.Frag} {H : Hp} {L : List VT} {ws : List Addr} {v : V} {o : Bool} {ds : List D} (s : SepW K H L ws) (hm0 : (v, (o, D.tup ds)) ∈ L) : ∃ a, v = .ref a ∧ Rep K H (· ∈ ws) v (.tup ds) := by
  obtain ⟨w, q, _⟩ := s.own.get hm0
  cases q with
  | pure r =>
    have r' := r
    cases r' with
    | tup n h e r2 => exact ⟨_, rfl, r⟩
    | ktup h r2 => exact ⟨_, rfl, r⟩
def opInT (k d : D) : Option T := match d with
  | .dct kvs => (nkOf k).map fun nk => (false, .bl (dGet kvs nk).isSome)
  | _ => none
def opNotInT (k d : D) : Option T := match d with
  | .dct kvs => (nkOf k).map fun nk => (false, .bl (!(dGet kvs nk).isSome))
  | _ => none
def opIxT (d k : D) : Option T := match d with
  | .dct kvs => (nkOf k).bind fun nk => (dGet kvs nk).map fun x => (false, x)
  | _ => none
section
variable {X : Cx}
theorem dGet_some {K : PySem.W.Frag} {H : Hp} {av : Addr → Prop} {nk : NestedKey} {a : Addr} {es : List DEnt} {vs : List V} {kvs : List (D × D)} (f : DFm a es vs kvs) (r2 : RepAll K H av vs (kvs.map (·.2))) : (atKey es nk).isSome = (dGet kvs nk).isSome := by
  obtain ⟨i1, i2⟩ := dGet_at (nk := nk) f.keys f.vals r2
  cases hg : dGet kvs nk with
  | none => rw [i1 hg]; rfl
  | some d =>
    obtain ⟨p, v, h1, _⟩ := i2 d hg
    rw [h1]; rfl
theorem or_inT (hu : X.A.units + 65 < cLine) : OpR X (compareOp .In) (rOp X.K opInT) := by
  intro pins s σ H x y v u Q I rx ry ⟨L, d, e, o, o', t, sep, m1, m2, ht, q⟩
  cases e <;> first | (cases ht; done) | skip
  rename_i kvs
  have h' : (nkOf d).map (fun nk => ((false, D.bl (dGet kvs nk).isSome) : T)) = some t := ht
  cases hk : nkOf d with
  | none => rw [hk] at h'; cases h'
  | some nk =>
    rw [hk] at h'
    cases h'
    obtain ⟨⟨xs, rfl⟩, h1, h2⟩ := nkOf_ok hk
    obtain ⟨ws, w⟩ := sep
    obtain ⟨ka, rfl, rk⟩ := w.tupR m1
    obtain ⟨a, es, vs, rfl, hH, f, r1, r2⟩ := w.dct m2
    cases rx
    cases ry
    have hm := dict_of I hH f r1
    have hkey : (nestedKind X.prog X.w).is s.heap nk ka := ⟨rep_nk I rk h1 rfl, h2⟩
    have hr : (nestedKind X.prog X.w).room X.A.in1 := by show X.A.units + 1 + 8 < cLine; omega
    refine wpAny_in_heap hr hkey f.sys hm ⟨.bl (atKey es nk).isSome, H, I.kept (fun b u q => q), rfl, ?_⟩
    rw [dGet_some f r2]
    exact q _ _ (Sep.cBl ⟨ws, w⟩ _)
theorem or_notInT (hu : X.A.units + 65 < cLine) : OpR X (compareOp .NotIn) (rOp X.K opNotInT) := by
  intro pins s σ H x y v u Q I rx ry ⟨L, d, e, o, o', t, sep, m1, m2, ht, q⟩
  cases e <;> first | (cases ht; done) | skip
  rename_i kvs
  have h' : (nkOf d).map (fun nk => ((false, D.bl (!(dGet kvs nk).isSome)) : T)) = some t := ht
  cases hk : nkOf d with
  | none => rw [hk] at h'; cases h'
  | some nk =>
    rw [hk] at h'
    cases h'
    obtain ⟨⟨xs, rfl⟩, h1, h2⟩ := nkOf_ok hk
    obtain ⟨ws, w⟩ := sep
    obtain ⟨ka, rfl, rk⟩ := w.tupR m1
    obtain ⟨a, es, vs, rfl, hH, f, r1, r2⟩ := w.dct m2
    cases rx
    cases ry
    have hm := dict_of I hH f r1
    have hkey : (nestedKind X.prog X.w).is s.heap nk ka := ⟨rep_nk I rk h1 rfl, h2⟩
    have hr : (nestedKind X.prog X.w).room X.A.in1 := by show X.A.units + 1 + 8 < cLine; omega
    refine notIn_keyed hr hkey f.sys ⟨es, hm, rfl⟩ ⟨.bl (!(valueAt (pairsH es) nk).isSome), H, I.kept (fun b u q => q), rfl, ?_⟩
    rw [valueAt_pairsH, Option.isSome_map, dGet_some f r2]
    exact q _ _ (Sep.cBl ⟨ws, w⟩ _)
theorem ir_ixT (hu : X.A.units + 65 < cLine) : IxR X (rOp X.K opIxT) := by
  intro value slice pins s σ H x y v u Q I rx ry ⟨L, d, e, o, o', t, sep, m1, m2, ht, q⟩ hs
  cases d <;> first | (cases ht; done) | skip
  rename_i kvs
  have h' : (nkOf e).bind (fun nk => (dGet kvs nk).map fun x => ((false, x) : T)) = some t := ht
  cases hk : nkOf e with
  | none => rw [hk] at h'; cases h'
  | some nk =>
    rw [hk] at h'
    have h3 : (dGet kvs nk).map (fun x => ((false, x) : T)) = some t := h'
    cases hg : dGet kvs nk with
    | none => rw [hg] at h3; cases h3
    | some dv =>
      rw [hg] at h3
      cases h3
      obtain ⟨⟨xs, rfl⟩, h1, h2⟩ := nkOf_ok hk
      obtain ⟨ws, w⟩ := sep
      obtain ⟨ka, rfl, rk⟩ := w.tupR m2
      obtain ⟨a, es, vs, rfl, hH, f, r1, r2⟩ := w.dct m1
      cases rx
      cases ry
      have hm := dict_of I hH f r1
      have hkey : (nestedKind X.prog X.w).is s.heap nk ka := ⟨rep_nk I rk h1 rfl, h2⟩
      have hr : (nestedKind X.prog X.w).room X.A.in1 := by show X.A.units + 1 + 8 < cLine; omega
      obtain ⟨i1, i2⟩ := dGet_at (nk := nk) f.keys f.vals r2
      obtain ⟨p, vv, hp, rv, rd⟩ := i2 dv hg
      exact tail_any hm.typeIs PySem.F.slot_dict_getitem.lookup (wpAny_getItem_heap hr hkey hm hp ⟨vv, H, I.kept (fun b u q => q), rv, q _ _ ⟨ws, w.pure rd⟩⟩) hs
/-! ### d[k] = v -/
theorem SepW.chgDct {K : PySem.W.Frag} {H : Hp} {L : List VT} {ws : List Addr} {a : Addr} {kvs0 kvs : List (D × D)} {es : List DEnt} {vs : List V} (s : SepW K H ((.ref a, (true, .dct kvs0)) :: L) ws) (f : DFm a es vs kvs)
    (r1 : RepAll K H (· ∈ ws) (es.map fun x => .ref x.2.1) (kvs.map (·.1))) (r2 : RepAll K H (· ∈ ws) vs (kvs.map (·.2))) : SepW K (upd H a (.ext (dPhi a es))) ((.ref a, (true, .dct kvs)) :: L) ws := by
  obtain ⟨h, n⟩ := s
  cases h with
  | @cons _ _ _ w ws' h t =>
    have ew : w = [a] := by cases h <;> rfl
    subst ew
    have n1 := (List.nodup_cons.mp n).1
    have k : Kp H (upd H a (.ext (dPhi a es))) (· ∈ [a] ++ ws') (· ∈ [a] ++ ws') := ⟨fun b o q nb => by
      have ne : b ≠ a := fun e => nb (by rw [e]; simp)
      rw [upd_ne ne]; exact q, fun _ q => .inl q⟩
    exact ⟨.cons (.dct upd_same f (r1.mono k) (r2.mono k)) (t.mono k fun b hb => upd_ne fun e => n1 (by rw [← e]; exact hb)), n⟩
def rSetT (K : PySem.W.Frag) (o i v : V) (H : Hp) (Q : Hp → Prop) : Prop := ∃ L kvs k nk oi d, Sep K H ((o, (true, .dct kvs)) :: L) ∧ (i, (oi, k)) ∈ L ∧ (v, (false, d)) ∈ L ∧ nkOf k = some nk ∧ kvs.length < lim ∧ ∀ H', Sep K H' ((o, (true, .dct (dPut kvs k nk d))) :: L) → Q H'
theorem set_dct (hu : X.A.units + 65 < cLine) : PSet X (rSetT X.K) := by
  intro pins s σ H o i v ov iv u Q I ro ri rv ⟨L, kvs, k, nk, oi, d, sep, mi, mv, hk, hl, q⟩
  obtain ⟨⟨xs, rfl⟩, h1, h2⟩ := nkOf_ok hk
  obtain ⟨ws, w⟩ := sep
  obtain ⟨ka, rfl, rk⟩ := w.tupR (List.mem_cons_of_mem _ mi)
  obtain ⟨a, es, vs, rfl, hH, f, r1, r2⟩ := w.dct List.mem_cons_self
  have rd : Rep X.K H (· ∈ ws) v d := w.rep (List.mem_cons_of_mem _ mv)
  cases ro
  cases ri
  have hm := dict_of I hH f r1
  have hkey : (nestedKind X.prog X.w).is s.heap nk ka := ⟨rep_nk I rk h1 rfl, h2⟩
  have hr : (nestedKind X.prog X.w).room X.A.in1 := by show X.A.units + 1 + 8 < cLine; omega
  have hlen : es.length = kvs.length := by have := congrArg List.length f.keys; simpa using this
  refine wpAny_setItem_heap (hsz := by rw [hlen]; exact Nat.le_of_lt hl) hr hkey hm fun h' hm' hs => ?_
  obtain ⟨vs', f', r1', r2'⟩ := f.put r1 r2 h1 h2 rk rv rd
  have hphi := dPhi_of hm' (keys_T f'.keys)
  have hex : ∃ o, h'.get? a = some o := let ⟨o, _, _, e, _⟩ := hphi; ⟨o, e⟩
  refine ⟨upd H a (.ext (dPhi a (storedH es nk ka u))), I.write (x := a) (e := a) (by rw [hH]; exact True.intro) (.inl rfl) (fun b ob hb z => (hs.2 b hb).trans z) hex (dPhi_ok hphi), ?_⟩
  exact q _ ⟨ws, w.chgDct f' r1' r2'⟩
def opSetT (x z y : XV) (ρ : Env) : R Fl := match x, view z ρ with
  | .b j, some k => (match nkOf k with
    | some nk => (frz y ρ).bind fun d ρ => (match gt ρ j with
      | some (true, .dct kvs) => if kvs.length < lim then .ok .nx (pt ρ j (some (true, .dct (dPut kvs k nk d)))) else .bad
      | _ => .bad)
    | none => .bad)
  | _, _ => .bad
def xSetT (fe fo fi : Env → R XV) (ρ : Env) : R Fl := (fe ρ).bind fun y ρ => (fo ρ).bind fun x ρ => (fi ρ).bind fun z ρ => opSetT x z y ρ
end
section
variable {X : Cx} {W : WX} {pin : List Nat} {e o i : Expr} {fe fo fi : Env → R XV} {pos p2 : Pos}
theorem ss_setT (hu : X.A.units + 65 < cLine) (he : SE X W e fe) (ho : SE X W o fo) (hi : SE X W i fi) (hs : swapsWithSole [.Subscript o i p2] e pos.line X.env = pure false := by rfl) (hw : swappedStores [.Subscript o i p2] e X.env = pure none := by rfl)
    (h1 : (assignEach [.Subscript o i p2] X.env).map (·.2) = [assign (.Subscript o i p2) X.env] := by rfl)
    (ha : ∀ v, assign (.Subscript o i p2) X.env v = (do
      let ov ← holding [v] (eval o X.env)
      let iv ← holding [v, ov] (eval i X.env)
      standAt p2
      holding [v, ov, iv] (setItem ov iv v)
      release [v, ov, iv] []) := by intro _; rfl) : SS X W pin (.Assign [.Subscript o i p2] e pos) (xSetT fe fo fi) := by
  refine PS.weak (ps_asg he (pg_sub ho hi (set_dct hu) ha) hs hw h1) fun E σ H h => ?_
  obtain ⟨ρ, hs, σ0, s, hp, h⟩ := h
  refine ⟨ρ, hs, s, fin_mono (finS_bind h hp) fun u H1 ⟨y, ρ1, hy, s1, h1⟩ => ?_⟩
  refine ⟨ρ1, _, s1, fin_mono (finS_bindA (hld y u) h1 hp) fun v H2 ⟨x, ρ2, hx, s2, h2⟩ => ?_⟩
  rw [← List.append_assoc] at s2
  refine ⟨ρ2, _, s2, fin_mono (finS_bindA (hld x v ++ hld y u) h2 hp) fun w H3 ⟨z, ρ3, hz, s3, h3⟩ => ?_⟩
  unfold opSetT at h3
  cases x with
  | v _ _ => exact h3.elim
  | b j =>
    cases ev : view z ρ3 with
    | none => rw [ev] at h3; exact h3.elim
    | some k =>
      rw [ev] at h3
      dsimp only at h3
      cases hk : nkOf k with
      | none => rw [hk] at h3; exact h3.elim
      | some nk =>
        rw [hk] at h3
        dsimp only at h3
        obtain ⟨⟨xs, rfl⟩, hk1, hk2⟩ := nkOf_ok hk
        obtain ⟨o1, m1⟩ := s3.mem hz (fun p hp => by simp [hp]) ev
        -- the key is a tuple that nobody owns
        have s3' : Stt X.K ((w, (false, D.tup xs)) :: (hld y u ++ hs)) σ H3 ρ3 := by
          obtain ⟨ws, q⟩ := s3.sep
          obtain ⟨ka, _, rk⟩ := q.tupR m1
          have q2 : Sep X.K H3 ((w, (false, D.tup xs)) :: (slotsL σ ρ3 ++ (hld z w ++ (hld (.b j) v ++ hld y u ++ hs)))) := ⟨ws, q.pure rk⟩
          refine ⟨s3.ok, ?_⟩
          have q3 : Sep X.K H3 ((w, (false, D.tup xs)) :: (slotsL σ ρ3 ++ (hld y u ++ hs))) := by
            have q4 := Sep.drop_mid (A := (w, (false, D.tup xs)) :: slotsL σ ρ3) (B := hld z w) (C := hld (.b j) v ++ hld y u ++ hs) q2
            simpa [hld] using q4
          exact q3.perm List.perm_middle.symm
        cases ez : frz y ρ3 with
        | bad => rw [ez] at h3; exact h3.elim
        | exc c ρ4 => exact (frz_exc ez).elim
        | ok d ρ4 =>
          rw [ez] at h3
          have h4 : finS X.K W hs pin σ0 (match gt ρ4 j with
            | some (true, .dct kvs) => if kvs.length < lim then .ok .nx (pt ρ4 j (some (true, .dct (dPut kvs (.tup xs) nk d)))) else .bad
            | _ => .bad) E := h3
          have s5 : Stt X.K ((u, (false, d)) :: ((w, (false, D.tup xs)) :: hs)) σ H3 ρ4 := by
            refine frz_ok (s3'.perm ?_) hy ez
            exact List.perm_middle.symm
          have hx' : σ[j]? = some (some v) := hx
          cases eg : gt ρ4 j with
          | none => rw [eg] at h4; exact h4.elim
          | some t =>
            rw [eg] at h4
            obtain ⟨o, dd⟩ := t
            cases o with
            | false => exact h4.elim
            | true =>
              cases dd <;> first | exact h4.elim | skip
              rename_i kvs
              dsimp only at h4
              by_cases hl : kvs.length < lim
              · rw [if_pos hl] at h4
                have hi : j < ρ4.length := gt_lt eg
                have p1 := (slots_take hx' eg).append_right ((u, (false, d)) :: (w, (false, D.tup xs)) :: hs)
                refine ⟨_, kvs, .tup xs, nk, false, d, s5.sep.perm p1, ?_, ?_, hk, hl, fun H' q => ?_⟩
                · simp
                · simp
                · refine h4 σ H' ⟨s5.ok.keep j hx', ?_⟩ hp
                  have q2 : Sep X.K H' (((v, (true, D.dct (dPut kvs (.tup xs) nk d))) :: slotsL σ (pt ρ4 j none)) ++ ([(u, (false, d)), (w, (false, D.tup xs))] ++ hs)) := q
                  have q3 := q2.drop_mid
                  exact q3.perm ((slots_keep hx' hi).append_right hs).symm
              · rw [if_neg hl] at h4; exact h4.elim
/-! ### {k: v} -/
def opDisp (x y : XV) (ρ : Env) : R XV := match view x ρ with
  | some k => (match nkOf k with
    | some _ => (frz y ρ).bind fun d ρ => .ok (.v true (.dct [(k, d)])) ρ
    | none => .bad)
  | none => .bad
def sDisp (fk fv : Env → R XV) (ρ : Env) : R XV := (fk ρ).bind fun x ρ => (fv ρ).bind fun y ρ => opDisp x y ρ
end
theorem SepW.newDct {K : PySem.W.Frag} {H : Hp} {L : List VT} {ws : List Addr} {p : Addr} (s : SepW K H L ws) (h : H p = none) (hs : (p == sysModules) = false) : SepW K (upd H p (.ext (dPhi p []))) ((.ref p, (true, .dct [])) :: L) (p :: ws) :=
  ⟨.cons (w := [p]) (.dct (vs := []) upd_same ⟨hs, List.nodup_nil, .nil, rfl, fun x hx => by cases hx⟩ .nil .nil) (s.own.mono (Kp.laidO h) fun b hb => upd_ne fun e => s.fresh h (e ▸ hb)), List.nodup_cons.mpr ⟨s.fresh h, s.nd⟩⟩
theorem dPhi_new (h : Heap) : dPhi h.objs.size [] (h.push { cls := .type "dict", data := .dict #[] }) := ⟨_, #[], 0, Heap.get?_push_size _ rfl, ⟨rfl, rfl, rfl⟩, rfl, fun _ => rfl⟩
section
variable {X : Cx} {W : WX} {k v : Expr} {fk fv : Env → R XV} {pos : Pos}
theorem se_disp1 (hu : X.A.units + 65 < cLine) (hk : SE X W k fk) (hv : SE X W v fv) : SE X W (.Dict [some k] [v] pos) (sDisp fk fv) := by
  refine ⟨fun pins s σ H Q I h => ?_⟩
  obtain ⟨ρ, hs, st, h⟩ := h
  have hn := I.hok.fresh (Nat.le_refl s.heap.objs.size)
  have hsys : (s.heap.objs.size == sysModules) = false := beq_eq_false_iff_ne.mpr (Ne.symm (Nat.ne_of_lt I.big))
  have I1 : L2.Inv X pins σ (upd H s.heap.objs.size (.ext (dPhi s.heap.objs.size []))) { s with heap := s.heap.push { cls := .type "dict", data := .dict #[] } } := I.laid (t' := s.toks) (fun _ _ q => Heap.get?_push_of_some _ q) (Nat.le_refl _) (dPhi_ok (dPhi_new s.heap))
  have hr : (nestedKind X.prog X.w).room X.A.in1 := by show X.A.units + 1 + 8 < cLine; omega
  have hr0 : (nestedKind X.prog X.w).room X.A := by show X.A.units + 8 < cLine; omega
  have st1 : Stt X.K ([(V.ref s.heap.objs.size, (true, D.dct []))] ++ hs) σ (upd H s.heap.objs.size (.ext (dPhi s.heap.objs.size []))) ρ := ⟨st.ok, by
    obtain ⟨ws, q⟩ := st.sep
    exact Sep.perm List.perm_middle.symm ⟨_, q.newDct hn hsys⟩⟩
  have T : tPairs [(tE X.K W fk, tE X.K W fv)] σ (upd H s.heap.objs.size (.ext (dPhi s.heap.objs.size []))) (fun ps H3 => ∃ x y xs nk d L, ps = [(x, y)] ∧ Sep X.K H3 ((.ref s.heap.objs.size, (true, .dct [])) :: L) ∧ (x, (false, .tup xs)) ∈ L ∧ (y, (false, d)) ∈ L ∧ nkOf (.tup xs) = some nk ∧
      ∀ H', Sep X.K H' ((.ref s.heap.objs.size, (true, .dct [(.tup xs, d)])) :: L) → Q (.ref s.heap.objs.size) H') := by
    refine ⟨ρ, _, st1, fin_mono (fin_bind [(V.ref s.heap.objs.size, (true, D.dct []))] h) fun x H2 ⟨kx, ρ1, hx, s2, h2⟩ => ?_⟩
    rw [← List.append_assoc] at s2
    refine ⟨ρ1, _, s2, fin_mono (fin_bind (hld kx x ++ [(V.ref s.heap.objs.size, (true, D.dct []))]) h2) fun y H3 ⟨vy, ρ2, hy, s3, h3⟩ => ?_⟩
    show ∃ x' y' xs nk d L, [(x, y)] = [(x', y')] ∧ _
    unfold opDisp at h3
    cases ev : view kx ρ2 with
    | none => rw [ev] at h3; exact h3.elim
    | some kd =>
      rw [ev] at h3
      dsimp only at h3
      cases hkn : nkOf kd with
      | none => rw [hkn] at h3; exact h3.elim
      | some nk =>
        rw [hkn] at h3
        dsimp only at h3
        obtain ⟨⟨xs, rfl⟩, hk1, hk2⟩ := nkOf_ok hkn
        obtain ⟨o1, m1⟩ := s3.mem hx (fun p hp => by simp [hp]) ev
        have s3' : Stt X.K ((x, (false, D.tup xs)) :: (hld vy y ++ ([(V.ref s.heap.objs.size, (true, D.dct []))] ++ hs))) σ H3 ρ2 := by
          obtain ⟨ws, q⟩ := s3.sep
          obtain ⟨ka, _, rk⟩ := q.tupR m1
          refine ⟨s3.ok, ?_⟩
          have q2 : Sep X.K H3 (((x, (false, D.tup xs)) :: (slotsL σ ρ2 ++ hld vy y)) ++ (hld kx x ++ ([(V.ref s.heap.objs.size, (true, D.dct []))] ++ hs))) := ⟨ws, by
            have := q.pure rk
            simpa using this⟩
          have q4 := q2.drop_mid
          have q5 : Sep X.K H3 ((x, (false, D.tup xs)) :: (slotsL σ ρ2 ++ (hld vy y ++ ([(V.ref s.heap.objs.size, (true, D.dct []))] ++ hs)))) := by simpa using q4
          exact q5.perm List.perm_middle.symm
        cases ez : frz vy ρ2 with
        | bad => rw [ez] at h3; exact h3.elim
        | exc c ρ4 => exact (frz_exc ez).elim
        | ok d ρ4 =>
          rw [ez] at h3
          have h4 : fin X.K W hs σ (.ok (.v true (.dct [(.tup xs, d)])) ρ4) Q := h3
          have s5 : Stt X.K ((y, (false, d)) :: ((x, (false, D.tup xs)) :: ([(V.ref s.heap.objs.size, (true, D.dct []))] ++ hs))) σ H3 ρ4 := by
            refine frz_ok (s3'.perm ?_) hy ez
            exact List.perm_middle.symm
          refine ⟨x, y, xs, nk, d, slotsL σ ρ4 ++ ((y, (false, d)) :: (x, (false, D.tup xs)) :: hs), rfl, ?_, by simp, by simp, hkn, fun H' q => ?_⟩
          · refine s5.sep.perm ?_
            have e : slotsL σ ρ4 ++ ((y, (false, d)) :: ((x, (false, D.tup xs)) :: ([(V.ref s.heap.objs.size, (true, D.dct []))] ++ hs))) = (slotsL σ ρ4 ++ [(y, (false, d)), (x, (false, D.tup xs))]) ++ ((V.ref s.heap.objs.size, (true, D.dct [])) :: hs) := by simp
            rw [e]
            refine List.perm_middle.trans ?_
            simp
          · refine h4 _ H' trivial ⟨s5.ok, ?_⟩
            have q2 : Sep X.K H' (((V.ref s.heap.objs.size, (true, D.dct [(.tup xs, d)])) :: slotsL σ ρ4) ++ ([(y, (false, d)), (x, (false, D.tup xs))] ++ hs)) := q
            have q3 := q2.drop_mid
            exact q3.perm List.perm_middle.symm
  have hp := pps_cons (pos := pos) hk hv pps_nil
  rw [arm_eval_Dict, zip_pairTrees [some k] [v] X.env pos rfl rfl, dictDisplay_pairs (pairTrees [some k] [v] X.env pos) (by simp [pairTrees]) (by simp [pairTrees])]
  refine wpAny_bind (wpAny_standAt (wpAny_bind (wpAny_subDictH (knd := nestedKind X.prog X.w) (Q := fun d s' => wpAny (model X.prog X.w) X.A (pure (Value.ref d)) (EP X pins σ Q) X.xe s') hr0 (by simp [pairTrees])
    (thn (hp.run pins _ σ _ _ I1 T) fun us s2 ⟨ps, H2, I2, rel, x, y, xs, nk, d, L, e, sep, m1, m2, hkn, q⟩ => ?_))))
  subst e
  cases rel with
  | @cons a b as bs r t =>
  cases t
  obtain ⟨b1, b2⟩ := b
  obtain ⟨r1, r2⟩ := r
  obtain ⟨_, hk1, hk2⟩ := nkOf_ok hkn
  obtain ⟨ws, w⟩ := sep
  obtain ⟨ka, rfl, rk⟩ := w.tupR (List.mem_cons_of_mem _ m1)
  cases r1
  obtain ⟨a, es, vs, ea, hH, f, k1, k2⟩ := w.dct List.mem_cons_self
  cases ea
  have hes : es = [] := by have := congrArg List.length f.keys; exact List.length_eq_zero_iff.mp (by simpa using this)
  subst hes
  have hm := dict_of I2 hH f k1
  have rd : Rep X.K H2 (· ∈ ws) y d := w.rep (List.mem_cons_of_mem _ m2)
  refine ⟨[(nk, ka, b2)], ⟨rfl, rfl, ⟨rep_nk I2 rk hk1 rfl, hk2⟩, trivial⟩, hm, fun h' tk hm' hsb => wpAny_pure ?_⟩
  obtain ⟨vs', f', k1', k2'⟩ := f.put k1 k2 hk1 hk2 rk r2 rd
  have hphi := dPhi_of hm' (keys_T f'.keys)
  have hex : ∃ o, h'.get? s.heap.objs.size = some o := let ⟨o, _, _, e, _⟩ := hphi; ⟨o, e⟩
  refine ⟨.ref s.heap.objs.size, _, I2.write (x := s.heap.objs.size) (e := s.heap.objs.size) (by rw [hH]; exact True.intro) (.inl rfl) (fun b ob hb z => (hsb.2 b hb).trans z) hex (dPhi_ok hphi), rfl, ?_⟩
  exact q _ ⟨ws, w.chgDct f' k1' k2'⟩
end
/-! ### rules in short, evaluation -/
section
variable {X : Cx} {W : WX} {pin : List Nat}
theorem ixT (hu : X.A.units + 65 < cLine) {a b : Expr} {fa fb : Env → R XV} {pos : Pos} (ha : SE X W a fa) (hb : SE X W b fb) (hs : PlainIx b := by exact fun _ _ => rfl) : SE X W (.Subscript a b pos) (sBin opIxT fa fb) := se_ix (ir_ixT hu) ha hb hs
end
section
variable {ρ : Env} {i : Nat}
def dspK2 (k d : D) (ρ : Env) : R XV := .ok (.v true (.dct [(k, d)])) ρ
@[simp] theorem dspK2_ev {k d : D} : dspK2 k d ρ = .ok (.v true (.dct [(k, d)])) ρ := rfl
def dspK1 (y : XV) (ρ : Env) (k : D) : Option NestedKey → R XV
  | some _ => (frz y ρ).bind (dspK2 k)
  | none => .bad
@[simp] theorem dspK1_s {y : XV} {k : D} {nk : NestedKey} : dspK1 y ρ k (some nk) = (frz y ρ).bind (dspK2 k) := rfl
def dspK (y : XV) (ρ : Env) : Option D → R XV
  | some k => dspK1 y ρ k (nkOf k)
  | none => .bad
@[simp] theorem dspK_s {y : XV} {k : D} : dspK y ρ (some k) = dspK1 y ρ k (nkOf k) := rfl
@[simp] theorem opDisp_ev {x y : XV} : opDisp x y ρ = dspK y ρ (view x ρ) := by
  unfold opDisp dspK
  cases view x ρ with
  | none => rfl
  | some k =>
    dsimp only
    unfold dspK1
    cases nkOf k <;> rfl
def dspB (fv : Env → R XV) (x : XV) (ρ : Env) : R XV := (fv ρ).bind (opDisp x)
@[simp] theorem dspB_ev {fv : Env → R XV} {x : XV} : dspB fv x ρ = (fv ρ).bind (opDisp x) := rfl
@[simp] theorem sDisp_ev {fk fv : Env → R XV} : sDisp fk fv ρ = (fk ρ).bind (dspB fv) := rfl
def stT3 (i : Nat) (k : D) (nk : NestedKey) (d : D) (ρ : Env) : Option T → R Fl
  | some (true, .dct kvs) => if kvs.length < lim then .ok .nx (pt ρ i (some (true, .dct (dPut kvs k nk d)))) else .bad
  | _ => .bad
@[simp] theorem stT3_s {k d : D} {nk : NestedKey} {kvs : List (D × D)} : stT3 i k nk d ρ (some (true, .dct kvs)) = if kvs.length < lim then .ok .nx (pt ρ i (some (true, .dct (dPut kvs k nk d)))) else .bad := rfl
def stT2 (i : Nat) (k : D) (nk : NestedKey) (d : D) (ρ : Env) : R Fl := stT3 i k nk d ρ (gt ρ i)
@[simp] theorem stT2_ev {k d : D} {nk : NestedKey} : stT2 i k nk d ρ = stT3 i k nk d ρ (gt ρ i) := rfl
def stT1 (i : Nat) (y : XV) (ρ : Env) (k : D) : Option NestedKey → R Fl
  | some nk => (frz y ρ).bind (stT2 i k nk)
  | none => .bad
@[simp] theorem stT1_s {y : XV} {k : D} {nk : NestedKey} : stT1 i y ρ k (some nk) = (frz y ρ).bind (stT2 i k nk) := rfl
def stT0 (i : Nat) (y : XV) (ρ : Env) : Option D → R Fl
  | some k => stT1 i y ρ k (nkOf k)
  | none => .bad
@[simp] theorem stT0_s {y : XV} {k : D} : stT0 i y ρ (some k) = stT1 i y ρ k (nkOf k) := rfl
def stTc (x y z : XV) (ρ : Env) : R Fl := opSetT x z y ρ
@[simp] theorem stTc_b {z y : XV} : stTc (.b i) y z ρ = stT0 i y ρ (view z ρ) := by
  unfold stTc opSetT stT0
  cases view z ρ with
  | none => rfl
  | some k =>
    dsimp only
    unfold stT1
    cases nkOf k with
    | none => rfl
    | some nk =>
      dsimp only
      congr 1
      try (funext d ρ
           unfold stT2 stT3
           cases gt ρ i with
           | none => rfl
           | some t => obtain ⟨o, d⟩ := t; cases o <;> cases d <;> rfl)
def stTb (fi : Env → R XV) (y x : XV) (ρ : Env) : R Fl := (fi ρ).bind (stTc x y)
@[simp] theorem stTb_ev {fi : Env → R XV} {y x : XV} : stTb fi y x ρ = (fi ρ).bind (stTc x y) := rfl
def stTa (fo fi : Env → R XV) (y : XV) (ρ : Env) : R Fl := (fo ρ).bind (stTb fi y)
@[simp] theorem stTa_ev {fo fi : Env → R XV} {y : XV} : stTa fo fi y ρ = (fo ρ).bind (stTb fi y) := rfl
@[simp] theorem xSetT_ev {fe fo fi : Env → R XV} : xSetT fe fo fi ρ = (fe ρ).bind (stTa fo fi) := rfl
end
section
variable {X : Cx} {W : WX} {pin : List Nat} {e o i : Expr} {fe fo fi : Env → R XV} {pos p2 : Pos}
theorem siT (hu : X.A.units + 65 < cLine) (he : SE X W e fe) (ho : SE X W o fo) (hi : SE X W i fi) (hs : swapsWithSole [.Subscript o i p2] e pos.line X.env = pure false := by rfl) (hw : swappedStores [.Subscript o i p2] e X.env = pure none := by rfl)
    (h1 : (assignEach [.Subscript o i p2] X.env).map (·.2) = [assign (.Subscript o i p2) X.env] := by rfl)
    (ha : ∀ v, assign (.Subscript o i p2) X.env v = (do
      let ov ← holding [v] (eval o X.env)
      let iv ← holding [v, ov] (eval i X.env)
      standAt p2
      holding [v, ov, iv] (setItem ov iv v)
      release [v, ov, iv] []) := by intro _; rfl) : SS X W pin (.Assign [.Subscript o i p2] e pos) (xSetT fe fo fi) := ss_setT hu he ho hi hs hw h1 ha
end
end Lz
/-! how the plain functions are worked out: first-order steps, no binders -/
namespace Lz
open PySem PySem.Spec PyProof.Rows L2
@[simp] theorem lim_ev : lim = 16777216 := rfl
@[simp] theorem gt_z {x : Option T} {r : Env} : gt (x :: r) 0 = x := rfl
@[simp] theorem gt_s {x : Option T} {r : Env} {n : Nat} : gt (x :: r) (n + 1) = gt r n := rfl
@[simp] theorem pt_z {x y : Option T} {r : Env} : pt (x :: r) 0 y = y :: r := rfl
@[simp] theorem pt_s {x y : Option T} {r : Env} {n : Nat} : pt (x :: r) (n + 1) y = x :: pt r n y := rfl
@[simp] theorem bind_ok {α β : Type} {a : α} {ρ : Env} {k : α → Env → R β} : (R.ok a ρ).bind k = k a ρ := rfl
@[simp] theorem bind_exc {α β : Type} {c : Str} {ρ : Env} {k : α → Env → R β} : (R.exc c ρ : R α).bind k = .exc c ρ := rfl
@[simp] theorem bind_bad {α β : Type} {k : α → Env → R β} : (R.bad : R α).bind k = .bad := rfl
section
variable {ρ : Env} {i : Nat} {d : D} {x : XV} {o : Bool}
@[simp] theorem sC_ev : sC d ρ = .ok (.v false d) ρ := rfl
@[simp] theorem view_v : view (.v o d) ρ = some d := rfl
def viewK : Option T → Option D
  | some t => some t.2
  | none => none
@[simp] theorem viewK_s {t : T} : viewK (some t) = some t.2 := rfl
@[simp] theorem view_b : view (.b i) ρ = viewK (gt ρ i) := by show (gt ρ i).map _ = _; cases gt ρ i <;> rfl
def varK (i : Nat) (ρ : Env) : Option T → R XV
  | some (true, _) => .ok (.b i) ρ
  | some (false, d) => .ok (.v false d) ρ
  | none => .bad
@[simp] theorem varK_t : varK i ρ (some (true, d)) = .ok (.b i) ρ := rfl
@[simp] theorem varK_f : varK i ρ (some (false, d)) = .ok (.v false d) ρ := rfl
@[simp] theorem sVar_ev : sVar i ρ = varK i ρ (gt ρ i) := by
  unfold sVar varK
  cases gt ρ i with
  | none => rfl
  | some t => obtain ⟨o, d⟩ := t; cases o <;> rfl
def ansK (ρ : Env) : Option T → R XV
  | some t => .ok (.v t.1 t.2) ρ
  | none => .bad
@[simp] theorem ansK_s {t : T} : ansK ρ (some t) = .ok (.v t.1 t.2) ρ := rfl
@[simp] theorem ansK_n : ansK ρ none = .bad := rfl
def op2K (f : D → D → Option T) (ρ : Env) : Option D → Option D → R XV
  | some d, some e => ansK ρ (f d e)
  | _, _ => .bad
@[simp] theorem op2K_s {f : D → D → Option T} {d e : D} : op2K f ρ (some d) (some e) = ansK ρ (f d e) := rfl
@[simp] theorem op2_ev {f : D → D → Option T} {x y : XV} : op2 f x y ρ = op2K f ρ (view x ρ) (view y ρ) := by
  unfold op2 op2K ansK
  cases view x ρ <;> cases view y ρ <;> try rfl
def kBin (f : D → D → Option T) (b : Env → R XV) (x : XV) (ρ : Env) : R XV := (b ρ).bind (op2 f x)
@[simp] theorem kBin_ev {f : D → D → Option T} {b : Env → R XV} : kBin f b x ρ = (b ρ).bind (op2 f x) := rfl
@[simp] theorem sBin_ev {f : D → D → Option T} {a b : Env → R XV} : sBin f a b ρ = (a ρ).bind (kBin f b) := rfl
def op1K (f : D → Option T) (ρ : Env) : Option D → R XV
  | some d => ansK ρ (f d)
  | _ => .bad
@[simp] theorem op1K_s {f : D → Option T} {d : D} : op1K f ρ (some d) = ansK ρ (f d) := rfl
@[simp] theorem op1_ev {f : D → Option T} {x : XV} : op1 f x ρ = op1K f ρ (view x ρ) := by
  unfold op1 op1K ansK
  cases view x ρ <;> rfl
@[simp] theorem sUn_ev {f : D → Option T} {a : Env → R XV} : sUn f a ρ = (a ρ).bind (op1 f) := rfl
def asBK (ρ : Env) : Option D → R Bool
  | some (.bl b) => .ok b ρ
  | _ => .bad
@[simp] theorem asBK_s {b : Bool} : asBK ρ (some (.bl b)) = .ok b ρ := rfl
@[simp] theorem asB_ev {x : XV} : asB x ρ = asBK ρ (view x ρ) := by
  unfold asB asBK
  cases view x ρ with
  | none => rfl
  | some d => cases d <;> rfl
@[simp] theorem sB_ev {f : Env → R XV} : sB f ρ = (f ρ).bind asB := rfl
def andK (g : Env → R Bool) (c : Bool) (ρ : Env) : R Bool := match c with
  | true => g ρ
  | false => .ok false ρ
@[simp] theorem andK_t {g : Env → R Bool} : andK g true ρ = g ρ := rfl
@[simp] theorem andK_f {g : Env → R Bool} : andK g false ρ = .ok false ρ := rfl
@[simp] theorem bAnd_ev {f g : Env → R Bool} : bAnd f g ρ = (f ρ).bind (andK g) := by unfold bAnd; congr 1; funext c ρ; cases c <;> rfl
def orK (g : Env → R Bool) (c : Bool) (ρ : Env) : R Bool := match c with
  | true => .ok true ρ
  | false => g ρ
@[simp] theorem orK_t {g : Env → R Bool} : orK g true ρ = .ok true ρ := rfl
@[simp] theorem orK_f {g : Env → R Bool} : orK g false ρ = g ρ := rfl
@[simp] theorem bOr_ev {f g : Env → R Bool} : bOr f g ρ = (f ρ).bind (orK g) := by unfold bOr; congr 1; funext c ρ; cases c <;> rfl
def notK (c : Bool) (ρ : Env) : R Bool := .ok (!c) ρ
@[simp] theorem notK_ev {c : Bool} : notK c ρ = .ok (!c) ρ := rfl
@[simp] theorem bNot_ev {f : Env → R Bool} : bNot f ρ = (f ρ).bind notK := rfl
def ofBK (c : Bool) (ρ : Env) : R XV := .ok (.v false (.bl c)) ρ
@[simp] theorem ofBK_ev {c : Bool} : ofBK c ρ = .ok (.v false (.bl c)) ρ := rfl
@[simp] theorem sOfB_ev {f : Env → R Bool} : sOfB f ρ = (f ρ).bind ofBK := rfl
def sAndK (g : Env → R XV) (c : Bool) (ρ : Env) : R XV := match c with
  | true => g ρ
  | false => .ok (.v false (.bl false)) ρ
@[simp] theorem sAndK_t {g : Env → R XV} : sAndK g true ρ = g ρ := rfl
@[simp] theorem sAndK_f {g : Env → R XV} : sAndK g false ρ = .ok (.v false (.bl false)) ρ := rfl
@[simp] theorem sAnd_ev {f : Env → R Bool} {g : Env → R XV} : sAnd f g ρ = (f ρ).bind (sAndK g) := by unfold sAnd; congr 1; funext c ρ; cases c <;> rfl
def sOrK (g : Env → R XV) (c : Bool) (ρ : Env) : R XV := match c with
  | true => .ok (.v false (.bl true)) ρ
  | false => g ρ
@[simp] theorem sOrK_t {g : Env → R XV} : sOrK g true ρ = .ok (.v false (.bl true)) ρ := rfl
@[simp] theorem sOrK_f {g : Env → R XV} : sOrK g false ρ = g ρ := rfl
@[simp] theorem sOr_ev {f : Env → R Bool} {g : Env → R XV} : sOr f g ρ = (f ρ).bind (sOrK g) := by unfold sOr; congr 1; funext c ρ; cases c <;> rfl
@[simp] theorem sNil_ev : sNil ρ = .ok [] ρ := rfl
def consK2 (x : XV) (xs : List XV) (ρ : Env) : R (List XV) := .ok (x :: xs) ρ
@[simp] theorem consK2_ev {xs : List XV} : consK2 x xs ρ = .ok (x :: xs) ρ := rfl
def consK (g : Env → R (List XV)) (x : XV) (ρ : Env) : R (List XV) := (g ρ).bind (consK2 x)
@[simp] theorem consK_ev {g : Env → R (List XV)} : consK g x ρ = (g ρ).bind (consK2 x) := rfl
@[simp] theorem sCons_ev {f : Env → R XV} {g : Env → R (List XV)} : sCons f g ρ = (f ρ).bind (consK g) := rfl
@[simp] theorem frz_v : frz (.v o d) ρ = .ok d ρ := rfl
def frzK (i : Nat) (ρ : Env) : Option T → R D
  | some t => .ok t.2 (pt ρ i (some (false, t.2)))
  | none => .bad
@[simp] theorem frzK_s {t : T} : frzK i ρ (some t) = .ok t.2 (pt ρ i (some (false, t.2))) := rfl
@[simp] theorem frz_b : frz (.b i) ρ = frzK i ρ (gt ρ i) := by unfold frz frzK; (try dsimp only); try (cases gt ρ i <;> rfl)
@[simp] theorem frzs_nil : frzs [] ρ = .ok [] ρ := rfl
def frzsK2 (d : D) (ds : List D) (ρ : Env) : R (List D) := .ok (d :: ds) ρ
@[simp] theorem frzsK2_ev {ds : List D} : frzsK2 d ds ρ = .ok (d :: ds) ρ := rfl
def frzsK (xs : List XV) (d : D) (ρ : Env) : R (List D) := (frzs xs ρ).bind (frzsK2 d)
@[simp] theorem frzsK_ev {xs : List XV} : frzsK xs d ρ = (frzs xs ρ).bind (frzsK2 d) := rfl
@[simp] theorem frzs_cons {xs : List XV} : frzs (x :: xs) ρ = (frz x ρ).bind (frzsK xs) := rfl
def tupK2 (ds : List D) (ρ : Env) : R XV := if ds.length ≤ lim then .ok (.v false (.tup ds)) ρ else .bad
@[simp] theorem tupK2_ev {ds : List D} : tupK2 ds ρ = if ds.length ≤ lim then .ok (.v false (.tup ds)) ρ else .bad := rfl
def tupK (xs : List XV) (ρ : Env) : R XV := (frzs xs ρ).bind tupK2
@[simp] theorem tupK_ev {xs : List XV} : tupK xs ρ = (frzs xs ρ).bind tupK2 := rfl
@[simp] theorem sTup_ev {f : Env → R (List XV)} : sTup f ρ = (f ρ).bind tupK := rfl
def lstK2 (ds : List D) (ρ : Env) : R XV := if ds.length ≤ lim then .ok (.v true (.lst ds)) ρ else .bad
@[simp] theorem lstK2_ev {ds : List D} : lstK2 ds ρ = if ds.length ≤ lim then .ok (.v true (.lst ds)) ρ else .bad := rfl
def lstK (xs : List XV) (ρ : Env) : R XV := (frzs xs ρ).bind lstK2
@[simp] theorem lstK_ev {xs : List XV} : lstK xs ρ = (frzs xs ρ).bind lstK2 := rfl
@[simp] theorem sLst_ev {f : Env → R (List XV)} : sLst f ρ = (f ρ).bind lstK := rfl
@[simp] theorem views_nil : views [] ρ = some [] := rfl
def vcK : Option D → Option (List D) → Option (List D)
  | some d, some ds => some (d :: ds)
  | _, _ => none
@[simp] theorem vcK_s {ds : List D} : vcK (some d) (some ds) = some (d :: ds) := rfl
@[simp] theorem views_cons {xs : List XV} : views (x :: xs) ρ = vcK (view x ρ) (views xs ρ) := by
  show (view x ρ).bind _ = _
  cases view x ρ <;> cases views xs ρ <;> rfl
def opNK (cf : List D → Option T) (ρ : Env) : Option (List D) → R XV
  | some ds => ansK ρ (cf ds)
  | none => .bad
@[simp] theorem opNK_s {cf : List D → Option T} {ds : List D} : opNK cf ρ (some ds) = ansK ρ (cf ds) := rfl
@[simp] theorem opN_ev {cf : List D → Option T} {xs : List XV} : opN cf xs ρ = opNK cf ρ (views xs ρ) := by
  unfold opN opNK ansK
  cases views xs ρ <;> rfl
@[simp] theorem sCl_ev {cf : List D → Option T} {f : Env → R (List XV)} : sCl cf f ρ = (f ρ).bind (opN cf) := rfl
@[simp] theorem sOpt_none : sOpt none ρ = .ok none ρ := rfl
def optK2 (ρ : Env) : Option D → R (Option Int)
  | some (.int i) => .ok (some i) ρ
  | _ => .bad
@[simp] theorem optK2_s {i : Int} : optK2 ρ (some (.int i)) = .ok (some i) ρ := rfl
def optK (x : XV) (ρ : Env) : R (Option Int) := optK2 ρ (view x ρ)
@[simp] theorem optK_ev : optK x ρ = optK2 ρ (view x ρ) := rfl
@[simp] theorem sOpt_some {f : Env → R XV} : sOpt (some f) ρ = (f ρ).bind optK := by
  unfold sOpt
  dsimp only
  congr 1
def slK3 (f : D → Option Int → Option Int → Option T) (x : XV) (l h : Option Int) (ρ : Env) : R XV := op1K (fun d => f d l h) ρ (view x ρ)
def slK4 (f : D → Option Int → Option Int → Option T) (l h : Option Int) (ρ : Env) : Option D → R XV
  | some d => ansK ρ (f d l h)
  | none => .bad
@[simp] theorem slK4_s {f : D → Option Int → Option Int → Option T} {l h : Option Int} : slK4 f l h ρ (some d) = ansK ρ (f d l h) := rfl
@[simp] theorem slK3_ev {f : D → Option Int → Option Int → Option T} {l h : Option Int} : slK3 f x l h ρ = slK4 f l h ρ (view x ρ) := by
  unfold slK3 slK4 op1K
  cases view x ρ <;> rfl
def slK2 (f : D → Option Int → Option Int → Option T) (hi : Option (Env → R XV)) (x : XV) (l : Option Int) (ρ : Env) : R XV := (sOpt hi ρ).bind (slK3 f x l)
@[simp] theorem slK2_ev {f : D → Option Int → Option Int → Option T} {hi : Option (Env → R XV)} {l : Option Int} : slK2 f hi x l ρ = (sOpt hi ρ).bind (slK3 f x l) := rfl
def slK (f : D → Option Int → Option Int → Option T) (lo hi : Option (Env → R XV)) (x : XV) (ρ : Env) : R XV := (sOpt lo ρ).bind (slK2 f hi x)
@[simp] theorem slK_ev {f : D → Option Int → Option Int → Option T} {lo hi : Option (Env → R XV)} : slK f lo hi x ρ = (sOpt lo ρ).bind (slK2 f hi x) := rfl
@[simp] theorem sSl_ev {f : D → Option Int → Option Int → Option T} {a : Env → R XV} {lo hi : Option (Env → R XV)} : sSl f a lo hi ρ = (a ρ).bind (slK f lo hi) := by
  unfold sSl
  congr 1
def opMK (mf : D → List D → Option T) (ρ : Env) : Option D → Option (List D) → R XV
  | some d, some ds => ansK ρ (mf d ds)
  | _, _ => .bad
@[simp] theorem opMK_s {mf : D → List D → Option T} {ds : List D} : opMK mf ρ (some d) (some ds) = ansK ρ (mf d ds) := rfl
@[simp] theorem opM_ev {mf : D → List D → Option T} {xs : List XV} : opM mf x xs ρ = opMK mf ρ (view x ρ) (views xs ρ) := by
  unfold opM opMK ansK
  cases view x ρ <;> cases views xs ρ <;> rfl
def mtK2 (ty : String) (mf : D → List D → Option T) (f : Env → R (List XV)) (x : XV) (ρ : Env) : Option D → R XV
  | some d => if isTy ty d = true then (f ρ).bind (opM mf x) else .bad
  | none => .bad
@[simp] theorem mtK2_s {ty : String} {mf : D → List D → Option T} {f : Env → R (List XV)} : mtK2 ty mf f x ρ (some d) = if isTy ty d = true then (f ρ).bind (opM mf x) else .bad := rfl
def mtK (ty : String) (mf : D → List D → Option T) (f : Env → R (List XV)) (x : XV) (ρ : Env) : R XV := mtK2 ty mf f x ρ (view x ρ)
@[simp] theorem mtK_ev {ty : String} {mf : D → List D → Option T} {f : Env → R (List XV)} : mtK ty mf f x ρ = mtK2 ty mf f x ρ (view x ρ) := rfl
@[simp] theorem sMt_ev {ty : String} {mf : D → List D → Option T} {a : Env → R XV} {f : Env → R (List XV)} : sMt ty mf a f ρ = (a ρ).bind (mtK ty mf f) := by
  unfold sMt
  congr 1
@[simp] theorem isTy_tup {xs : List D} : isTy "tuple" (.tup xs) = true := rfl
@[simp] theorem isTy_lst {xs : List D} : isTy "list" (.lst xs) = true := rfl
@[simp] theorem isTy_str {z : Str} : isTy "str" (.str z) = true := rfl
def isLK : Option T → Bool
  | some (true, .lst _) => true
  | _ => false
@[simp] theorem isLK_s {ds : List D} : isLK (some (true, .lst ds)) = true := rfl
@[simp] theorem isL_b : isL (.b i) ρ = isLK (gt ρ i) := by
  unfold isL isLK
  rfl
def muK (op : XV → List XV → Env → R XV) (f : Env → R (List XV)) (x : XV) (ρ : Env) : R XV := if isL x ρ = true then (f ρ).bind (op x) else .bad
@[simp] theorem muK_ev {op : XV → List XV → Env → R XV} {f : Env → R (List XV)} : muK op f x ρ = if isL x ρ = true then (f ρ).bind (op x) else .bad := rfl
@[simp] theorem sMu_ev {op : XV → List XV → Env → R XV} {a : Env → R XV} {f : Env → R (List XV)} : sMu op a f ρ = (a ρ).bind (muK op f) := rfl
def appK2 (i : Nat) (d : D) (ρ : Env) : Option T → R XV
  | some (true, .lst ds) => if ds.length < lim then .ok (.v false .non) (pt ρ i (some (true, .lst (ds ++ [d])))) else .bad
  | _ => .bad
@[simp] theorem appK2_s {ds : List D} : appK2 i d ρ (some (true, .lst ds)) = if ds.length < lim then .ok (.v false .non) (pt ρ i (some (true, .lst (ds ++ [d])))) else .bad := rfl
def appK (i : Nat) (d : D) (ρ : Env) : R XV := appK2 i d ρ (gt ρ i)
@[simp] theorem appK_ev : appK i d ρ = appK2 i d ρ (gt ρ i) := rfl
@[simp] theorem opApp_ev {y : XV} : opApp (.b i) [y] ρ = (frz y ρ).bind (appK i) := by
  unfold opApp
  dsimp only
  congr 1
def extK (i : Nat) (ρ : Env) : Option D → Option T → R XV
  | some (.lst es), some (true, .lst ds) => if ds.length + es.length ≤ lim then .ok (.v false .non) (pt ρ i (some (true, .lst (ds ++ es)))) else .bad
  | _, _ => .bad
@[simp] theorem extK_s {es ds : List D} : extK i ρ (some (.lst es)) (some (true, .lst ds)) = if ds.length + es.length ≤ lim then .ok (.v false .non) (pt ρ i (some (true, .lst (ds ++ es)))) else .bad := rfl
@[simp] theorem opExt_ev {y : XV} : opExt (.b i) [y] ρ = extK i ρ (view y ρ) (gt ρ i) := by
  unfold opExt extK
  rfl
@[simp] theorem xNx_ev : xNx ρ = .ok .nx ρ := rfl
def seqK (g : Env → R Fl) : R Fl → R Fl
  | .ok .nx ρ' => g ρ'
  | .ok .bk ρ' => .ok .bk ρ'
  | .ok .ct ρ' => .ok .ct ρ'
  | .ok (.rt t) ρ' => .ok (.rt t) ρ'
  | .ok (.ra i) ρ' => .ok (.ra i) ρ'
  | .exc c ρ' => .exc c ρ'
  | .bad => .bad
@[simp] theorem seqK_nx {g : Env → R Fl} : seqK g (.ok .nx ρ) = g ρ := rfl
@[simp] theorem seqK_bk {g : Env → R Fl} : seqK g (.ok .bk ρ) = .ok .bk ρ := rfl
@[simp] theorem seqK_ct {g : Env → R Fl} : seqK g (.ok .ct ρ) = .ok .ct ρ := rfl
@[simp] theorem seqK_rt {g : Env → R Fl} {t : T} : seqK g (.ok (.rt t) ρ) = .ok (.rt t) ρ := rfl
@[simp] theorem seqK_ra {g : Env → R Fl} : seqK g (.ok (.ra i) ρ) = .ok (.ra i) ρ := rfl
@[simp] theorem seqK_exc {g : Env → R Fl} {c : Str} : seqK g (.exc c ρ) = .exc c ρ := rfl
@[simp] theorem xSeq_ev {f g : Env → R Fl} : xSeq f g ρ = seqK g (f ρ) := rfl
def dropK (_ : XV) (ρ : Env) : R Fl := .ok .nx ρ
@[simp] theorem dropK_ev : dropK x ρ = .ok .nx ρ := rfl
@[simp] theorem xExpr_ev {f : Env → R XV} : xExpr f ρ = (f ρ).bind dropK := rfl
@[simp] theorem retX_v {np : Nat} : retX np (.v o d) ρ = .ok (.rt (o, d)) ρ := rfl
def retK (np i : Nat) (ρ : Env) : Option T → R Fl
  | some t => if i < np then .ok (.ra i) ρ else .ok (.rt t) (pt ρ i none)
  | none => .bad
@[simp] theorem retK_s {np : Nat} {t : T} : retK np i ρ (some t) = if i < np then .ok (.ra i) ρ else .ok (.rt t) (pt ρ i none) := rfl
@[simp] theorem retX_b {np : Nat} : retX np (.b i) ρ = retK np i ρ (gt ρ i) := by unfold retX retK; (try dsimp only); try (cases gt ρ i <;> rfl)
@[simp] theorem xRet_ev {np : Nat} {f : Env → R XV} : xRet np f ρ = (f ρ).bind (retX np) := rfl
@[simp] theorem xRetN_ev : xRetN ρ = .ok (.rt (false, .non)) ρ := rfl
def ifK (f g : Env → R Fl) (b : Bool) (ρ : Env) : R Fl := match b with
  | true => f ρ
  | false => g ρ
@[simp] theorem ifK_t {f g : Env → R Fl} : ifK f g true ρ = f ρ := rfl
@[simp] theorem ifK_f {f g : Env → R Fl} : ifK f g false ρ = g ρ := rfl
@[simp] theorem xIf_ev {c : Env → R Bool} {f g : Env → R Fl} : xIf c f g ρ = (c ρ).bind (ifK f g) := by unfold xIf; congr 1; funext b ρ; cases b <;> rfl
@[simp] theorem putY_v : putY i (.v o d) ρ = .ok .nx (pt ρ i (some (o, d))) := rfl
def putK (i j : Nat) (ρ : Env) : Option T → R Fl
  | some t => .ok .nx (pt (pt ρ j (some (false, t.2))) i (some (false, t.2)))
  | none => .bad
@[simp] theorem putK_s {j : Nat} {t : T} : putK i j ρ (some t) = .ok .nx (pt (pt ρ j (some (false, t.2))) i (some (false, t.2))) := rfl
@[simp] theorem putY_b {j : Nat} : putY i (.b j) ρ = putK i j ρ (gt ρ j) := by unfold putY putK; (try dsimp only); try (cases gt ρ j <;> rfl)
@[simp] theorem xSt_ev {f : Env → R XV} : xSt i f ρ = (f ρ).bind (putY i) := rfl
@[simp] theorem gN_ev : gN i d ρ = some (pt ρ i (some (false, d))) := rfl
@[simp] theorem gNl_ev : gNl [] ρ = some ρ := rfl
def gCnK (h : List D → Env → Option Env) (r : List D) : Option Env → Option Env
  | some ρ => h r ρ
  | none => none
@[simp] theorem gCnK_s {h : List D → Env → Option Env} {r : List D} : gCnK h r (some ρ) = h r ρ := rfl
@[simp] theorem gCn_ev {g : D → Env → Option Env} {h : List D → Env → Option Env} {r : List D} : gCn g h (d :: r) ρ = gCnK h r (g d ρ) := by
  show (g d ρ).bind _ = _
  cases g d ρ <;> rfl
@[simp] theorem gTp_ev {n : Nat} {h : List D → Env → Option Env} {ds : List D} : gTp n h (.tup ds) ρ = if ds.length = n then h ds ρ else none := rfl
def pgK2 : Option Env → R Fl
  | some ρ => .ok .nx ρ
  | none => .bad
@[simp] theorem pgK2_s : pgK2 (some ρ) = .ok .nx ρ := rfl
def pgK (g : D → Env → Option Env) (d : D) (ρ : Env) : R Fl := pgK2 (g d ρ)
@[simp] theorem pgK_ev {g : D → Env → Option Env} : pgK g d ρ = pgK2 (g d ρ) := rfl
@[simp] theorem putG_ev {g : D → Env → Option Env} : putG g x ρ = (frz x ρ).bind (pgK g) := by
  unfold putG
  congr 1
@[simp] theorem xSetG_ev {g : D → Env → Option Env} {f : Env → R XV} : xSetG g f ρ = (f ρ).bind (putG g) := rfl
def siK3 (i m : Nat) (d : D) (ρ : Env) (ds : List D) : R Fl := .ok .nx (pt ρ i (some (true, .lst (ds.set m d))))
def siK4 (i : Nat) (ρ : Env) (d : D) (ds : List D) : Option Nat → R Fl
  | some m => .ok .nx (pt ρ i (some (true, .lst (ds.set m d))))
  | none => .bad
@[simp] theorem siK4_s {ds : List D} {m : Nat} : siK4 i ρ d ds (some m) = .ok .nx (pt ρ i (some (true, .lst (ds.set m d)))) := rfl
def siK2 (i : Nat) (k : Int) (d : D) (ρ : Env) : Option T → R Fl
  | some (true, .lst ds) => siK4 i ρ d ds (ixN ds.length k)
  | _ => .bad
@[simp] theorem siK2_s {ds : List D} {k : Int} : siK2 i k d ρ (some (true, .lst ds)) = siK4 i ρ d ds (ixN ds.length k) := rfl
def siK1 (i : Nat) (k : Int) (d : D) (ρ : Env) : R Fl := siK2 i k d ρ (gt ρ i)
@[simp] theorem siK1_ev {k : Int} : siK1 i k d ρ = siK2 i k d ρ (gt ρ i) := rfl
def siK0 (i : Nat) (y : XV) (ρ : Env) : Option D → R Fl
  | some (.int k) => (frz y ρ).bind (siK1 i k)
  | _ => .bad
@[simp] theorem siK0_s {y : XV} {k : Int} : siK0 i y ρ (some (.int k)) = (frz y ρ).bind (siK1 i k) := rfl
def siKc (x y z : XV) (ρ : Env) : R Fl := opSetI x z y ρ
@[simp] theorem siKc_b {z y : XV} : siKc (.b i) y z ρ = siK0 i y ρ (view z ρ) := by
  unfold siKc opSetI siK0
  cases view z ρ with
  | none => rfl
  | some d =>
    cases d <;> try rfl
def siKb (fi : Env → R XV) (y x : XV) (ρ : Env) : R Fl := (fi ρ).bind (siKc x y)
@[simp] theorem siKb_ev {fi : Env → R XV} {y : XV} : siKb fi y x ρ = (fi ρ).bind (siKc x y) := rfl
def siKa (fo fi : Env → R XV) (y : XV) (ρ : Env) : R Fl := (fo ρ).bind (siKb fi y)
@[simp] theorem siKa_ev {fo fi : Env → R XV} {y : XV} : siKa fo fi y ρ = (fo ρ).bind (siKb fi y) := rfl
@[simp] theorem xSetI_ev {fe fo fi : Env → R XV} : xSetI fe fo fi ρ = (fe ρ).bind (siKa fo fi) := rfl
@[simp] theorem xRaise_ev {c : Str} : xRaise c ρ = .exc c ρ := rfl
@[simp] theorem cT_ev : cT ρ = .ok true ρ := rfl
def itsK (ρ : Env) (lk : Option (Nat × T)) : Option (List D) → R Its
  | some l => .ok ⟨l, lk⟩ ρ
  | none => .bad
@[simp] theorem itsK_s {l : List D} {lk : Option (Nat × T)} : itsK ρ lk (some l) = .ok ⟨l, lk⟩ ρ := rfl
@[simp] theorem itX_v : itX (.v o d) ρ = itsK ρ none (itemsD d) := by unfold itX itsK; (try dsimp only); try (cases itemsD d <;> rfl)
def itbK (i : Nat) (ρ : Env) : Option T → R Its
  | some t => itsK (pt ρ i none) (some (i, t)) (itemsD t.2)
  | none => .bad
@[simp] theorem itbK_s {t : T} : itbK i ρ (some t) = itsK (pt ρ i none) (some (i, t)) (itemsD t.2) := rfl
@[simp] theorem itX_b : itX (.b i) ρ = itbK i ρ (gt ρ i) := by
  unfold itX itbK
  dsimp only
  cases gt ρ i with
  | none => rfl
  | some t => dsimp only; unfold itsK; cases itemsD t.2 <;> rfl
@[simp] theorem sItE_ev {f : Env → R XV} : sItE f ρ = (f ρ).bind itX := rfl
@[simp] theorem itemsD_tup {xs : List D} : itemsD (.tup xs) = some xs := rfl
@[simp] theorem itemsD_lst {xs : List D} : itemsD (.lst xs) = some xs := rfl
@[simp] theorem sRng_ev {f : Env → R (List XV)} : sRng f ρ = (f ρ).bind rngX := rfl
noncomputable def rngK (ρ : Env) : Option (List D) → R Its
  | some [.int n] => cif (-(2 ^ 62) ≤ n ∧ n ≤ 16777216) (.ok ⟨rngL 0 1 n.toNat, none⟩ ρ) .bad
  | some [.int a, .int b] => cif (-(2 ^ 62) ≤ a ∧ a < 2 ^ 62 ∧ -(2 ^ 62) ≤ b ∧ b < 2 ^ 62 ∧ b - a ≤ 16777216) (.ok ⟨rngL a 1 (b - a).toNat, none⟩ ρ) .bad
  | _ => .bad
@[simp] theorem rngK_1 {n : Int} : rngK ρ (some [.int n]) = cif (-(2 ^ 62) ≤ n ∧ n ≤ 16777216) (.ok ⟨rngL 0 1 n.toNat, none⟩ ρ) .bad := rfl
@[simp] theorem rngK_2 {a b : Int} : rngK ρ (some [.int a, .int b]) = cif (-(2 ^ 62) ≤ a ∧ a < 2 ^ 62 ∧ -(2 ^ 62) ≤ b ∧ b < 2 ^ 62 ∧ b - a ≤ 16777216) (.ok ⟨rngL a 1 (b - a).toNat, none⟩ ρ) .bad := rfl
@[simp] theorem rngX_ev {xs : List XV} : rngX xs ρ = rngK ρ (views xs ρ) := by
  unfold rngX rngK
  rfl
@[simp] theorem relk_none {α : Type} {a : α} : relk none (R.ok a ρ) = .ok a ρ := rfl
@[simp] theorem relk_none_exc {α : Type} {c : Str} : relk none (R.exc c ρ : R α) = .exc c ρ := rfl
def relkK {α : Type} (i : Nat) (t : T) (a : α) (ρ : Env) : Option T → R α
  | none => .ok a (pt ρ i (some t))
  | some _ => .bad
@[simp] theorem relkK_n {α : Type} {a : α} {t : T} : relkK i t a ρ none = .ok a (pt ρ i (some t)) := rfl
@[simp] theorem relk_some {α : Type} {a : α} {t : T} : relk (some (i, t)) (R.ok a ρ) = relkK i t a ρ (gt ρ i) := by
  unfold relk unlk relkK
  dsimp only
  cases gt ρ i <;> rfl
@[simp] theorem lkOk_none {L : List Nat} : lkOk L none = true := rfl
@[simp] theorem lkOk_some {L : List Nat} {t : T} : lkOk L (some (i, t)) = L.contains i := rfl
def frK (L : List Nat) (g : D → Env → Option Env) (f : Env → R Fl) (it : Its) (ρ : Env) : R Fl := if lkOk L it.lk = true then relk it.lk (forL g f it.items ρ) else .bad
@[simp] theorem frK_ev {L : List Nat} {g : D → Env → Option Env} {f : Env → R Fl} {it : Its} : frK L g f it ρ = if lkOk L it.lk = true then relk it.lk (forL g f it.items ρ) else .bad := rfl
@[simp] theorem xFr_ev {L : List Nat} {si : Env → R Its} {g : D → Env → Option Env} {f : Env → R Fl} : xFr L si g f ρ = (si ρ).bind (frK L g f) := rfl
@[simp] theorem noX_ok {α : Type} {a : α} : noX (R.ok a ρ) = .ok a ρ := rfl
@[simp] theorem clr_nil : clr [] ρ = ρ := rfl
@[simp] theorem clr_cons {r : List Nat} : clr (i :: r) ρ = pt (clr r ρ) i none := rfl
@[simp] theorem rest_nil {ρ' : Env} : rest [] ρ ρ' = ρ' := rfl
def restK (i : Nat) (ρ' : Env) : Option T → Env
  | some t => pt ρ' i (some t)
  | none => ρ'
@[simp] theorem restK_s {ρ' : Env} {t : T} : restK i ρ' (some t) = pt ρ' i (some t) := rfl
@[simp] theorem restK_n {ρ' : Env} : restK i ρ' none = ρ' := rfl
@[simp] theorem rest_cons {r : List Nat} {ρ' : Env} : rest (i :: r) ρ ρ' = rest r ρ (restK i ρ' (gt (clr r ρ) i)) := by
  show rest r ρ _ = _
  unfold restK
  rfl
def compK2 (own : List Nat) (ρ1 : Env) (es : List D) (ρ2 : Env) : R XV := .ok (.v true (.lst es)) (rest own ρ1 ρ2)
@[simp] theorem compK2_ev {own : List Nat} {ρ1 : Env} {es : List D} : compK2 own ρ1 es ρ = .ok (.v true (.lst es)) (rest own ρ1 ρ) := rfl
def compK (own : List Nat) (g : D → Env → Option Env) (c : Env → R Bool) (f : Env → R XV) (it : Its) (ρ1 : Env) : R XV := relk it.lk ((noX (compL own g c f it.items (clr own ρ1))).bind (compK2 own ρ1))
@[simp] theorem compK_ev {own : List Nat} {g : D → Env → Option Env} {c : Env → R Bool} {f : Env → R XV} {it : Its} : compK own g c f it ρ = relk it.lk ((noX (compL own g c f it.items (clr own ρ))).bind (compK2 own ρ)) := rfl
@[simp] theorem sComp_ev {own : List Nat} {si : Env → R Its} {g : D → Env → Option Env} {c : Env → R Bool} {f : Env → R XV} : sComp own si g c f ρ = (si ρ).bind (compK own g c f) := rfl
@[simp] theorem takeA_nil : takeA [] ρ = some ([], ρ) := rfl
def tkK (t : T) : Option (List T × Env) → Option (List T × Env)
  | some p => some (t :: p.1, p.2)
  | none => none
@[simp] theorem tkK_s {t : T} {l : List T} : tkK t (some (l, ρ)) = some (t :: l, ρ) := rfl
@[simp] theorem takeA_v {xs : List XV} : takeA (.v o d :: xs) ρ = tkK (o, d) (takeA xs ρ) := by
  show (match takeA xs ρ with
    | some p => some ((o, d) :: p.1, p.2)
    | none => none) = _
  unfold tkK
  cases takeA xs ρ <;> rfl
def tkK2 (xs : List XV) (i : Nat) (ρ : Env) : Option T → Option (List T × Env)
  | some t => tkK t (takeA xs (pt ρ i none))
  | none => none
@[simp] theorem tkK2_s {xs : List XV} {t : T} : tkK2 xs i ρ (some t) = tkK t (takeA xs (pt ρ i none)) := rfl
@[simp] theorem takeA_b {xs : List XV} : takeA (.b i :: xs) ρ = tkK2 xs i ρ (gt ρ i) := by
  show (match gt ρ i with
    | some t => (match takeA xs (pt ρ i none) with
      | some p => some (t :: p.1, p.2)
      | none => none)
    | none => none) = _
  unfold tkK2 tkK
  cases gt ρ i with
  | none => rfl
  | some t => cases takeA xs (pt ρ i none) <;> rfl
@[simp] theorem putA_nil {outs : Env} : putA [] outs ρ = ρ := by cases outs <;> rfl
@[simp] theorem putA_v {xs : List XV} {t : Option T} {outs : Env} : putA (.v o d :: xs) (t :: outs) ρ = putA xs outs ρ := rfl
@[simp] theorem putA_b {xs : List XV} {t : T} {outs : Env} : putA (.b i :: xs) (some t :: outs) ρ = putA xs outs (pt ρ i (some t)) := rfl
def alK2 (xs : List XV) (outs : Env) (i : Nat) (ρ : Env) : Option T → R XV
  | some t => .ok (.v t.1 t.2) (putA xs (pt outs i none) ρ)
  | none => .bad
@[simp] theorem alK2_s {xs : List XV} {outs : Env} {t : T} : alK2 xs outs i ρ (some t) = .ok (.v t.1 t.2) (putA xs (pt outs i none) ρ) := rfl
def alK (xs : List XV) (outs : Env) (i : Nat) (ρ : Env) : Option XV → R XV
  | some (.b j) => .ok (.b j) (putA xs outs ρ)
  | some (.v _ _) => alK2 xs outs i ρ (gt outs i)
  | none => .bad
@[simp] theorem alK_b {xs : List XV} {outs : Env} {j : Nat} : alK xs outs i ρ (some (.b j)) = .ok (.b j) (putA xs outs ρ) := rfl
@[simp] theorem alK_v {xs : List XV} {outs : Env} : alK xs outs i ρ (some (.v o d)) = alK2 xs outs i ρ (gt outs i) := rfl
def calK2 (xs : List XV) (ρ : Env) : FR → R XV
  | .ok r outs => .ok (.v r.1 r.2) (putA xs outs ρ)
  | .al i outs => alK xs outs i ρ xs[i]?
  | .exc c => .exc c ρ
  | .bad => .bad
@[simp] theorem calK2_ok {xs : List XV} {r : T} {outs : Env} : calK2 xs ρ (.ok r outs) = .ok (.v r.1 r.2) (putA xs outs ρ) := rfl
@[simp] theorem calK2_al {xs : List XV} {outs : Env} : calK2 xs ρ (.al i outs) = alK xs outs i ρ xs[i]? := rfl
@[simp] theorem calK2_exc {xs : List XV} {c : Str} : calK2 xs ρ (.exc c) = .exc c ρ := rfl
def calK (F : List T → FR) (xs : List XV) : Option (List T × Env) → R XV
  | some p => calK2 xs p.2 (F p.1)
  | none => .bad
@[simp] theorem calK_s {F : List T → FR} {xs : List XV} {ts : List T} : calK F xs (some (ts, ρ)) = calK2 xs ρ (F ts) := rfl
@[simp] theorem opF_ev {F : List T → FR} {xs : List XV} : opF F xs ρ = calK F xs (takeA xs ρ) := by
  unfold opF calK
  cases takeA xs ρ with
  | none => rfl
  | some p =>
    dsimp only
    cases F p.1 with
    | al i outs =>
      dsimp only [calK2]
      unfold alK alK2
      cases xs[i]? with
      | none => rfl
      | some y => cases y <;> rfl
    | _ => rfl
@[simp] theorem sCallF_ev {F : List T → FR} {f : Env → R (List XV)} : sCallF F f ρ = (f ρ).bind (opF F) := rfl
@[simp] theorem keepP_z {pin : List Nat} {j : Nat} : keepP pin 0 j ρ = [] := by cases ρ <;> rfl
@[simp] theorem keepP_s {pin : List Nat} {n j : Nat} {y : Option T} : keepP pin (n + 1) j (y :: ρ) = (if pin.contains j = true then y else none) :: keepP pin n (j + 1) ρ := rfl
def bodyK (np : Nat) (pin : List Nat) : R Fl → FR
  | .ok (.rt t) ρ => .ok t (keepP pin np 0 ρ)
  | .ok .nx ρ => .ok (false, .non) (keepP pin np 0 ρ)
  | .ok (.ra i) ρ => if pin.contains i = true then .al i (keepP pin np 0 ρ) else .bad
  | .exc c _ => .exc c
  | _ => .bad
@[simp] theorem bodyK_rt {np : Nat} {pin : List Nat} {t : T} : bodyK np pin (.ok (.rt t) ρ) = .ok t (keepP pin np 0 ρ) := rfl
@[simp] theorem bodyK_nx {np : Nat} {pin : List Nat} : bodyK np pin (.ok .nx ρ) = .ok (false, .non) (keepP pin np 0 ρ) := rfl
@[simp] theorem bodyK_ra {np : Nat} {pin : List Nat} : bodyK np pin (.ok (.ra i) ρ) = if pin.contains i = true then .al i (keepP pin np 0 ρ) else .bad := rfl
@[simp] theorem bodyK_exc {np : Nat} {pin : List Nat} {c : Str} : bodyK np pin (.exc c ρ) = .exc c := rfl
def startE (N np : Nat) (ts : List T) : Env := ts.map some ++ List.replicate (N - np) none
@[simp] theorem bodyF_ev {np N : Nat} {pin : List Nat} {f : Env → R Fl} {ts : List T} : bodyF np pin N f ts = if ts.length = np then bodyK np pin (f (ts.map some ++ List.replicate (N - np) none)) else .bad := rfl
def chK2 (f' : D → D → Option T) (fc : Env → R XV) (y : XV) (ρ : Env) : Option T → R XV
  | some (_, .bl true) => (fc ρ).bind (op2 f' y)
  | some (_, .bl false) => .ok (.v false (.bl false)) ρ
  | _ => .bad
@[simp] theorem chK2_t {f' : D → D → Option T} {fc : Env → R XV} {y : XV} {o : Bool} : chK2 f' fc y ρ (some (o, .bl true)) = (fc ρ).bind (op2 f' y) := rfl
@[simp] theorem chK2_f {f' : D → D → Option T} {fc : Env → R XV} {y : XV} {o : Bool} : chK2 f' fc y ρ (some (o, .bl false)) = .ok (.v false (.bl false)) ρ := rfl
def chK1 (f f' : D → D → Option T) (fc : Env → R XV) (y : XV) (ρ : Env) : Option D → Option D → R XV
  | some d, some e => chK2 f' fc y ρ (f d e)
  | _, _ => .bad
@[simp] theorem chK1_s {f f' : D → D → Option T} {fc : Env → R XV} {y : XV} {e : D} : chK1 f f' fc y ρ (some d) (some e) = chK2 f' fc y ρ (f d e) := rfl
def chKb (f f' : D → D → Option T) (fc : Env → R XV) (x y : XV) (ρ : Env) : R XV := chK1 f f' fc y ρ (view x ρ) (view y ρ)
@[simp] theorem chKb_ev {f f' : D → D → Option T} {fc : Env → R XV} {y : XV} : chKb f f' fc x y ρ = chK1 f f' fc y ρ (view x ρ) (view y ρ) := rfl
def chKa (f f' : D → D → Option T) (fb fc : Env → R XV) (x : XV) (ρ : Env) : R XV := (fb ρ).bind (chKb f f' fc x)
@[simp] theorem chKa_ev {f f' : D → D → Option T} {fb fc : Env → R XV} : chKa f f' fb fc x ρ = (fb ρ).bind (chKb f f' fc x) := rfl
@[simp] theorem sChain_ev {f f' : D → D → Option T} {fa fb fc : Env → R XV} : sChain f f' fa fb fc ρ = (fa ρ).bind (chKa f f' fb fc) := by
  unfold sChain
  congr 1
end
/-! the operators -/
section
variable {i j : Int} {a b : Str} {xs ys : List D}
@[simp] theorem opAdd_int : opAdd (.int i) (.int j) = some (false, .int (i + j)) := rfl
@[simp] theorem opAdd_tup : opAdd (.tup xs) (.tup ys) = if xs.length + ys.length ≤ lim then some (false, .tup (xs ++ ys)) else none := rfl
@[simp] theorem opAdd_lst : opAdd (.lst xs) (.lst ys) = if xs.length + ys.length ≤ lim then some (true, .lst (xs ++ ys)) else none := rfl
@[simp] theorem opAdd_str : opAdd (.str a) (.str b) = if a.length + b.length ≤ lim then some (false, .str (a ++ b)) else none := rfl
@[simp] theorem opSub_int : opSub (.int i) (.int j) = some (false, .int (i - j)) := rfl
@[simp] theorem opMul_int : opMul (.int i) (.int j) = cif ((-(2 ^ 64) < i ∧ i < 2 ^ 64) ∨ (-(2 ^ 64) < j ∧ j < 2 ^ 64)) (some (false, .int (i * j))) none := rfl
@[simp] theorem opMod_int : opMod (.int i) (.int j) = if j = 0 then none else some (false, .int (i.fmod j)) := rfl
@[simp] theorem opFdv_int : opFdv (.int i) (.int j) = if j ≠ 0 ∧ j.natAbs < 1073741824 then some (false, .int (i.fdiv j)) else none := rfl
@[simp] theorem opPow_int : opPow (.int i) (.int j) = if 0 ≤ j ∧ j ≤ 1000000 ∧ i.natAbs < 2 ^ 64 then some (false, .int (i ^ j.toNat)) else none := rfl
@[simp] theorem opNeg_int : opNeg (.int i) = some (false, .int (-i)) := rfl
@[simp] theorem opLt_int : opLt (.int i) (.int j) = some (false, .bl (decide (i < j))) := rfl
@[simp] theorem opLe_int : opLe (.int i) (.int j) = some (false, .bl (decide (i ≤ j))) := rfl
@[simp] theorem opGt_int : opGt (.int i) (.int j) = some (false, .bl (decide (j < i))) := rfl
@[simp] theorem opGe_int : opGe (.int i) (.int j) = some (false, .bl (decide (j ≤ i))) := rfl
@[simp] theorem opEq_ev {d e : D} : opEq d e = (eqD d e).map fun b => (false, .bl b) := rfl
@[simp] theorem opNe_ev {d e : D} : opNe d e = (eqD d e).map fun b => (false, .bl (!b)) := rfl
@[simp] theorem eqD_int : eqD (.int i) (.int j) = some (decide (i = j)) := rfl
@[simp] theorem eqD_str : eqD (.str a) (.str b) = some (decide (a = b)) := by
  show some (a == b) = _
  congr 1
@[simp] theorem eqD_bl {c d : Bool} : eqD (.bl c) (.bl d) = some (decide (c = d)) := by cases c <;> cases d <;> rfl
@[simp] theorem opIn_ev {d e : D} : opIn d e = (inD d e).map fun b => (false, .bl b) := rfl
@[simp] theorem opNotIn_ev {d e : D} : opNotIn d e = (inD d e).map fun b => (false, .bl (!b)) := rfl
def isNon : D → Bool
  | .non => true
  | _ => false
@[simp] theorem isNon_non : isNon .non = true := rfl
@[simp] theorem isNon_int : isNon (.int i) = false := rfl
@[simp] theorem isNon_str : isNon (.str a) = false := rfl
@[simp] theorem isNon_tup : isNon (.tup xs) = false := rfl
@[simp] theorem isNon_lst : isNon (.lst xs) = false := rfl
@[simp] theorem isNon_bl {c : Bool} : isNon (.bl c) = false := rfl
@[simp] theorem opIsN_ev {d : D} : opIsN d .non = some (false, .bl (isNon d)) := by cases d <;> rfl
@[simp] theorem opIsNotN_ev {d : D} : opIsNotN d .non = some (false, .bl (!isNon d)) := by cases d <;> rfl
@[simp] theorem opIx_tup : opIx (.tup xs) (.int i) = (atI xs i).map fun d => (false, d) := rfl
@[simp] theorem opIx_lst : opIx (.lst xs) (.int i) = (atI xs i).map fun d => (false, d) := rfl
@[simp] theorem opIx_scr {ns : List Int} : opIx (.scr ns) (.int i) = (atI ns i).map fun d => (false, .int d) := rfl
@[simp] theorem opSl_tup {lo hi : Option Int} : opSl (.tup xs) lo hi = some (false, .tup (cut xs lo hi)) := rfl
@[simp] theorem opSl_lst {lo hi : Option Int} : opSl (.lst xs) lo hi = some (true, .lst (cut xs lo hi)) := rfl
@[simp] theorem cfLen_tup : cfLen [.tup xs] = some (false, .int xs.length) := rfl
@[simp] theorem cfLen_lst : cfLen [.lst xs] = some (false, .int xs.length) := rfl
@[simp] theorem cfLen_scr {ns : List Int} : cfLen [.scr ns] = some (false, .int ns.length) := rfl
@[simp] theorem cfLen_str : cfLen [.str a] = if a.length ≤ lim then some (false, .int a.length) else none := rfl
@[simp] theorem cfAll_ev : cfAll [.lst xs] = (blsD xs).map fun bs => (false, .bl (bs.all id)) := rfl
@[simp] theorem cfAny_ev : cfAny [.lst xs] = (blsD xs).map fun bs => (false, .bl (bs.any id)) := rfl
@[simp] theorem cfSum_ev : cfSum [.lst xs] = (intsD xs).map fun bs => (false, .int bs.sum) := rfl
@[simp] theorem cfMax_lst : cfMax [.lst xs] = (intsD xs).bind fun bs => (maxL bs).map fun m => (false, .int m) := rfl
@[simp] theorem cfMax_two : cfMax [.int i, .int j] = some (false, .int (max i j)) := rfl
@[simp] theorem cfMin_lst : cfMin [.lst xs] = (intsD xs).bind fun bs => (minL bs).map fun m => (false, .int m) := rfl
@[simp] theorem cfMin_two : cfMin [.int i, .int j] = some (false, .int (min i j)) := rfl
@[simp] theorem cfInt_int : cfInt [.int i] = some (false, .int i) := rfl
@[simp] theorem cfInt_bl {c : Bool} : cfInt [.bl c] = some (false, .int (if c then 1 else 0)) := rfl
@[simp] theorem cfList_lst : cfList [.lst xs] = some (true, .lst xs) := rfl
@[simp] theorem cfList_tup : cfList [.tup xs] = some (true, .lst xs) := rfl
@[simp] theorem cfTuple_lst : cfTuple [.lst xs] = some (false, .tup xs) := rfl
@[simp] theorem cfTuple_tup : cfTuple [.tup xs] = some (false, .tup xs) := rfl
end
end Lz
namespace Lz
open PySem PySem.Spec PyProof.Rows L2
section
variable {ρ : Env} {g : D → Env → Option Env} {f : Env → R Fl} {d : D} {ds : List D}
@[simp] theorem forL_nil : forL g f [] ρ = .ok .nx ρ := rfl
def forK2 (g : D → Env → Option Env) (f : Env → R Fl) (ds : List D) : R Fl → R Fl
  | .ok .nx ρ2 => forL g f ds ρ2
  | .ok .ct ρ2 => forL g f ds ρ2
  | .ok .bk ρ2 => .ok .nx ρ2
  | .ok (.rt t) ρ2 => .ok (.rt t) ρ2
  | .ok (.ra t) ρ2 => .ok (.ra t) ρ2
  | .exc c ρ2 => .exc c ρ2
  | .bad => .bad
@[simp] theorem forK2_nx : forK2 g f ds (.ok .nx ρ) = forL g f ds ρ := rfl
@[simp] theorem forK2_ct : forK2 g f ds (.ok .ct ρ) = forL g f ds ρ := rfl
@[simp] theorem forK2_bk : forK2 g f ds (.ok .bk ρ) = .ok .nx ρ := rfl
@[simp] theorem forK2_rt {t : T} : forK2 g f ds (.ok (.rt t) ρ) = .ok (.rt t) ρ := rfl
@[simp] theorem forK2_ra {t : Nat} : forK2 g f ds (.ok (.ra t) ρ) = .ok (.ra t) ρ := rfl
@[simp] theorem forK2_exc {c : Str} : forK2 g f ds (.exc c ρ) = .exc c ρ := rfl
def forK1 (g : D → Env → Option Env) (f : Env → R Fl) (ds : List D) : Option Env → R Fl
  | some ρ1 => forK2 g f ds (f ρ1)
  | none => .bad
@[simp] theorem forK1_s : forK1 g f ds (some ρ) = forK2 g f ds (f ρ) := rfl
@[simp] theorem forL_cons : forL g f (d :: ds) ρ = forK1 g f ds (g d ρ) := by
  show (match g d ρ with
    | none => R.bad
    | some ρ1 => match f ρ1 with
      | .ok .nx ρ2 => forL g f ds ρ2
      | .ok .ct ρ2 => forL g f ds ρ2
      | .ok .bk ρ2 => .ok .nx ρ2
      | .ok (.rt t) ρ2 => .ok (.rt t) ρ2
      | .ok (.ra t) ρ2 => .ok (.ra t) ρ2
      | .exc c ρ2 => .exc c ρ2
      | .bad => .bad) = _
  unfold forK1 forK2
  cases g d ρ with
  | none => rfl
  | some ρ1 =>
    cases f ρ1 with
    | ok a ρ2 => cases a <;> rfl
    | _ => rfl
/-! comprehensions -/
section
variable {own : List Nat} {c : Env → R Bool} {e : Env → R XV}
@[simp] theorem compL_nil : compL own g c e [] ρ = .ok [] ρ := rfl
def cpK5 (d : D) (es : List D) (ρ5 : Env) : R (List D) := .ok (d :: es) ρ5
@[simp] theorem cpK5_ev {es : List D} : cpK5 d es ρ = .ok (d :: es) ρ := rfl
def cpK4 (own : List Nat) (g : D → Env → Option Env) (c : Env → R Bool) (f : Env → R XV) (ds : List D) (d : D) (ρ : Env) : R (List D) := (compL own g c f ds (clr own ρ)).bind (cpK5 d)
@[simp] theorem cpK4_ev : cpK4 own g c e ds d ρ = (compL own g c e ds (clr own ρ)).bind (cpK5 d) := rfl
def cpK3 (own : List Nat) (g : D → Env → Option Env) (c : Env → R Bool) (f : Env → R XV) (ds : List D) (x : XV) (ρ : Env) : R (List D) := (frz x ρ).bind (cpK4 own g c f ds)
@[simp] theorem cpK3_ev {x : XV} : cpK3 own g c e ds x ρ = (frz x ρ).bind (cpK4 own g c e ds) := rfl
def cpK2 (own : List Nat) (g : D → Env → Option Env) (c : Env → R Bool) (f : Env → R XV) (ds : List D) (b : Bool) (ρ : Env) : R (List D) := match b with
  | true => (f ρ).bind (cpK3 own g c f ds)
  | false => compL own g c f ds (clr own ρ)
@[simp] theorem cpK2_t : cpK2 own g c e ds true ρ = (e ρ).bind (cpK3 own g c e ds) := rfl
@[simp] theorem cpK2_f : cpK2 own g c e ds false ρ = compL own g c e ds (clr own ρ) := rfl
def cpK1 (own : List Nat) (g : D → Env → Option Env) (c : Env → R Bool) (f : Env → R XV) (ds : List D) : Option Env → R (List D)
  | some ρ1 => (c ρ1).bind (cpK2 own g c f ds)
  | none => .bad
@[simp] theorem cpK1_s : cpK1 own g c e ds (some ρ) = (c ρ).bind (cpK2 own g c e ds) := rfl
@[simp] theorem compL_cons : compL own g c e (d :: ds) ρ = cpK1 own g c e ds (g d ρ) := by
  show (match g d ρ with
    | none => R.bad
    | some ρ1 => (c ρ1).bind fun b ρ2 => if b = true then (e ρ2).bind fun x ρ3 => (frz x ρ3).bind fun e' ρ4 => (compL own g c e ds (clr own ρ4)).bind fun es ρ5 => .ok (e' :: es) ρ5
      else compL own g c e ds (clr own ρ2)) = _
  unfold cpK1
  cases g d ρ with
  | none => rfl
  | some ρ1 =>
    dsimp only
    congr 1
    funext b ρ2
    cases b <;> rfl
end
/-! while -/
section
variable {c : Env → R Bool} {n : Nat}
def whK2 (c : Env → R Bool) (f : Env → R Fl) (n : Nat) : R Fl → R Fl
  | .ok .nx ρ' => xWhile c f n ρ'
  | .ok .ct ρ' => xWhile c f n ρ'
  | .ok .bk ρ' => .ok .nx ρ'
  | .ok (.rt t) ρ' => .ok (.rt t) ρ'
  | .ok (.ra t) ρ' => .ok (.ra t) ρ'
  | .exc c ρ' => .exc c ρ'
  | .bad => .bad
@[simp] theorem whK2_nx : whK2 c f n (.ok .nx ρ) = xWhile c f n ρ := rfl
@[simp] theorem whK2_ct : whK2 c f n (.ok .ct ρ) = xWhile c f n ρ := rfl
@[simp] theorem whK2_bk : whK2 c f n (.ok .bk ρ) = .ok .nx ρ := rfl
@[simp] theorem whK2_rt {t : T} : whK2 c f n (.ok (.rt t) ρ) = .ok (.rt t) ρ := rfl
@[simp] theorem whK2_exc {x : Str} : whK2 c f n (.exc x ρ) = .exc x ρ := rfl
def whK1 (c : Env → R Bool) (f : Env → R Fl) (n : Nat) (b : Bool) (ρ : Env) : R Fl := match b with
  | true => whK2 c f n (f ρ)
  | false => .ok .nx ρ
@[simp] theorem whK1_t : whK1 c f n true ρ = whK2 c f n (f ρ) := rfl
@[simp] theorem whK1_f : whK1 c f n false ρ = .ok .nx ρ := rfl
theorem xWhile_s : xWhile c f (n + 1) ρ = (c ρ).bind (whK1 c f n) := by
  show ((c ρ).bind fun b ρ => if b = true then (match f ρ with
    | .ok .nx ρ' => xWhile c f n ρ'
    | .ok .ct ρ' => xWhile c f n ρ'
    | .ok .bk ρ' => .ok .nx ρ'
    | .ok (.rt t) ρ' => .ok (.rt t) ρ'
    | .ok (.ra t) ρ' => .ok (.ra t) ρ'
    | .exc c ρ' => .exc c ρ'
    | .bad => .bad) else .ok .nx ρ) = _
  congr 1
  funext b ρ1
  cases b with
  | false => rfl
  | true =>
    rw [if_pos rfl]
    unfold whK1 whK2
    cases f ρ1 with
    | ok a ρ2 => cases a <;> rfl
    | _ => rfl
end
end
end Lz
namespace Lz
@[simp] theorem opMul_tup {xs : List D} {k : Int} : opMul (.tup xs) (.int k) = if xs ≠ [] ∧ 2 ≤ k ∧ k ≤ 1000 ∧ xs.length ≤ 1000 then some (false, .tup (List.replicate k.toNat xs).flatten) else if k = 1 then some (false, .tup xs) else none := rfl
end Lz
/-! comprehensions, loops: general -/
namespace Lz
open PySem PySem.Spec PyProof.Rows L2
theorem rngL_cons' {a : Int} {n : Nat} : rngL a 1 (n + 1) = .int a :: rngL (a + 1) 1 n := rfl
theorem gt_clr1 {i : Nat} {ρ : Env} (h : gt ρ i = none) : clr [i] ρ = ρ := pt_none ρ i h
/-- every item, none left out -/
theorem compL_all {own : List Nat} {g : D → Env → Option Env} {f : Env → R XV} {ρ : Env} {e : D → D} : ∀ {ds : List D}, (∀ d ∈ ds, ∃ ρ1 ρ2 o, g d ρ = some ρ1 ∧ f ρ1 = .ok (.v o (e d)) ρ2 ∧ clr own ρ2 = ρ) → compL own g cT f ds ρ = .ok (ds.map e) ρ
  | [], _ => rfl
  | d :: ds, h => by
    obtain ⟨ρ1, ρ2, o, h1, h2, h3⟩ := h d List.mem_cons_self
    have ih := compL_all (ds := ds) fun x hx => h x (List.mem_cons_of_mem _ hx)
    simp [h1, h2, h3, ih]
/-- those that are taken -/
theorem compL_fil {own : List Nat} {g : D → Env → Option Env} {c : Env → R Bool} {f : Env → R XV} {ρ : Env} {q : D → Bool} {e : D → D} : ∀ {ds : List D},
    (∀ d ∈ ds, ∃ ρ1 ρ2, g d ρ = some ρ1 ∧ c ρ1 = .ok (q d) ρ2 ∧ clr own ρ2 = ρ ∧ (q d = true → ∃ o ρ3, f ρ2 = .ok (.v o (e d)) ρ3 ∧ clr own ρ3 = ρ)) → compL own g c f ds ρ = .ok ((ds.filter q).map e) ρ
  | [], _ => rfl
  | d :: ds, h => by
    obtain ⟨ρ1, ρ2, h1, h2, h3, h4⟩ := h d List.mem_cons_self
    have ih := compL_fil (ds := ds) fun x hx => h x (List.mem_cons_of_mem _ hx)
    cases hq : q d with
    | false => rw [hq] at h2; simp [h1, h2, h3, ih, hq]
    | true =>
      rw [hq] at h2
      obtain ⟨o, ρ3, h5, h6⟩ := h4 hq
      simp [h1, h2, h5, h6, ih, hq]
theorem rngL_mem {a : Int} {n : Nat} {d : D} (h : d ∈ rngL a 1 n) : ∃ k : Nat, k < n ∧ d = .int (a + k) := by
  obtain ⟨i, hi, e⟩ := List.getElem_of_mem h
  have h2 : (rngL a 1 n)[i]? = some d := by rw [← e]; exact List.getElem?_eq_getElem hi
  obtain ⟨h3, h4⟩ := rngL_get n a 1 i d h2
  exact ⟨i, h3, by rw [h4, Int.mul_one]⟩
def unI : D → Int
  | .int i => i
  | _ => 0
theorem rngL_map {α : Type} (a : Nat) (n : Nat) (e : D → α) : (rngL (a : Int) 1 n).map e = (List.range' a n).map fun k : Nat => e (.int (k : Int)) := by
  induction n generalizing a with
  | zero => rfl
  | succ n ih =>
    rw [rngL_cons', List.range'_succ, List.map_cons, List.map_cons]
    have h := ih (a + 1)
    rw [Int.natCast_add, Int.natCast_one] at h
    rw [h]
theorem rngL_filter (a : Nat) (n : Nat) (q : D → Bool) : (rngL (a : Int) 1 n).filter q = ((List.range' a n).filter fun k : Nat => q (.int (k : Int))).map fun k : Nat => D.int (k : Int) := by
  induction n generalizing a with
  | zero => rfl
  | succ n ih =>
    have h := ih (a + 1)
    rw [Int.natCast_add, Int.natCast_one] at h
    rw [rngL_cons', List.range'_succ, List.filter_cons, List.filter_cons, h]
    split <;> rfl
/-- over a range -/
theorem compL_rg {i : Nat} {f : Env → R XV} {ρ : Env} {e : Nat → D} {a m : Nat} (h : ∀ k, a ≤ k → k < a + m → ∃ ρ2 o, f (pt ρ i (some (false, .int k))) = .ok (.v o (e k)) ρ2 ∧ clr [i] ρ2 = ρ) : compL [i] (gN i) cT f (rngL a 1 m) ρ = .ok ((List.range' a m).map e) ρ := by
  have h2 := compL_all (own := [i]) (g := gN i) (f := f) (ρ := ρ) (e := fun d => e (unI d).toNat) (ds := rngL (a : Int) 1 m) fun d hd => by
    obtain ⟨k, hk, rfl⟩ := rngL_mem hd
    have e1 : (a : Int) + k = ((a + k : Nat) : Int) := by omega
    rw [e1]
    obtain ⟨ρ2, o, h1, h2⟩ := h (a + k) (by omega) (by omega)
    exact ⟨_, ρ2, o, rfl, h1, h2⟩
  rw [h2, rngL_map]
  rfl
theorem compL_rgF {i : Nat} {c : Env → R Bool} {f : Env → R XV} {ρ : Env} {q : Nat → Bool} {e : Nat → D} {a m : Nat}
    (h : ∀ k, a ≤ k → k < a + m → ∃ ρ2, c (pt ρ i (some (false, .int k))) = .ok (q k) ρ2 ∧ clr [i] ρ2 = ρ ∧ (q k = true → ∃ o ρ3, f ρ2 = .ok (.v o (e k)) ρ3 ∧ clr [i] ρ3 = ρ)) :
    compL [i] (gN i) c f (rngL a 1 m) ρ = .ok (((List.range' a m).filter q).map e) ρ := by
  have h2 := compL_fil (own := [i]) (g := gN i) (c := c) (f := f) (ρ := ρ) (q := fun d => q (unI d).toNat) (e := fun d => e (unI d).toNat) (ds := rngL (a : Int) 1 m) fun d hd => by
    obtain ⟨k, hk, rfl⟩ := rngL_mem hd
    have e1 : (a : Int) + k = ((a + k : Nat) : Int) := by omega
    rw [e1]
    obtain ⟨ρ2, h1, h2, h3⟩ := h (a + k) (by omega) (by omega)
    exact ⟨_, ρ2, rfl, h1, h2, h3⟩
  rw [h2, rngL_filter, List.map_map]
  rfl
/-- a loop that goes through -/
theorem forL_fold {α : Type} {g : D → Env → Option Env} {f : Env → R Fl} (st : α → Env) (step : α → D → α) (P : α → Prop) : ∀ (ds : List D) (a : α), P a → (∀ a d, d ∈ ds → P a → ∃ ρ1, g d (st a) = some ρ1 ∧ f ρ1 = .ok .nx (st (step a d)) ∧ P (step a d)) →
    forL g f ds (st a) = .ok .nx (st (ds.foldl step a)) ∧ P (ds.foldl step a)
  | [], a, h, _ => ⟨rfl, h⟩
  | d :: ds, a, h, hs => by
    obtain ⟨ρ1, h1, h2, h3⟩ := hs a d List.mem_cons_self h
    have ih := forL_fold st step P ds (step a d) h3 fun b x hx hb => hs b x (List.mem_cons_of_mem _ hx) hb
    refine ⟨?_, ih.2⟩
    rw [List.foldl_cons, ← ih.1]
    simp [h1, h2]
/-- a loop by an invariant over the items that are left -/
theorem forL_inv {g : D → Env → Option Env} {f : Env → R Fl} (I : List D → Env → Prop) (Z : R Fl → Prop) : ∀ (ds : List D) (ρ : Env), I ds ρ → (∀ ρ, I [] ρ → Z (.ok .nx ρ)) →
    (∀ d ds ρ, I (d :: ds) ρ → ∃ ρ1, g d ρ = some ρ1 ∧ ((∃ ρ2, (f ρ1 = .ok .nx ρ2 ∨ f ρ1 = .ok .ct ρ2) ∧ I ds ρ2) ∨ (∃ ρ2, f ρ1 = .ok .bk ρ2 ∧ Z (.ok .nx ρ2)) ∨ (∃ t ρ2, f ρ1 = .ok (.rt t) ρ2 ∧ Z (.ok (.rt t) ρ2)))) → Z (forL g f ds ρ)
  | [], ρ, h, hz, _ => hz ρ h
  | d :: ds, ρ, h, hz, hs => by
    obtain ⟨ρ1, h1, h2⟩ := hs d ds ρ h
    rcases h2 with ⟨ρ2, h2, h3⟩ | ⟨ρ2, h2, h3⟩ | ⟨t, ρ2, h2, h3⟩
    · have ih := forL_inv I Z ds ρ2 h3 hz hs
      rcases h2 with h2 | h2 <;> simpa [h1, h2] using ih
    · simpa [h1, h2] using h3
    · simpa [h1, h2] using h3
theorem blsD_gen {α : Type} (p : α → Bool) : ∀ (l : List α), blsD (l.map fun d => D.bl (p d)) = some (l.map p)
  | [] => rfl
  | d :: l => by
    show (blsD (l.map fun d => D.bl (p d))).map (p d :: ·) = _
    rw [blsD_gen p l]
    rfl
theorem intsD_gen {α : Type} (p : α → Int) : ∀ (l : List α), intsD (l.map fun d => D.int (p d)) = some (l.map p)
  | [] => rfl
  | d :: l => by
    show (intsD (l.map fun d => D.int (p d))).map (p d :: ·) = _
    rw [intsD_gen p l]
    rfl
/-- the same where nothing but the answer comes of it -/
theorem compL_a {own : List Nat} {g : D → Env → Option Env} {f : Env → R XV} {ρ : Env} {e : D → D} {ds : List D} (h : ∀ d ∈ ds, ∃ ρ1 o, g d ρ = some ρ1 ∧ clr own ρ1 = ρ ∧ f ρ1 = .ok (.v o (e d)) ρ1) : compL own g cT f ds ρ = .ok (ds.map e) ρ :=
  compL_all fun d hd => let ⟨ρ1, o, h1, h2, h3⟩ := h d hd; ⟨ρ1, ρ1, o, h1, h3, h2⟩
theorem compL_f {own : List Nat} {g : D → Env → Option Env} {c : Env → R Bool} {f : Env → R XV} {ρ : Env} {q : D → Bool} {e : D → D} {ds : List D}
    (h : ∀ d ∈ ds, ∃ ρ1, g d ρ = some ρ1 ∧ clr own ρ1 = ρ ∧ c ρ1 = .ok (q d) ρ1 ∧ (q d = true → ∃ o, f ρ1 = .ok (.v o (e d)) ρ1)) : compL own g c f ds ρ = .ok ((ds.filter q).map e) ρ :=
  compL_fil fun d hd => let ⟨ρ1, h1, h2, h3, h4⟩ := h d hd; ⟨ρ1, ρ1, h1, h3, h2, fun w => let ⟨o, h5⟩ := h4 w; ⟨o, ρ1, h5, h2⟩⟩
theorem compL_ra {i : Nat} {f : Env → R XV} {ρ : Env} {e : Nat → D} {a m : Nat} (h0 : gt ρ i = none) (h : ∀ k, a ≤ k → k < a + m → ∃ o, f (pt ρ i (some (false, .int k))) = .ok (.v o (e k)) (pt ρ i (some (false, .int k)))) : compL [i] (gN i) cT f (rngL a 1 m) ρ = .ok ((List.range' a m).map e) ρ :=
  compL_rg fun k h1 h2 => let ⟨o, h3⟩ := h k h1 h2; ⟨_, o, h3, by show pt (pt ρ i (some (false, .int (k : Int)))) i none = _; rw [pt_pt, pt_none ρ i h0]⟩
theorem compL_rf {i : Nat} {c : Env → R Bool} {f : Env → R XV} {ρ : Env} {q : Nat → Bool} {e : Nat → D} {a m : Nat} (h0 : gt ρ i = none)
    (h : ∀ k, a ≤ k → k < a + m → c (pt ρ i (some (false, .int k))) = .ok (q k) (pt ρ i (some (false, .int k))) ∧ (q k = true → ∃ o, f (pt ρ i (some (false, .int k))) = .ok (.v o (e k)) (pt ρ i (some (false, .int k))))) :
    compL [i] (gN i) c f (rngL a 1 m) ρ = .ok (((List.range' a m).filter q).map e) ρ :=
  compL_rgF fun k h1 h2 => by
    have e1 : clr [i] (pt ρ i (some (false, .int (k : Int)))) = ρ := by show pt (pt ρ i (some (false, .int (k : Int)))) i none = _; rw [pt_pt, pt_none ρ i h0]
    obtain ⟨h3, h4⟩ := h k h1 h2
    exact ⟨_, h3, e1, fun w => let ⟨o, h5⟩ := h4 w; ⟨o, _, h5, e1⟩⟩
/-- the same over a list of things of one kind -/
theorem compL_m {α : Type} {own : List Nat} {g : D → Env → Option Env} {f : Env → R XV} {ρ : Env} {e : α → D} {w : α → D} {xs : List α} (h : ∀ x ∈ xs, ∃ ρ1 o, g (w x) ρ = some ρ1 ∧ clr own ρ1 = ρ ∧ f ρ1 = .ok (.v o (e x)) ρ1) : compL own g cT f (xs.map w) ρ = .ok (xs.map e) ρ := by
  induction xs with
  | nil => rfl
  | cons x xs ih =>
    obtain ⟨ρ1, o, h1, h2, h3⟩ := h x List.mem_cons_self
    have ih := ih fun y hy => h y (List.mem_cons_of_mem _ hy)
    simp [h1, h2, h3, ih]
theorem compL_mf {α : Type} {own : List Nat} {g : D → Env → Option Env} {c : Env → R Bool} {f : Env → R XV} {ρ : Env} {q : α → Bool} {e : α → D} {w : α → D} {xs : List α}
    (h : ∀ x ∈ xs, ∃ ρ1, g (w x) ρ = some ρ1 ∧ clr own ρ1 = ρ ∧ c ρ1 = .ok (q x) ρ1 ∧ (q x = true → ∃ o, f ρ1 = .ok (.v o (e x)) ρ1)) : compL own g c f (xs.map w) ρ = .ok ((xs.filter q).map e) ρ := by
  induction xs with
  | nil => rfl
  | cons x xs ih =>
    obtain ⟨ρ1, h1, h2, h3, h4⟩ := h x List.mem_cons_self
    have ih := ih fun y hy => h y (List.mem_cons_of_mem _ hy)
    cases hq : q x with
    | false => rw [hq] at h3; simp [h1, h2, h3, ih, hq]
    | true =>
      rw [hq] at h3
      obtain ⟨o, h5⟩ := h4 hq
      simp [h1, h2, h3, h5, ih, hq]
end Lz
/-! == of data -/
namespace Lz
open PySem PySem.Spec PyProof.Rows L2

/-! ### depth and form -/
def okN (n : Nat) (d : D) : Prop := d.toPy.canLay0 = true ∧ d.toPy.depth ≤ n
theorem okD_of {d : D} {n : Nat} (h : okN n d) (hn : n ≤ 64) : okD d = true := by
  unfold okD SeqAt.shaped
  rw [h.1, Bool.true_and]
  exact decide_eq_true (Nat.le_trans h.2 hn)
theorem okN_mono {d : D} {n m : Nat} (h : okN n d) (hn : n ≤ m) : okN m d := ⟨h.1, Nat.le_trans h.2 hn⟩
theorem okN_non {n : Nat} : okN n .non := ⟨rfl, Nat.zero_le _⟩
theorem okN_bl {n : Nat} {b : Bool} : okN n (.bl b) := ⟨rfl, Nat.zero_le _⟩
theorem okN_int {n : Nat} {i : Int} : okN n (.int i) := ⟨rfl, Nat.zero_le _⟩
theorem okN_str {n : Nat} {z : Str} (h : PyData.strOk z = true) : okN n (.str z) := ⟨h, Nat.zero_le _⟩
theorem lays_of : ∀ {xs : List D}, (∀ x ∈ xs, x.toPy.canLay0 = true) → PyData.canLayAll0 (D.toPys xs) = true
  | [], _ => by rw [D.toPys]; rfl
  | x :: xs, h => by
    rw [D.toPys, PyData.canLayAll0, h x List.mem_cons_self, Bool.true_and]
    exact lays_of fun y hy => h y (List.mem_cons_of_mem _ hy)
theorem deps_of {n : Nat} : ∀ {xs : List D}, (∀ x ∈ xs, x.toPy.depth ≤ n) → PyData.depthAll (D.toPys xs) ≤ n
  | [], _ => by rw [D.toPys]; exact Nat.zero_le _
  | x :: xs, h => by
    rw [D.toPys, PyData.depthAll]
    exact Nat.max_le.mpr ⟨h x List.mem_cons_self, deps_of fun y hy => h y (List.mem_cons_of_mem _ hy)⟩
theorem okN_tup {n : Nat} {xs : List D} (h : ∀ x ∈ xs, okN n x) : okN (n + 1) (.tup xs) := by
  refine ⟨?_, ?_⟩
  · rw [D.toPy, PyData.canLay0]; exact lays_of fun x hx => (h x hx).1
  · rw [D.toPy, PyData.depth]; exact Nat.succ_le_succ (deps_of fun x hx => (h x hx).2)
theorem okN_lst {n : Nat} {xs : List D} (h : ∀ x ∈ xs, okN n x) : okN (n + 1) (.lst xs) := by
  refine ⟨?_, ?_⟩
  · rw [D.toPy, PyData.canLay0]; exact lays_of fun x hx => (h x hx).1
  · rw [D.toPy, PyData.depth]; exact Nat.succ_le_succ (deps_of fun x hx => (h x hx).2)
theorem toPys_ints : ∀ ns : List Int, ns.map PyData.int = D.toPys (ns.map D.int)
  | [] => by rw [List.map_nil, List.map_nil, D.toPys]
  | n :: ns => by rw [List.map_cons, List.map_cons, D.toPys, D.toPy, toPys_ints ns]
theorem okN_scr {n : Nat} {ns : List Int} : okN (n + 1) (.scr ns) := by
  have h : okN (n + 1) (.lst (ns.map D.int)) := okN_lst fun x hx => by
    obtain ⟨i, _, rfl⟩ := List.mem_map.mp hx
    exact okN_int
  have e : (D.scr ns).toPy = (D.lst (ns.map D.int)).toPy := by rw [D.toPy, D.toPy, toPys_ints]
  unfold okN at h ⊢
  rw [e]
  exact h

/-! ### == -/
-- True and False as whole numbers
mutual
def nrm : D → D
  | .bl b => .int (if b then 1 else 0)
  | .tup xs => .tup (nrms xs)
  | .lst xs => .lst (nrms xs)
  | .scr ns => .lst (ns.map .int)
  | d => d
def nrms : List D → List D
  | [] => []
  | x :: xs => nrm x :: nrms xs
end
theorem nrms_map : ∀ xs : List D, nrms xs = xs.map nrm
  | [] => by rw [nrms]; rfl
  | x :: xs => by rw [nrms, nrms_map xs]; rfl
-- the same data as Python has it
mutual
def nP : PyData → PyData
  | .bool b => .int (if b then 1 else 0)
  | .list xs => .list (nPs xs)
  | .tuple xs => .tuple (nPs xs)
  | d => d
def nPs : List PyData → List PyData
  | [] => []
  | x :: xs => nP x :: nPs xs
end
mutual
theorem eqv_nP : ∀ x y : PyData, x.canLay0 = true → y.canLay0 = true → (PyData.eqv x y = true ↔ nP x = nP y)
  | .none, y, _, hy => by cases y <;> simp [PyData.eqv, nP, PyData.canLay0] at hy ⊢
  | .bool a, y, _, hy => by
    cases y <;> simp [PyData.eqv, nP, PyData.canLay0] at hy ⊢
    · rename_i b
      cases a <;> cases b <;> simp
  | .int a, y, _, hy => by cases y <;> simp [PyData.eqv, nP, PyData.canLay0] at hy ⊢
  | .str a, y, _, hy => by cases y <;> simp [PyData.eqv, nP, PyData.canLay0] at hy ⊢
  | .list xs, y, hx, hy => by
    cases y with
    | list ys =>
      rw [PyData.canLay0] at hx hy
      rw [PyData.eqv, nP, nP]
      simpa using eqv_nPs xs ys hx hy
    | _ => simp [PyData.eqv, nP, PyData.canLay0] at hy ⊢
  | .tuple xs, y, hx, hy => by
    cases y with
    | tuple ys =>
      rw [PyData.canLay0] at hx hy
      rw [PyData.eqv, nP, nP]
      simpa using eqv_nPs xs ys hx hy
    | _ => simp [PyData.eqv, nP, PyData.canLay0] at hy ⊢
  | .dict _, y, hx, _ => by simp [PyData.canLay0] at hx
theorem eqv_nPs : ∀ xs ys : List PyData, PyData.canLayAll0 xs = true → PyData.canLayAll0 ys = true → (PyData.eqvAll xs ys = true ↔ nPs xs = nPs ys)
  | [], [], _, _ => by simp [PyData.eqvAll, nPs]
  | [], y :: ys, _, _ => by simp [PyData.eqvAll, nPs]
  | x :: xs, [], _, _ => by simp [PyData.eqvAll, nPs]
  | x :: xs, y :: ys, hx, hy => by
    rw [PyData.canLayAll0, Bool.and_eq_true] at hx hy
    rw [PyData.eqvAll, nPs, nPs, Bool.and_eq_true, eqv_nP x y hx.1 hy.1, eqv_nPs xs ys hx.2 hy.2]
    simp
end
end Lz
namespace Lz
open PySem PySem.Spec PyProof.Rows L2
mutual
def ofP : PyData → D
  | .none => .non
  | .bool b => .bl b
  | .int i => .int i
  | .str s => .str s
  | .list xs => .lst (ofPs xs)
  | .tuple xs => .tup (ofPs xs)
  | .dict _ => .non
def ofPs : List PyData → List D
  | [] => []
  | x :: xs => ofP x :: ofPs xs
end
theorem ofPs_ints : ∀ ns : List Int, ofPs (nPs (ns.map PyData.int)) = ns.map D.int
  | [] => by simp [nPs, ofPs]
  | n :: ns => by
    rw [List.map_cons, List.map_cons, nPs, nP, ofPs, ofP, ofPs_ints ns]
    intro b; exact nofun
    all_goals exact nofun
mutual
theorem ofP_nP : ∀ d : D, d.toPy.canLay0 = true → ofP (nP d.toPy) = nrm d
  | .non, _ => by simp [D.toPy, nP, ofP, nrm]
  | .bl b, _ => by simp [D.toPy, nP, ofP, nrm]
  | .int i, _ => by simp [D.toPy, nP, ofP, nrm]
  | .str s, _ => by simp [D.toPy, nP, ofP, nrm]
  | .tup xs, h => by
    rw [D.toPy, PyData.canLay0] at h
    simp [D.toPy, nP, ofP, nrm, ofPs_nPs xs h]
  | .lst xs, h => by
    rw [D.toPy, PyData.canLay0] at h
    simp [D.toPy, nP, ofP, nrm, ofPs_nPs xs h]
  | .scr ns, h => by
    simp [D.toPy, nP, ofP, nrm, ofPs_ints]
  | .dct _, h => by simp [D.toPy, PyData.canLay0] at h
  | .obj _ _, h => by simp [D.toPy, PyData.canLay0] at h
  | .ob _ _, h => by simp [D.toPy, PyData.canLay0] at h
theorem ofPs_nPs : ∀ xs : List D, PyData.canLayAll0 (D.toPys xs) = true → ofPs (nPs (D.toPys xs)) = nrms xs
  | [], _ => by simp [D.toPys, nPs, ofPs, nrms]
  | x :: xs, h => by
    rw [D.toPys, PyData.canLayAll0, Bool.and_eq_true] at h
    simp [D.toPys, nPs, ofPs, nrms, ofP_nP x h.1, ofPs_nPs xs h.2]
end
theorem nPs_ints : ∀ ns : List Int, nPs (ns.map PyData.int) = D.toPys (ns.map D.int)
  | [] => by simp [nPs, D.toPys]
  | n :: ns => by simp [nPs, nP, D.toPys, D.toPy, nPs_ints ns]
mutual
theorem nP_toPy : ∀ d : D, d.toPy.canLay0 = true → nP d.toPy = (nrm d).toPy
  | .non, _ => by simp [D.toPy, nP, nrm]
  | .bl b, _ => by simp [D.toPy, nP, nrm]
  | .int i, _ => by simp [D.toPy, nP, nrm]
  | .str s, _ => by simp [D.toPy, nP, nrm]
  | .tup xs, h => by
    rw [D.toPy, PyData.canLay0] at h
    simp [D.toPy, nP, nrm, nPs_toPys xs h]
  | .lst xs, h => by
    rw [D.toPy, PyData.canLay0] at h
    simp [D.toPy, nP, nrm, nPs_toPys xs h]
  | .scr ns, h => by simp [D.toPy, nP, nrm, nPs_ints]
  | .dct _, h => by simp [D.toPy, PyData.canLay0] at h
  | .obj _ _, h => by simp [D.toPy, PyData.canLay0] at h
  | .ob _ _, h => by simp [D.toPy, PyData.canLay0] at h
theorem nPs_toPys : ∀ xs : List D, PyData.canLayAll0 (D.toPys xs) = true → nPs (D.toPys xs) = D.toPys (nrms xs)
  | [], _ => by simp [D.toPys, nPs, nrms]
  | x :: xs, h => by
    rw [D.toPys, PyData.canLayAll0, Bool.and_eq_true] at h
    simp [D.toPys, nPs, nrms, nP_toPy x h.1, nPs_toPys xs h.2]
end
theorem eqv_iff {d e : D} (hd : d.toPy.canLay0 = true) (he : e.toPy.canLay0 = true) : PyData.eqv d.toPy e.toPy = true ↔ nrm d = nrm e := by
  rw [eqv_nP _ _ hd he]
  constructor
  · intro h
    rw [← ofP_nP d hd, ← ofP_nP e he, h]
  · intro h
    rw [nP_toPy d hd, nP_toPy e he, h]
/-- what == tells of data that is not too deep -/
theorem eqD_ok {d e : D} {n m : Nat} (hd : okN n d) (he : okN m e) (hn : n ≤ 64) (hm : m ≤ 64) : ∃ b, eqD d e = some b ∧ (b = true ↔ nrm d = nrm e) := by
  have gen : (if okD d = true ∧ okD e = true then some (PyData.eqv d.toPy e.toPy) else none) = some (PyData.eqv d.toPy e.toPy) := if_pos ⟨okD_of hd hn, okD_of he hm⟩
  have iff := eqv_iff hd.1 he.1
  unfold eqD
  split
  · rename_i i j
    exact ⟨_, rfl, by simp [nrm]⟩
  · rename_i i j
    exact ⟨_, rfl, by simp [nrm]⟩
  · rename_i i j
    exact ⟨_, rfl, by cases i <;> cases j <;> simp [nrm]⟩
  · exact ⟨_, rfl, by simp [nrm]⟩
  · exact ⟨_, gen, iff⟩
theorem eqD_t {d e : D} {n m : Nat} (hd : okN n d) (he : okN m e) (hn : n ≤ 64) (hm : m ≤ 64) (h : nrm d = nrm e) : eqD d e = some true := by
  obtain ⟨b, h1, h2⟩ := eqD_ok hd he hn hm
  rw [h1, h2.mpr h]
theorem eqD_f {d e : D} {n m : Nat} (hd : okN n d) (he : okN m e) (hn : n ≤ 64) (hm : m ≤ 64) (h : nrm d ≠ nrm e) : eqD d e = some false := by
  obtain ⟨b, h1, h2⟩ := eqD_ok hd he hn hm
  rw [h1]
  cases b with
  | false => rfl
  | true => exact absurd (h2.mp rfl) h
/-- in a list -/
theorem inL_ok {d : D} {ys : List D} {n m : Nat} (hd : okN n d) (hy : ∀ y ∈ ys, okN m y) (hn : n ≤ 64) (hm : m < 64) : ∃ b, inD d (.lst ys) = some b ∧ (b = true ↔ ∃ y ∈ ys, nrm y = nrm d) := by
  have e : inD d (.lst ys) = (if flatD d = true ∧ ys.all flatD = true then some (ys.any fun y => eqF y d) else if okD d = true ∧ okD (.lst ys) = true then some (ys.any fun y => PyData.eqv y.toPy d.toPy) else none) := by
    cases d <;> rfl
  rw [e]
  by_cases hf : flatD d = true ∧ ys.all flatD = true
  · rw [if_pos hf]
    refine ⟨_, rfl, ?_⟩
    rw [List.any_eq_true]
    have key : ∀ y ∈ ys, (eqF y d = true ↔ nrm y = nrm d) := fun y hy' => by
      have f1 := List.all_eq_true.mp hf.2 y hy'
      have f2 := hf.1
      cases y <;> first | (cases f1; done) | skip
      all_goals (cases d <;> first | (cases f2; done) | skip)
      all_goals (simp [eqF, nrm])
      · rename_i a b; cases a <;> cases b <;> simp
    constructor
    · rintro ⟨y, h1, h2⟩; exact ⟨y, h1, (key y h1).mp h2⟩
    · rintro ⟨y, h1, h2⟩; exact ⟨y, h1, (key y h1).mpr h2⟩
  · rw [if_neg hf, if_pos ⟨okD_of hd hn, okD_of (okN_lst hy) hm⟩]
    refine ⟨_, rfl, ?_⟩
    rw [List.any_eq_true]
    constructor
    · rintro ⟨y, h1, h2⟩; exact ⟨y, h1, (eqv_iff (hy y h1).1 hd.1).mp h2⟩
    · rintro ⟨y, h1, h2⟩; exact ⟨y, h1, (eqv_iff (hy y h1).1 hd.1).mpr h2⟩
end Lz
/-! plain things as data: ==, in, index by the things themselves -/
namespace Lz
open PySem PySem.Spec PyProof.Rows L2
/-- w tells things as data, no two alike, not deeper than n -/
structure PT {α : Type} (w : α → D) (n : Nat) : Prop where
  ok : ∀ x, okN n (w x)
  inj : ∀ x y, nrm (w x) = nrm (w y) → x = y
theorem okN_tup' {n : Nat} {xs : List D} (h : ∀ x ∈ xs, okN n x) : okN (n + 1) (.tup xs) := okN_tup h
theorem PT.bl : PT D.bl 0 := ⟨fun _ => okN_bl, fun x y h => by cases x <;> cases y <;> simp [nrm] at h ⊢⟩
theorem PT.int : PT D.int 0 := ⟨fun _ => okN_int, fun x y h => by simpa [nrm] using h⟩
theorem PT.nat : PT (fun k : Nat => D.int k) 0 := ⟨fun _ => okN_int, fun x y h => by simp [nrm] at h; omega⟩
theorem nrms_inj {α : Type} {w : α → D} {n : Nat} (p : PT w n) : ∀ {xs ys : List α}, nrms (xs.map w) = nrms (ys.map w) → xs = ys
  | [], [], _ => rfl
  | [], _ :: _, h => by simp [nrms] at h
  | _ :: _, [], h => by simp [nrms] at h
  | x :: xs, y :: ys, h => by
    simp only [List.map_cons, nrms, List.cons.injEq] at h
    rw [p.inj x y h.1, nrms_inj p h.2]
theorem PT.tup {α : Type} {w : α → D} {n : Nat} (p : PT w n) : PT (fun l : List α => D.tup (l.map w)) (n + 1) :=
  ⟨fun l => okN_tup fun x hx => by obtain ⟨y, _, rfl⟩ := List.mem_map.mp hx; exact p.ok y, fun x y h => nrms_inj p (by simpa [nrm] using h)⟩
theorem PT.lst {α : Type} {w : α → D} {n : Nat} (p : PT w n) : PT (fun l : List α => D.lst (l.map w)) (n + 1) :=
  ⟨fun l => okN_lst fun x hx => by obtain ⟨y, _, rfl⟩ := List.mem_map.mp hx; exact p.ok y, fun x y h => nrms_inj p (by simpa [nrm] using h)⟩
theorem PT.mono {α : Type} {w : α → D} {n m : Nat} (p : PT w n) (h : n ≤ m) : PT w m := ⟨fun x => okN_mono (p.ok x) h, p.inj⟩
theorem PT.pair {α β : Type} {w : α → D} {v : β → D} {n : Nat} (p : PT w n) (q : PT v n) : PT (fun x : α × β => D.tup [w x.1, v x.2]) (n + 1) :=
  ⟨fun x => okN_tup fun y hy => by
    rcases List.mem_cons.mp hy with rfl | hy
    · exact p.ok _
    · rw [List.mem_singleton.mp hy]; exact q.ok _, fun x y h => by
    simp [nrm, nrms] at h
    exact Prod.ext (p.inj _ _ h.1) (q.inj _ _ h.2)⟩
theorem PT.trip {α β γ : Type} {w : α → D} {v : β → D} {u : γ → D} {n : Nat} (p : PT w n) (q : PT v n) (r : PT u n) : PT (fun x : α × β × γ => D.tup [w x.1, v x.2.1, u x.2.2]) (n + 1) :=
  ⟨fun x => okN_tup fun y hy => by
    rcases List.mem_cons.mp hy with rfl | hy
    · exact p.ok _
    · rcases List.mem_cons.mp hy with rfl | hy
      · exact q.ok _
      · rw [List.mem_singleton.mp hy]; exact r.ok _, fun x y h => by
    simp [nrm, nrms] at h
    exact Prod.ext (p.inj _ _ h.1) (Prod.ext (q.inj _ _ h.2.1) (r.inj _ _ h.2.2))⟩
def optD {α : Type} (w : α → D) : Option α → D
  | some x => w x
  | none => .non
theorem PT.opt {α : Type} {w : α → D} {n : Nat} (p : PT w n) (hn : ∀ x, nrm (w x) ≠ .non) : PT (optD w) n :=
  ⟨fun x => by cases x with
    | none => exact okN_non
    | some x => exact p.ok x, fun x y h => by
    cases x with
    | none =>
      cases y with
      | none => rfl
      | some y => exact absurd (show nrm (w y) = .non from by rw [← show nrm (optD w (some y)) = nrm (w y) from rfl, ← h]; simp [optD, nrm]) (hn y)
    | some x =>
      cases y with
      | none => exact absurd (show nrm (w x) = .non from by rw [← show nrm (optD w (some x)) = nrm (w x) from rfl, h]; simp [optD, nrm]) (hn x)
      | some y => rw [p.inj x y h]⟩
theorem PT.eqD {α : Type} [DecidableEq α] {w : α → D} {n : Nat} (p : PT w n) (hn : n ≤ 64) (x y : α) : Lz.eqD (w x) (w y) = some (decide (x = y)) := by
  by_cases h : x = y
  · subst h
    rw [eqD_t (p.ok x) (p.ok x) hn hn rfl, decide_eq_true rfl]
  · rw [eqD_f (p.ok x) (p.ok y) hn hn fun e => h (p.inj x y e), decide_eq_false h]
theorem PT.opEq {α : Type} [DecidableEq α] {w : α → D} {n : Nat} (p : PT w n) (hn : n ≤ 64) (x y : α) : Lz.opEq (w x) (w y) = some (false, .bl (decide (x = y))) := by unfold Lz.opEq; rw [p.eqD hn]; rfl
theorem PT.opNe {α : Type} [DecidableEq α] {w : α → D} {n : Nat} (p : PT w n) (hn : n ≤ 64) (x y : α) : Lz.opNe (w x) (w y) = some (false, .bl (!decide (x = y))) := by unfold Lz.opNe; rw [p.eqD hn]; rfl
theorem PT.inD {α : Type} [DecidableEq α] {w : α → D} {n : Nat} (p : PT w n) (hn : n < 64) (x : α) (l : List α) : Lz.inD (w x) (.lst (l.map w)) = some (decide (x ∈ l)) := by
  obtain ⟨b, h1, h2⟩ := inL_ok (n := n) (m := n) (d := w x) (ys := l.map w) (p.ok x) (fun y hy => by obtain ⟨z, _, rfl⟩ := List.mem_map.mp hy; exact p.ok z) (by omega) hn
  rw [h1]
  congr 1
  have h3 : b = true ↔ x ∈ l := by
    rw [h2]
    constructor
    · rintro ⟨y, hy, e⟩
      obtain ⟨z, hz, rfl⟩ := List.mem_map.mp hy
      rw [← p.inj z x e]
      exact hz
    · exact fun hx => ⟨w x, List.mem_map_of_mem hx, rfl⟩
  cases b with
  | true => exact (decide_eq_true (h3.mp rfl)).symm
  | false => exact (decide_eq_false fun e => absurd (h3.mpr e) Bool.false_ne_true).symm
/-- the first place of a thing -/
def ixOf {α : Type} [DecidableEq α] (x : α) : List α → Nat
  | [] => 0
  | y :: l => if y = x then 0 else ixOf x l + 1
theorem ixOf_lt {α : Type} [DecidableEq α] {x : α} : ∀ {l : List α}, x ∈ l → ixOf x l < l.length
  | y :: l, h => by
    unfold ixOf
    by_cases e : y = x
    · rw [if_pos e]; simp
    · rw [if_neg e]
      have hm : x ∈ l := by
        rcases List.mem_cons.mp h with h | h
        · exact absurd h.symm e
        · exact h
      have := ixOf_lt hm
      simp only [List.length_cons]; omega
theorem ixOf_get {α : Type} [DecidableEq α] {x : α} : ∀ {l : List α}, x ∈ l → l[ixOf x l]? = some x
  | y :: l, h => by
    unfold ixOf
    by_cases e : y = x
    · rw [if_pos e, e]; rfl
    · rw [if_neg e]
      have hm : x ∈ l := by
        rcases List.mem_cons.mp h with h | h
        · exact absurd h.symm e
        · exact h
      rw [List.getElem?_cons_succ]
      exact ixOf_get hm
theorem ixOf_app {α : Type} [DecidableEq α] {x : α} : ∀ {l r : List α}, x ∈ l → ixOf x (l ++ r) = ixOf x l
  | y :: l, r, h => by
    rw [List.cons_append]
    unfold ixOf
    by_cases e : y = x
    · rw [if_pos e, if_pos e]
    · rw [if_neg e, if_neg e]
      have hm : x ∈ l := by
        rcases List.mem_cons.mp h with h | h
        · exact absurd h.symm e
        · exact h
      rw [ixOf_app hm]
theorem fstEq_map {α : Type} [DecidableEq α] {w : α → D} {n : Nat} (p : PT w n) (x : α) : ∀ (l : List α) (k : Nat), x ∈ l → fstEq (w x).toPy (D.toPys (l.map w)) k = some (k + ixOf x l)
  | [], _, h => by cases h
  | y :: l, k, h => by
    have iff := eqv_iff (p.ok y).1 (p.ok x).1
    rw [List.map_cons, D.toPys]
    unfold fstEq ixOf
    by_cases e : y = x
    · subst e
      rw [if_pos (iff.mpr rfl), if_pos rfl]
      rfl
    · rw [if_neg fun q => e (p.inj y x (iff.mp q)), if_neg e]
      have hm : x ∈ l := by
        rcases List.mem_cons.mp h with h | h
        · exact absurd h.symm e
        · exact h
      rw [fstEq_map p x l (k + 1) hm]
      congr 1
      omega
theorem PT.index {α : Type} [DecidableEq α] {w : α → D} {n : Nat} (p : PT w n) (hn : n < 64) {x : α} {l : List α} (h : x ∈ l) : mfLIndex (.lst (l.map w)) [w x] = some (false, .int (ixOf x l : Nat)) := by
  have h1 : okD (.lst (l.map w)) = true := okD_of (p.lst.ok l) (by omega)
  have h2 : okD (w x) = true := okD_of (p.ok x) (by omega)
  show (if okD (.lst (l.map w)) = true ∧ okD (w x) = true then (fstEq (w x).toPy (D.toPys (l.map w)) 0).map fun j => ((false, D.int (j : Nat)) : T) else none) = _
  rw [if_pos ⟨h1, h2⟩, fstEq_map p x l 0 h, Nat.zero_add]
  rfl
theorem setD_PT : PT (fun s : List Bool => D.tup (s.map D.bl)) 1 := PT.bl.tup
end Lz
namespace Lz
open PySem PySem.Spec PyProof.Rows L2
noncomputable section
def b_parts_of : Env → R Fl := (xSeq (xIf (sB (sBin opEq (sBin opIx (sVar 0) (sC (.int 0))) (sC (.str "lamp")))) (xSeq (xRet 1 (sTup sNil)) xNx) xNx) (xSeq (xRet 1 (sSl opSl (sVar 0) (some (sC (.int 1))) none)) xNx))
def F_parts_of : List T → FR := bodyF 1 [0] 1 b_parts_of
def b_waiting : Env → R Fl := (xSeq (xRet 2 (sTup (sCons (sC (.str "not")) (sCons (sTup (sCons (sC (.str "since")) (sCons (sTup (sCons (sC (.str "not")) (sCons (sVar 1) sNil))) (sCons (sTup (sCons (sC (.str "and")) (sCons (sVar 0) (sCons (sTup (sCons (sC (.str "not")) (sCons (sVar 1) sNil))) sNil)))) sNil)))) sNil)))) xNx)
def F_waiting : List T → FR := bodyF 2 [0, 1] 2 b_waiting
def b_gathered (r : List T → FR) : Env → R Fl := (xSeq (xIf (bAnd (sB (sBin opIn (sBin opIx (sVar 0) (sC (.int 0))) (sC (.tup [.str "before", .str "once", .str "sofar", .str "since"])))) (sB (sBin opNotIn (sVar 0) (sVar 1)))) (xSeq (xExpr (sMu opApp (sVar 1) (sCons (sVar 0) sNil))) xNx) xNx) (xSeq (xFr [] (sItE (sCallF F_parts_of (sCons (sVar 0) sNil))) (gN 2) (xSeq (xExpr (sCallF r (sCons (sVar 2) (sCons (sVar 1) sNil)))) xNx)) xNx))
def R_gathered : Nat → List T → FR
  | 0 => fun _ => .bad
  | n + 1 => bodyF 2 [0, 1] 3 (b_gathered (R_gathered n))
def F_gathered : List T → FR := R_gathered 24
def b_past_pieces : Env → R Fl := (xSeq (xSt 1 (sLst sNil)) (xSeq (xExpr (sCallF F_gathered (sCons (sVar 0) (sCons (sVar 1) sNil)))) (xSeq (xRet 1 (sVar 1)) xNx)))
def F_past_pieces : List T → FR := bodyF 1 [0] 2 b_past_pieces
def b_l_cell_at : Env → R Fl := (xSeq (xIf (sB (sBin opLt (sVar 1) (sCl cfLen (sCons (sVar 0) sNil)))) (xSeq (xRet 2 (sBin opIx (sVar 0) (sVar 1))) xNx) xNx) (xSeq (xIf (sB (sBin opEq (sVar 0) (sLst sNil))) (xSeq (xRet 2 (sC (.int 0))) xNx) xNx) (xSeq (xRet 2 (sBin opAdd (sBin opMul (sBin opIx (sVar 0) (sBin opMod (sVar 1) (sCl cfLen (sCons (sVar 0) sNil)))) (sC (.int 31))) (sVar 1))) xNx)))
def F_l_cell_at : List T → FR := bodyF 2 [0, 1] 2 b_l_cell_at
def b_l_mixed : Env → R Fl := (xSeq (xSt 3 (sBin opMod (sBin opMul (sBin opAdd (sBin opAdd (sCallF F_l_cell_at (sCons (sVar 0) (sCons (sVar 1) sNil))) (sBin opMul (sC (.int 7919)) (sVar 1))) (sC (.int 1))) (sC (.int 48271))) (sC (.int 2147483647)))) (xSeq (xRet 3 (sBin opMod (sBin opMod (sBin opAdd (sBin opAdd (sBin opMul (sVar 3) (sVar 3)) (sBin opMul (sC (.int 7)) (sVar 3))) (sVar 1)) (sC (.int 2147483629))) (sVar 2))) xNx))
def F_l_mixed : List T → FR := bodyF 3 [0, 1, 2] 4 b_l_mixed
def b_l_next : Env → R Fl := (xSeq (xSetI (sBin opAdd (sBin opIx (sVar 1) (sC (.int 0))) (sC (.int 1))) (sVar 1) (sC (.int 0))) (xSeq (xRet 3 (sCallF F_l_mixed (sCons (sVar 0) (sCons (sBin opIx (sVar 1) (sC (.int 0))) (sCons (sVar 2) sNil))))) xNx))
def F_l_next : List T → FR := bodyF 3 [0, 1, 2] 3 b_l_next
def b_l_saying (r : List T → FR) : Env → R Fl := (xSeq (xSt 5 (sCallF F_l_next (sCons (sVar 0) (sCons (sVar 1) (sCons (sC (.int 13)) sNil))))) (xSeq (xIf (bOr (sB (sBin opEq (sVar 3) (sC (.int 0)))) (sB (sBin opLt (sVar 5) (sC (.int 3))))) (xSeq (xRet 5 (sTup (sCons (sC (.str "lamp")) (sCons (sBin opIx (sVar 2) (sCallF F_l_next (sCons (sVar 0) (sCons (sVar 1) (sCons (sCl cfLen (sCons (sVar 2) sNil)) sNil))))) sNil)))) xNx) xNx) (xSeq (xIf (sB (sBin opEq (sVar 5) (sC (.int 3)))) (xSeq (xRet 5 (sTup (sCons (sBin opIx (sLst (sCons (sC (.str "yes")) (sCons (sC (.str "no")) sNil))) (sCallF F_l_next (sCons (sVar 0) (sCons (sVar 1) (sCons (sC (.int 2)) sNil))))) sNil))) xNx) xNx) (xSeq (xIf (bAnd (sB (sBin opGt (sVar 5) (sC (.int 8)))) (sB (sBin opGt (sBin opIx (sVar 4) (sC (.int 0))) (sC (.int 0))))) (xSeq (xSetI (sBin opSub (sBin opIx (sVar 4) (sC (.int 0))) (sC (.int 1))) (sVar 4) (sC (.int 0))) (xSeq (xSt 6 (sCallF r (sCons (sVar 0) (sCons (sVar 1) (sCons (sVar 2) (sCons (sBin opSub (sVar 3) (sC (.int 1))) (sCons (sVar 4) sNil))))))) (xSeq (xIf (sB (sBin opEq (sVar 5) (sC (.int 12)))) (xSeq (xRet 5 (sTup (sCons (sC (.str "since")) (sCons (sVar 6) (sCons (sCallF r (sCons (sVar 0) (sCons (sVar 1) (sCons (sVar 2) (sCons (sBin opSub (sVar 3) (sC (.int 1))) (sCons (sVar 4) sNil)))))) sNil))))) xNx) xNx) (xSeq (xRet 5 (sTup (sCons (sBin opIx (sLst (sCons (sC (.str "before")) (sCons (sC (.str "once")) (sCons (sC (.str "sofar")) sNil)))) (sBin opSub (sVar 5) (sC (.int 9)))) (sCons (sVar 6) sNil)))) xNx)))) xNx) (xSeq (xSt 6 (sCallF r (sCons (sVar 0) (sCons (sVar 1) (sCons (sVar 2) (sCons (sBin opSub (sVar 3) (sC (.int 1))) (sCons (sVar 4) sNil))))))) (xSeq (xIf (bOr (sB (sBin opEq (sVar 5) (sC (.int 4)))) (sB (sBin opGt (sVar 5) (sC (.int 8))))) (xSeq (xRet 5 (sTup (sCons (sC (.str "not")) (sCons (sVar 6) sNil)))) xNx) xNx) (xSeq (xRet 5 (sTup (sCons (sBin opIx (sLst (sCons (sC (.str "and")) (sCons (sC (.str "or")) (sCons (sC (.str "then")) (sCons (sC (.str "same")) sNil))))) (sBin opSub (sVar 5) (sC (.int 5)))) (sCons (sVar 6) (sCons (sCallF r (sCons (sVar 0) (sCons (sVar 1) (sCons (sVar 2) (sCons (sBin opSub (sVar 3) (sC (.int 1))) (sCons (sVar 4) sNil)))))) sNil))))) xNx)))))))
def R_l_saying : Nat → List T → FR
  | 0 => fun _ => .bad
  | n + 1 => bodyF 5 [0, 1, 2, 3, 4] 7 (b_l_saying (R_l_saying n))
def F_l_saying : List T → FR := R_l_saying 24
def b_l_names : Env → R Fl := (xSeq (xSt 2 (sLst (sCons (sC (.str "a")) (sCons (sC (.str "b")) (sCons (sC (.str "x")) (sCons (sC (.str "y")) (sCons (sC (.str "lamp")) (sCons (sC (.str "far")) (sCons (sC (.str "yesno")) (sCons (sC (.str "abcdefgh")) sNil)))))))))) (xSeq (xSt 3 (sCallF F_l_next (sCons (sVar 0) (sCons (sVar 1) (sCons (sC (.int 8)) sNil))))) (xSeq (xSt 4 (sBin opAdd (sSl opSl (sVar 2) (some (sVar 3)) none) (sSl opSl (sVar 2) none (some (sVar 3))))) (xSeq (xSt 5 (sBin opAdd (sC (.int 1)) (sCallF F_l_next (sCons (sVar 0) (sCons (sVar 1) (sCons (sC (.int 2)) sNil)))))) (xSeq (xSt 6 (sBin opAdd (sC (.int 1)) (sCallF F_l_next (sCons (sVar 0) (sCons (sVar 1) (sCons (sC (.int 2)) sNil)))))) (xSeq (xRet 2 (sTup (sCons (sCl cfTuple (sCons (sSl opSl (sVar 4) none (some (sVar 5))) sNil)) (sCons (sCl cfTuple (sCons (sSl opSl (sVar 4) (some (sVar 5)) (some (sBin opAdd (sVar 5) (sVar 6)))) sNil)) sNil)))) xNx))))))
def F_l_names : List T → FR := bodyF 2 [0, 1] 7 b_l_names
def b_l_pieces (r : List T → FR) : Env → R Fl := (xSeq (xIf (bAnd (sB (sBin opIn (sBin opIx (sVar 0) (sC (.int 0))) (sTup (sCons (sC (.str "before")) (sCons (sC (.str "once")) (sCons (sC (.str "sofar")) (sCons (sC (.str "since")) sNil))))))) (sB (sBin opNotIn (sVar 0) (sVar 1)))) (xSeq (xExpr (sMu opApp (sVar 1) (sCons (sVar 0) sNil))) xNx) xNx) (xSeq (xIf (sB (sBin opNe (sBin opIx (sVar 0) (sC (.int 0))) (sC (.str "lamp")))) (xSeq (xFr [] (sItE (sSl opSl (sVar 0) (some (sC (.int 1))) none)) (gN 2) (xSeq (xExpr (sCallF r (sCons (sVar 2) (sCons (sVar 1) sNil)))) xNx)) xNx) xNx) (xSeq (xRet 2 (sVar 1)) xNx)))
def R_l_pieces : Nat → List T → FR
  | 0 => fun _ => .bad
  | n + 1 => bodyF 2 [0, 1] 3 (b_l_pieces (R_l_pieces n))
def F_l_pieces : List T → FR := R_l_pieces 24
def b_l_book_pieces : Env → R Fl := (xSeq (xSt 1 (sLst sNil)) (xSeq (xFr [] (sItE (sBin opAdd (sBin opAdd (sBin opIx (sVar 0) (sC (.int 2))) (sBin opIx (sVar 0) (sC (.int 3)))) (sCl cfTuple (sCons (sComp [3] (sItE (sBin opIx (sVar 0) (sC (.int 4)))) (gN 3) cT (sBin opIx (sVar 3) (sC (.int 1)))) sNil)))) (gN 2) (xSeq (xExpr (sCallF F_l_pieces (sCons (sVar 2) (sCons (sVar 1) sNil)))) xNx)) (xSeq (xRet 1 (sVar 1)) xNx)))
def F_l_book_pieces : List T → FR := bodyF 1 [0] 4 b_l_book_pieces
def b_law : Env → R Fl := (xSeq (xSt 1 (sLst (sCons (sC (.int 0)) sNil))) (xSeq (xSetG (gTp 2 (gCn (gN 2) (gCn (gN 3) gNl))) (sCallF F_l_names (sCons (sVar 0) (sCons (sVar 1) sNil)))) (xSeq (xSt 4 (sCallF F_l_saying (sCons (sVar 0) (sCons (sVar 1) (sCons (sBin opAdd (sVar 2) (sVar 3)) (sCons (sC (.int 4)) (sCons (sLst (sCons (sC (.int 5)) sNil)) sNil))))))) (xSeq (xSt 5 (sCallF F_l_saying (sCons (sVar 0) (sCons (sVar 1) (sCons (sBin opAdd (sVar 2) (sVar 3)) (sCons (sC (.int 1)) (sCons (sLst (sCons (sC (.int 1)) sNil)) sNil))))))) (xSeq (xSt 4 (sTup (sCons (sC (.str "and")) (sCons (sVar 4) (sCons (sTup (sCons (sC (.str "or")) (sCons (sVar 5) (sCons (sVar 4) sNil)))) sNil))))) (xSeq (xSt 6 (sCallF F_past_pieces (sCons (sVar 4) sNil))) (xSeq (xIf (bOr (bNot (sB (sUn (isiD "list") (sVar 6)))) (sB (sBin opNe (sVar 6) (sCallF F_l_pieces (sCons (sVar 4) (sCons (sLst sNil) sNil)))))) (xSeq (xRet 1 (sC (.bl false))) xNx) xNx) (xSeq (xRet 1 (sBin opEq (sCallF F_waiting (sCons (sVar 4) (sCons (sVar 5) sNil))) (sTup (sCons (sC (.str "not")) (sCons (sTup (sCons (sC (.str "since")) (sCons (sTup (sCons (sC (.str "not")) (sCons (sVar 5) sNil))) (sCons (sTup (sCons (sC (.str "and")) (sCons (sVar 4) (sCons (sTup (sCons (sC (.str "not")) (sCons (sVar 5) sNil))) sNil)))) sNil)))) sNil))))) xNx))))))))
def F_law : List T → FR := bodyF 1 [0] 7 b_law
def b_is_whole : Env → R Fl := (xSeq (xRet 1 (sAnd (sB (sUn (isiD "int") (sVar 0))) (sOfB (bNot (sB (sUn (isiD "bool") (sVar 0))))))) xNx)
def F_is_whole : List T → FR := bodyF 1 [0] 1 b_is_whole
def b_between : Env → R Fl := (xSeq (xRet 3 (sAnd (sB (sCallF F_is_whole (sCons (sVar 0) sNil))) (sChain opLe opLe (sVar 1) (sVar 0) (sVar 2)))) xNx)
def F_between : List T → FR := bodyF 3 [0, 1, 2] 3 b_between
def b_is_name : Env → R Fl := (xSeq (xIf (bOr (bNot (sB (sUn (isiD "str") (sVar 0)))) (bOr (bNot (sB (sChain opLe opLe (sC (.int 1)) (sCl cfLen (sCons (sVar 0) sNil)) (sC (.int 8))))) (sB (sBin opIn (sVar 0) (sC (.tup [.str "yes", .str "no", .str "not", .str "and", .str "or", .str "then", .str "same", .str "before", .str "once", .str "sofar", .str "since", .str "foe", .str "friend", .str "promise", .str "must", .str "wish"])))))) (xSeq (xRet 1 (sC (.bl false))) xNx) xNx) (xSeq (xRet 1 (sCl cfAll (sCons (sComp [1] (sItE (sVar 0)) (gN 1) cT (sBin opIn (sVar 1) (sC (.str "abcdefghijklmnopqrstuvwxyz")))) sNil))) xNx))
def F_is_name : List T → FR := bodyF 1 [0] 2 b_is_name
def b_is_saying (r : List T → FR) : Env → R Fl := (xSeq (xIf (bOr (sB (sBin opEq (sVar 2) (sC (.int 0)))) (bOr (bNot (sB (sUn (isiD "tuple") (sVar 1)))) (bOr (sB (sBin opEq (sCl cfLen (sCons (sVar 1) sNil)) (sC (.int 0)))) (bNot (sB (sUn (isiD "str") (sBin opIx (sVar 1) (sC (.int 0))))))))) (xSeq (xRet 3 (sC (.bl false))) xNx) xNx) (xSeq (xIf (sB (sBin opEq (sBin opIx (sVar 1) (sC (.int 0))) (sC (.str "lamp")))) (xSeq (xRet 3 (sAnd (sB (sBin opEq (sCl cfLen (sCons (sVar 1) sNil)) (sC (.int 2)))) (sAnd (sB (sUn (isiD "str") (sBin opIx (sVar 1) (sC (.int 1))))) (sBin opIn (sBin opIx (sVar 1) (sC (.int 1))) (sVar 0))))) xNx) xNx) (xSeq (xIf (bOr (sB (sBin opEq (sBin opIx (sVar 1) (sC (.int 0))) (sC (.str "yes")))) (sB (sBin opEq (sBin opIx (sVar 1) (sC (.int 0))) (sC (.str "no"))))) (xSeq (xRet 3 (sBin opEq (sCl cfLen (sCons (sVar 1) sNil)) (sC (.int 1)))) xNx) xNx) (xSeq (xIf (bAnd (sB (sBin opNotIn (sBin opIx (sVar 1) (sC (.int 0))) (sC (.tup [.str "not", .str "before", .str "once", .str "sofar"])))) (sB (sBin opNotIn (sBin opIx (sVar 1) (sC (.int 0))) (sC (.tup [.str "and", .str "or", .str "then", .str "same", .str "since"]))))) (xSeq (xRet 3 (sC (.bl false))) xNx) xNx) (xSeq (xIf (sB (sBin opNe (sCl cfLen (sCons (sVar 1) sNil)) (sBin opAdd (sC (.int 2)) (sCl cfInt (sCons (sBin opIn (sBin opIx (sVar 1) (sC (.int 0))) (sC (.tup [.str "and", .str "or", .str "then", .str "same", .str "since"]))) sNil))))) (xSeq (xRet 3 (sC (.bl false))) xNx) xNx) (xSeq (xRet 3 (sCl cfAll (sCons (sComp [3] (sItE (sSl opSl (sVar 1) (some (sC (.int 1))) none)) (gN 3) cT (sCallF r (sCons (sVar 0) (sCons (sVar 3) (sCons (sBin opSub (sVar 2) (sC (.int 1))) sNil))))) sNil))) xNx))))))
def R_is_saying : Nat → List T → FR
  | 0 => fun _ => .bad
  | n + 1 => bodyF 3 [0, 1, 2] 4 (b_is_saying (R_is_saying n))
def F_is_saying : List T → FR := R_is_saying 24
def b_are_names : Env → R Fl := (xSeq (xRet 1 (sAnd (sB (sUn (isiD "tuple") (sVar 0))) (sAnd (sB (sChain opLe opLe (sC (.int 1)) (sCl cfLen (sCons (sVar 0) sNil)) (sC (.int 2)))) (sCl cfAll (sCons (sComp [1] (sItE (sVar 0)) (gN 1) cT (sCallF F_is_name (sCons (sVar 1) sNil))) sNil))))) xNx)
def F_are_names : List T → FR := bodyF 1 [0] 2 b_are_names
def b_stands_free (r : List T → FR) : Env → R Fl := (xSeq (xIf (sB (sBin opEq (sBin opIx (sVar 0) (sC (.int 0))) (sC (.str "lamp")))) (xSeq (xRet 2 (sBin opIn (sBin opIx (sVar 0) (sC (.int 1))) (sVar 1))) xNx) xNx) (xSeq (xIf (sB (sBin opEq (sBin opIx (sVar 0) (sC (.int 0))) (sC (.str "before")))) (xSeq (xRet 2 (sC (.bl false))) xNx) xNx) (xSeq (xRet 2 (sCl cfAny (sCons (sComp [2] (sItE (sCallF F_parts_of (sCons (sVar 0) sNil))) (gN 2) cT (sCallF r (sCons (sVar 2) (sCons (sVar 1) sNil)))) sNil))) xNx)))
def R_stands_free : Nat → List T → FR
  | 0 => fun _ => .bad
  | n + 1 => bodyF 2 [0, 1] 3 (b_stands_free (R_stands_free n))
def F_stands_free : List T → FR := R_stands_free 24
def b_are_sayings : Env → R Fl := (xSeq (xIf (bOr (bNot (sB (sUn (isiD "tuple") (sVar 0)))) (sB (sBin opGt (sCl cfLen (sCons (sVar 0) sNil)) (sVar 2)))) (xSeq (xRet 3 (sC (.bl false))) xNx) xNx) (xSeq (xRet 3 (sCl cfAll (sCons (sComp [3] (sItE (sVar 0)) (gN 3) cT (sCallF F_is_saying (sCons (sVar 1) (sCons (sVar 3) (sCons (sC (.int 8)) sNil))))) sNil))) xNx))
def F_are_sayings : List T → FR := bodyF 3 [0, 1, 2] 4 b_are_sayings
def b_is_wish : Env → R Fl := (xSeq (xIf (bOr (bNot (sB (sUn (isiD "tuple") (sVar 0)))) (sB (sBin opNe (sCl cfLen (sCons (sVar 0) sNil)) (sC (.int 2))))) (xSeq (xRet 2 (sC (.bl false))) xNx) xNx) (xSeq (xRet 2 (sAnd (sB (sCallF F_between (sCons (sBin opIx (sVar 0) (sC (.int 0))) (sCons (sC (.int 1)) (sCons (sC (.int 99)) sNil))))) (sCallF F_is_saying (sCons (sVar 1) (sCons (sBin opIx (sVar 0) (sC (.int 1))) (sCons (sC (.int 8)) sNil)))))) xNx))
def F_is_wish : List T → FR := bodyF 2 [0, 1] 2 b_is_wish
def b_sayings_of : Env → R Fl := (xSeq (xRet 1 (sBin opAdd (sBin opAdd (sBin opIx (sVar 0) (sC (.int 2))) (sBin opIx (sVar 0) (sC (.int 3)))) (sCl cfTuple (sCons (sComp [1] (sItE (sBin opIx (sVar 0) (sC (.int 4)))) (gN 1) cT (sBin opIx (sVar 1) (sC (.int 1)))) sNil)))) xNx)
def F_sayings_of : List T → FR := bodyF 1 [0] 2 b_sayings_of
def b_pieces_of : Env → R Fl := (xSeq (xSt 1 (sLst sNil)) (xSeq (xFr [] (sItE (sCallF F_sayings_of (sCons (sVar 0) sNil))) (gN 2) (xSeq (xExpr (sCallF F_gathered (sCons (sVar 2) (sCons (sVar 1) sNil)))) xNx)) (xSeq (xRet 1 (sVar 1)) xNx)))
def F_pieces_of : List T → FR := bodyF 1 [0] 3 b_pieces_of
def b_is_book : Env → R Fl := (xSeq (xIf (bOr (bNot (sB (sUn (isiD "tuple") (sVar 0)))) (bOr (sB (sBin opNe (sCl cfLen (sCons (sVar 0) sNil)) (sC (.int 5)))) (bOr (bNot (sB (sCallF F_are_names (sCons (sBin opIx (sVar 0) (sC (.int 0))) sNil)))) (bNot (sB (sCallF F_are_names (sCons (sBin opIx (sVar 0) (sC (.int 1))) sNil))))))) (xSeq (xRet 1 (sC (.bl false))) xNx) xNx) (xSeq (xSt 1 (sBin opAdd (sBin opIx (sVar 0) (sC (.int 0))) (sBin opIx (sVar 0) (sC (.int 1))))) (xSeq (xIf (bNot (sB (sCl cfAll (sCons (sComp [2] (sItE (sVar 1)) (gN 2) cT (sBin opEq (sMt "tuple" mfCount (sVar 1) (sCons (sVar 2) sNil)) (sC (.int 1)))) sNil)))) (xSeq (xRet 1 (sC (.bl false))) xNx) xNx) (xSeq (xIf (bOr (bNot (sB (sCallF F_are_sayings (sCons (sBin opIx (sVar 0) (sC (.int 2))) (sCons (sVar 1) (sCons (sC (.int 3)) sNil)))))) (bNot (sB (sCallF F_are_sayings (sCons (sBin opIx (sVar 0) (sC (.int 3))) (sCons (sVar 1) (sCons (sC (.int 3)) sNil))))))) (xSeq (xRet 1 (sC (.bl false))) xNx) xNx) (xSeq (xIf (bOr (bNot (sB (sUn (isiD "tuple") (sBin opIx (sVar 0) (sC (.int 4)))))) (bNot (sB (sChain opLe opLe (sC (.int 1)) (sCl cfLen (sCons (sBin opIx (sVar 0) (sC (.int 4))) sNil)) (sC (.int 5)))))) (xSeq (xRet 1 (sC (.bl false))) xNx) xNx) (xSeq (xIf (bNot (sB (sCl cfAll (sCons (sComp [3] (sItE (sBin opIx (sVar 0) (sC (.int 4)))) (gN 3) cT (sCallF F_is_wish (sCons (sVar 3) (sCons (sVar 1) sNil)))) sNil)))) (xSeq (xRet 1 (sC (.bl false))) xNx) xNx) (xSeq (xIf (sB (sCl cfAny (sCons (sComp [4] (sItE (sBin opIx (sVar 0) (sC (.int 2)))) (gN 4) cT (sCallF F_stands_free (sCons (sVar 4) (sCons (sBin opIx (sVar 0) (sC (.int 1))) sNil)))) sNil))) (xSeq (xRet 1 (sC (.bl false))) xNx) xNx) (xSeq (xRet 1 (sBin opLe (sCl cfLen (sCons (sCallF F_pieces_of (sCons (sVar 0) sNil)) sNil)) (sC (.int 4)))) xNx))))))))
def F_is_book : List T → FR := bodyF 1 [0] 5 b_is_book
def b_checked : Env → R Fl := (xSeq (xIf (bNot (sB (sCallF F_is_book (sCons (sVar 0) sNil)))) (xSeq (xRaise "NoBook") xNx) xNx) (xSeq (xRet 1 (sVar 0)) xNx))
def F_checked : List T → FR := bodyF 1 [0] 1 b_checked
def b_is_setting : Env → R Fl := (xSeq (xRet 2 (sAnd (sB (sUn (isiD "tuple") (sVar 0))) (sAnd (sB (sBin opEq (sCl cfLen (sCons (sVar 0) sNil)) (sVar 1))) (sCl cfAll (sCons (sComp [2] (sItE (sVar 0)) (gN 2) cT (sUn (isiD "bool") (sVar 2))) sNil))))) xNx)
def F_is_setting : List T → FR := bodyF 2 [0, 1] 3 b_is_setting
def b_l_promise : Env → R Fl := (xSeq (xSt 5 (sCallF F_l_saying (sCons (sVar 0) (sCons (sVar 1) (sCons (sVar 2) (sCons (sC (.int 1)) (sCons (sLst (sCons (sC (.int 0)) sNil)) sNil))))))) (xSeq (xIf (bAnd (sB (sBin opGt (sBin opIx (sVar 4) (sC (.int 0))) (sC (.int 0)))) (sB (sBin opEq (sCallF F_l_next (sCons (sVar 0) (sCons (sVar 1) (sCons (sC (.int 2)) sNil)))) (sC (.int 1))))) (xSeq (xSetI (sBin opSub (sBin opIx (sVar 4) (sC (.int 0))) (sC (.int 1))) (sVar 4) (sC (.int 0))) (xSeq (xSt 6 (sCallF F_l_saying (sCons (sVar 0) (sCons (sVar 1) (sCons (sVar 3) (sCons (sC (.int 1)) (sCons (sLst (sCons (sC (.int 0)) sNil)) sNil))))))) (xSeq (xRet 5 (sTup (sCons (sBin opIx (sLst (sCons (sC (.str "then")) (sCons (sC (.str "or")) (sCons (sC (.str "same")) sNil)))) (sCallF F_l_next (sCons (sVar 0) (sCons (sVar 1) (sCons (sC (.int 3)) sNil))))) (sCons (sTup (sCons (sC (.str "before")) (sCons (sVar 6) sNil))) (sCons (sVar 5) sNil))))) xNx))) xNx) (xSeq (xRet 5 (sVar 5)) xNx)))
def F_l_promise : List T → FR := bodyF 5 [0, 1, 2, 3, 4] 7 b_l_promise
def b_l_book : Env → R Fl := (xSeq (xSt 4 (sLst (sCons (sVar 1) sNil))) (xSeq (xSetG (gTp 2 (gCn (gN 5) (gCn (gN 6) gNl))) (sCallF F_l_names (sCons (sVar 0) (sCons (sVar 4) sNil)))) (xSeq (xSt 7 (sBin opAdd (sVar 5) (sVar 6))) (xSeq (xSt 8 (sLst (sCons (sCallF F_l_next (sCons (sVar 0) (sCons (sVar 4) (sCons (sBin opAdd (sVar 2) (sC (.int 1))) sNil)))) sNil))) (xSeq (xSt 9 (sLst sNil)) (xSeq (xFr [] (sRng (sCons (sBin opAdd (sC (.int 1)) (sCallF F_l_next (sCons (sVar 0) (sCons (sVar 4) (sCons (sC (.int 3)) sNil))))) sNil)) (gN 10) (xSeq (xSt 11 (sBin opAdd (sC (.int 1)) (sCallF F_l_next (sCons (sVar 0) (sCons (sVar 4) (sCons (sBin opIx (sLst (sCons (sC (.int 3)) (sCons (sC (.int 9)) (sCons (sC (.int 99)) sNil)))) (sCallF F_l_next (sCons (sVar 0) (sCons (sVar 4) (sCons (sC (.int 3)) sNil))))) sNil)))))) (xSeq (xExpr (sMu opApp (sVar 9) (sCons (sTup (sCons (sVar 11) (sCons (sCallF F_l_saying (sCons (sVar 0) (sCons (sVar 4) (sCons (sVar 7) (sCons (sC (.int 2)) (sCons (sVar 8) sNil)))))) sNil))) sNil))) xNx))) (xSeq (xSt 12 (sComp [10] (sRng (sCons (sCallF F_l_next (sCons (sVar 0) (sCons (sVar 4) (sCons (sBin opAdd (sVar 3) (sC (.int 1))) sNil)))) sNil)) (gN 10) cT (sCallF F_l_saying (sCons (sVar 0) (sCons (sVar 4) (sCons (sVar 7) (sCons (sC (.int 2)) (sCons (sVar 8) sNil)))))))) (xSeq (xSt 13 (sComp [10] (sRng (sCons (sCallF F_l_next (sCons (sVar 0) (sCons (sVar 4) (sCons (sC (.int 2)) sNil)))) sNil)) (gN 10) cT (sCallF F_l_promise (sCons (sVar 0) (sCons (sVar 4) (sCons (sVar 5) (sCons (sVar 7) (sCons (sVar 8) sNil)))))))) (xSeq (xRet 4 (sTup (sCons (sVar 5) (sCons (sVar 6) (sCons (sCl cfTuple (sCons (sVar 13) sNil)) (sCons (sCl cfTuple (sCons (sVar 12) sNil)) (sCons (sCl cfTuple (sCons (sVar 9) sNil)) sNil))))))) xNx)))))))))
def F_l_book : List T → FR := bodyF 4 [0, 1, 2, 3] 14 b_l_book
def b_checked_saying : Env → R Fl := (xSeq (xIf (bNot (sB (sCallF F_is_saying (sCons (sVar 0) (sCons (sVar 1) (sCons (sC (.int 8)) sNil)))))) (xSeq (xRaise "NoSaying") xNx) xNx) (xSeq (xRet 2 (sVar 1)) xNx))
def F_checked_saying : List T → FR := bodyF 2 [0, 1] 2 b_checked_saying
def b_depth (r : List T → FR) : Env → R Fl := (xSeq (xRet 1 (sBin opAdd (sC (.int 1)) (sCl cfMax (sCons (sBin opAdd (sLst (sCons (sC (.int 0)) sNil)) (sComp [1] (sItE (sCallF F_parts_of (sCons (sVar 0) sNil))) (gN 1) cT (sCallF r (sCons (sVar 1) sNil)))) sNil)))) xNx)
def R_depth : Nat → List T → FR
  | 0 => fun _ => .bad
  | n + 1 => bodyF 1 [0] 2 (b_depth (R_depth n))
def F_depth : List T → FR := R_depth 24
def b_l_deep (r : List T → FR) : Env → R Fl := (xSeq (xIf (sB (sBin opIn (sBin opIx (sVar 0) (sC (.int 0))) (sTup (sCons (sC (.str "lamp")) (sCons (sC (.str "yes")) (sCons (sC (.str "no")) sNil)))))) (xSeq (xRet 1 (sC (.int 1))) xNx) xNx) (xSeq (xRet 1 (sBin opAdd (sC (.int 1)) (sCl cfMax (sCons (sComp [1] (sItE (sSl opSl (sVar 0) (some (sC (.int 1))) none)) (gN 1) cT (sCallF r (sCons (sVar 1) sNil))) sNil)))) xNx))
def R_l_deep : Nat → List T → FR
  | 0 => fun _ => .bad
  | n + 1 => bodyF 1 [0] 2 (b_l_deep (R_l_deep n))
def F_l_deep : List T → FR := R_l_deep 24
def b_l_spoilt (r : List T → FR) : Env → R Fl := (xSeq (xIf (bAnd (sB (sBin opNotIn (sBin opIx (sVar 0) (sC (.int 0))) (sTup (sCons (sC (.str "lamp")) (sCons (sC (.str "yes")) (sCons (sC (.str "no")) sNil)))))) (sB (sBin opGt (sBin opMod (sVar 1) (sC (.int 3))) (sC (.int 0))))) (xSeq (xSt 2 (sBin opAdd (sC (.int 1)) (sBin opMod (sBin opFdv (sVar 1) (sC (.int 3))) (sBin opSub (sCl cfLen (sCons (sVar 0) sNil)) (sC (.int 1)))))) (xSeq (xRet 2 (sBin opAdd (sBin opAdd (sSl opSl (sVar 0) none (some (sVar 2))) (sTup (sCons (sCallF r (sCons (sBin opIx (sVar 0) (sVar 2)) (sCons (sBin opFdv (sVar 1) (sC (.int 7))) sNil))) sNil))) (sSl opSl (sVar 0) (some (sBin opAdd (sVar 2) (sC (.int 1)))) none))) xNx)) xNx) (xSeq (xSt 3 (sLst (sCons (sCl cfList (sCons (sVar 0) sNil)) (sCons (sBin opAdd (sVar 0) (sTup (sCons (sTup (sCons (sC (.str "yes")) sNil)) sNil))) (sCons (sSl opSl (sVar 0) none (some (sUn opNeg (sC (.int 1))))) (sCons (sTup (sCons (sC (.str "lamp")) (sCons (sC (.str "zzz")) sNil))) (sCons (sTup (sCons (sC (.str "lamp")) (sCons (sC (.int 1)) sNil))) (sCons (sTup (sCons (sC (.str "lamp")) (sCons (sC (.str "not")) sNil))) (sCons (sTup (sCons (sC (.str "lamp")) sNil)) sNil))))))))) (xSeq (xExpr (sMu opExt (sVar 3) (sCons (sLst (sCons (sBin opAdd (sTup (sCons (sC (.str "never")) sNil)) (sSl opSl (sVar 0) (some (sC (.int 1))) none)) (sCons (sTup (sCons (sC (.bl true)) sNil)) (sCons (sC .non) (sCons (sC (.str "yes")) (sCons (sTup sNil) (sCons (sTup (sCons (sC (.str "yes")) (sCons (sTup (sCons (sC (.str "no")) sNil)) sNil))) (sCons (sTup (sCons (sC (.str "lamp")) (sCons (sLst (sCons (sC (.str "a")) sNil)) sNil))) (sCons (sTup (sCons (sTup (sCons (sC (.str "yes")) sNil)) sNil)) sNil))))))))) sNil))) (xSeq (xExpr (sMu opExt (sVar 3) (sCons (sLst (sCons (sTup (sCons (sC (.str "and")) (sCons (sTup (sCons (sC (.str "yes")) sNil)) sNil))) (sCons (sTup (sCons (sC (.str "not")) sNil)) (sCons (sTup (sCons (sC (.str "since")) (sCons (sTup (sCons (sC (.str "yes")) sNil)) (sCons (sTup (sCons (sC (.str "no")) sNil)) (sCons (sTup (sCons (sC (.str "no")) sNil)) sNil))))) (sCons (sTup (sCons (sC (.str "before")) (sCons (sC (.str "yes")) sNil))) sNil))))) sNil))) (xSeq (xRet 2 (sBin opIx (sVar 3) (sBin opMod (sBin opFdv (sVar 1) (sC (.int 3))) (sC (.int 19))))) xNx)))))
def R_l_spoilt : Nat → List T → FR
  | 0 => fun _ => .bad
  | n + 1 => bodyF 2 [0, 1] 4 (b_l_spoilt (R_l_spoilt n))
def F_l_spoilt : List T → FR := R_l_spoilt 24
def b_l_refused : Env → R Fl := (xSeq (xTry ["NoSaying", "NoBook"] "NoSaying" (xSeq (xExpr (sCallF F_checked_saying (sCons (sVar 0) (sCons (sVar 1) sNil)))) xNx) fun x => asEnd 2 (hRet (fun x => (excSub x "LossError" && (excSub x "ValueError" && !(excSub x "NoBook")))) x)) (xSeq (xRet 2 (sC (.bl false))) xNx))
def F_l_refused : List T → FR := bodyF 2 [0, 1] 3 b_l_refused
def b_law_k01 : Env → R Fl := (xSeq (xSt 1 (sLst (sCons (sC (.int 2)) sNil))) (xSeq (xSetG (gTp 2 (gCn (gN 2) (gCn (gN 3) gNl))) (sCallF F_l_names (sCons (sVar 0) (sCons (sVar 1) sNil)))) (xSeq (xSt 4 (sBin opAdd (sVar 2) (sVar 3))) (xSeq (xSt 5 (sCallF F_l_saying (sCons (sVar 0) (sCons (sVar 1) (sCons (sVar 4) (sCons (sC (.int 4)) (sCons (sLst (sCons (sC (.int 3)) sNil)) sNil))))))) (xSeq (xIf (bOr (sB (sBin opNe (sCallF F_checked_saying (sCons (sVar 4) (sCons (sVar 5) sNil))) (sVar 5))) (sB (sBin opNe (sCallF F_depth (sCons (sVar 5) sNil)) (sCallF F_l_deep (sCons (sVar 5) sNil))))) (xSeq (xRet 1 (sC (.bl false))) xNx) xNx) (xSeq (xSt 6 (sVar 5)) (xSeq (xWhile (sB (sBin opLt (sCallF F_l_deep (sCons (sVar 6) sNil)) (sC (.int 8)))) (xSeq (xSt 6 (sTup (sCons (sC (.str "not")) (sCons (sVar 6) sNil)))) xNx) wN) (xSeq (xIf (bOr (sB (sBin opNe (sCallF F_checked_saying (sCons (sVar 4) (sCons (sVar 6) sNil))) (sVar 6))) (bNot (sB (sCallF F_l_refused (sCons (sVar 4) (sCons (sTup (sCons (sC (.str "once")) (sCons (sVar 6) sNil))) sNil)))))) (xSeq (xRet 1 (sC (.bl false))) xNx) xNx) (xSeq (xSt 7 (sCallF F_l_spoilt (sCons (sVar 5) (sCons (sCallF F_l_mixed (sCons (sVar 0) (sCons (sC (.int 0)) (sCons (sBin opPow (sC (.int 10)) (sC (.int 6))) sNil)))) sNil)))) (xSeq (xRet 1 (sOr (sB (sBin opEq (sVar 7) (sVar 5))) (sCallF F_l_refused (sCons (sVar 4) (sCons (sVar 7) sNil))))) xNx))))))))))
def F_law_k01 : List T → FR := bodyF 1 [0] 8 b_law_k01
def b_need_play : Env → R Fl := (xSeq (xSt 2 (sBin opAdd (sCl cfLen (sCons (sBin opIx (sVar 0) (sC (.int 0))) sNil)) (sCl cfLen (sCons (sBin opIx (sVar 0) (sC (.int 1))) sNil)))) (xSeq (xIf (bOr (bNot (sB (sUn (isiD "list") (sVar 1)))) (bNot (sB (sCl cfAll (sCons (sComp [3] (sItE (sVar 1)) (gN 3) cT (sCallF F_is_setting (sCons (sVar 3) (sCons (sVar 2) sNil)))) sNil))))) (xSeq (xRaise "NoPlay") xNx) xNx) xNx))
def F_need_play : List T → FR := bodyF 2 [0, 1] 4 b_need_play
def b_joined : Env → R Fl := (xSeq (xIf (sB (sBin opEq (sVar 0) (sC (.str "not")))) (xSeq (xRet 3 (sOfB (bNot (sB (sBin opIx (sBin opIx (sVar 1) (sC (.int 0))) (sVar 2)))))) xNx) xNx) (xSeq (xIf (sB (sBin opEq (sVar 0) (sC (.str "and")))) (xSeq (xRet 3 (sAnd (sB (sBin opIx (sBin opIx (sVar 1) (sC (.int 0))) (sVar 2))) (sBin opIx (sBin opIx (sVar 1) (sC (.int 1))) (sVar 2)))) xNx) xNx) (xSeq (xIf (sB (sBin opEq (sVar 0) (sC (.str "or")))) (xSeq (xRet 3 (sOr (sB (sBin opIx (sBin opIx (sVar 1) (sC (.int 0))) (sVar 2))) (sBin opIx (sBin opIx (sVar 1) (sC (.int 1))) (sVar 2)))) xNx) xNx) (xSeq (xIf (sB (sBin opEq (sVar 0) (sC (.str "then")))) (xSeq (xRet 3 (sOr (sB (sBin opIx (sBin opIx (sVar 1) (sC (.int 1))) (sVar 2))) (sOfB (bNot (sB (sBin opIx (sBin opIx (sVar 1) (sC (.int 0))) (sVar 2))))))) xNx) xNx) (xSeq (xRet 3 (sBin opEq (sBin opIx (sBin opIx (sVar 1) (sC (.int 0))) (sVar 2)) (sBin opIx (sBin opIx (sVar 1) (sC (.int 1))) (sVar 2)))) xNx)))))
def F_joined : List T → FR := bodyF 3 [0, 1, 2] 3 b_joined
def b_past_row : Env → R Fl := (xSeq (xIf (sB (sBin opEq (sVar 0) (sC (.str "before")))) (xSeq (xRet 2 (sBin opAdd (sLst (sCons (sC (.bl false)) sNil)) (sSl opSl (sBin opIx (sVar 1) (sC (.int 0))) none (some (sUn opNeg (sC (.int 1))))))) xNx) xNx) (xSeq (xSt 2 (sLst sNil)) (xSeq (xFr [] (sRng (sCons (sCl cfLen (sCons (sBin opIx (sVar 1) (sC (.int 0))) sNil)) sNil)) (gN 3) (xSeq (xSt 4 (sBin opAdd (sLst (sCons (sBin opEq (sVar 0) (sC (.str "sofar"))) sNil)) (sVar 2))) (xSeq (xIf (sB (sBin opEq (sVar 0) (sC (.str "once")))) (xSeq (xExpr (sMu opApp (sVar 2) (sCons (sOr (sB (sBin opIx (sBin opIx (sVar 1) (sC (.int 0))) (sVar 3))) (sBin opIx (sVar 4) (sUn opNeg (sC (.int 1))))) sNil))) xNx) (xSeq (xIf (sB (sBin opEq (sVar 0) (sC (.str "sofar")))) (xSeq (xExpr (sMu opApp (sVar 2) (sCons (sAnd (sB (sBin opIx (sBin opIx (sVar 1) (sC (.int 0))) (sVar 3))) (sBin opIx (sVar 4) (sUn opNeg (sC (.int 1))))) sNil))) xNx) (xSeq (xExpr (sMu opApp (sVar 2) (sCons (sOr (sB (sBin opIx (sBin opIx (sVar 1) (sC (.int 1))) (sVar 3))) (sAnd (sB (sBin opIx (sBin opIx (sVar 1) (sC (.int 0))) (sVar 3))) (sBin opIx (sVar 4) (sUn opNeg (sC (.int 1)))))) sNil))) xNx)) xNx)) xNx))) (xSeq (xRet 2 (sVar 2)) xNx))))
def F_past_row : List T → FR := bodyF 2 [0, 1] 5 b_past_row
def b_truth_row (r : List T → FR) : Env → R Fl := (xSeq (xIf (sB (sBin opEq (sBin opIx (sVar 1) (sC (.int 0))) (sC (.str "lamp")))) (xSeq (xRet 3 (sComp [3] (sItE (sVar 2)) (gN 3) cT (sBin opIx (sVar 3) (sMt "tuple" mfIndex (sVar 0) (sCons (sBin opIx (sVar 1) (sC (.int 1))) sNil))))) xNx) xNx) (xSeq (xIf (bOr (sB (sBin opEq (sBin opIx (sVar 1) (sC (.int 0))) (sC (.str "yes")))) (sB (sBin opEq (sBin opIx (sVar 1) (sC (.int 0))) (sC (.str "no"))))) (xSeq (xRet 3 (sComp [3] (sItE (sVar 2)) (gN 3) cT (sBin opEq (sBin opIx (sVar 1) (sC (.int 0))) (sC (.str "yes"))))) xNx) xNx) (xSeq (xSt 4 (sComp [5] (sItE (sCallF F_parts_of (sCons (sVar 1) sNil))) (gN 5) cT (sCallF r (sCons (sVar 0) (sCons (sVar 5) (sCons (sVar 2) sNil)))))) (xSeq (xIf (sB (sBin opIn (sBin opIx (sVar 1) (sC (.int 0))) (sTup (sCons (sC (.str "before")) (sCons (sC (.str "once")) (sCons (sC (.str "sofar")) (sCons (sC (.str "since")) sNil))))))) (xSeq (xRet 3 (sSl opSl (sCallF F_past_row (sCons (sBin opIx (sVar 1) (sC (.int 0))) (sCons (sVar 4) sNil))) none (some (sCl cfLen (sCons (sVar 2) sNil))))) xNx) xNx) (xSeq (xRet 3 (sComp [6] (sRng (sCons (sCl cfLen (sCons (sVar 2) sNil)) sNil)) (gN 6) cT (sCallF F_joined (sCons (sBin opIx (sVar 1) (sC (.int 0))) (sCons (sVar 4) (sCons (sVar 6) sNil)))))) xNx)))))
def R_truth_row : Nat → List T → FR
  | 0 => fun _ => .bad
  | n + 1 => bodyF 3 [0, 1, 2] 7 (b_truth_row (R_truth_row n))
def F_truth_row : List T → FR := R_truth_row 24
def b_holds : Env → R Fl := (xSeq (xExpr (sCallF F_checked (sCons (sVar 0) sNil))) (xSeq (xExpr (sCallF F_checked_saying (sCons (sBin opAdd (sBin opIx (sVar 0) (sC (.int 0))) (sBin opIx (sVar 0) (sC (.int 1)))) (sCons (sVar 1) sNil)))) (xSeq (xExpr (sCallF F_need_play (sCons (sVar 0) (sCons (sVar 2) sNil)))) (xSeq (xIf (sB (sBin opEq (sVar 2) (sLst sNil))) (xSeq (xRaise "NoPlay") xNx) xNx) (xSeq (xRet 3 (sBin opIx (sCallF F_truth_row (sCons (sBin opAdd (sBin opIx (sVar 0) (sC (.int 0))) (sBin opIx (sVar 0) (sC (.int 1)))) (sCons (sVar 1) (sCons (sVar 2) sNil)))) (sUn opNeg (sC (.int 1))))) xNx)))))
def F_holds : List T → FR := bodyF 3 [0, 1, 2] 3 b_holds
def b_l_play : Env → R Fl := (xSeq (xSt 4 (sCallF F_l_mixed (sCons (sVar 0) (sCons (sVar 1) (sCons (sBin opPow (sC (.int 10)) (sC (.int 9))) sNil))))) (xSeq (xSt 5 (sLst sNil)) (xSeq (xFr [] (sRng (sCons (sCallF F_l_mixed (sCons (sVar 0) (sCons (sBin opAdd (sVar 1) (sC (.int 1))) (sCons (sBin opAdd (sVar 3) (sC (.int 1))) sNil)))) sNil)) (gN 6) (xSeq (xSt 7 (sBin opMod (sBin opMul (sBin opAdd (sBin opAdd (sVar 4) (sBin opMul (sBin opMul (sC (.int 104729)) (sVar 6)) (sVar 6))) (sBin opMul (sC (.int 7919)) (sVar 6))) (sC (.int 48271))) (sC (.int 2147483647)))) (xSeq (xExpr (sMu opApp (sVar 5) (sCons (sCl cfTuple (sCons (sComp [8] (sRng (sCons (sVar 2) sNil)) (gN 8) cT (sBin opEq (sBin opMod (sBin opFdv (sVar 7) (sBin opIx (sLst (sCons (sC (.int 13)) (sCons (sC (.int 26)) (sCons (sC (.int 52)) (sCons (sC (.int 104)) sNil))))) (sVar 8))) (sC (.int 2))) (sC (.int 1)))) sNil)) sNil))) xNx))) (xSeq (xRet 4 (sVar 5)) xNx))))
def F_l_play : List T → FR := bodyF 4 [0, 1, 2, 3] 9 b_l_play
def b_l_holds (r : List T → FR) : Env → R Fl := (xSeq (xSt 4 (sBin opIx (sVar 1) (sC (.int 0)))) (xSeq (xIf (sB (sBin opEq (sVar 4) (sC (.str "lamp")))) (xSeq (xRet 4 (sBin opIx (sBin opIx (sVar 2) (sVar 3)) (sMt "tuple" mfIndex (sVar 0) (sCons (sBin opIx (sVar 1) (sC (.int 1))) sNil)))) xNx) xNx) (xSeq (xIf (bOr (sB (sBin opEq (sVar 4) (sC (.str "yes")))) (sB (sBin opEq (sVar 4) (sC (.str "no"))))) (xSeq (xRet 4 (sBin opEq (sVar 4) (sC (.str "yes")))) xNx) xNx) (xSeq (xIf (sB (sBin opEq (sVar 4) (sC (.str "before")))) (xSeq (xRet 4 (sAnd (sB (sBin opGt (sVar 3) (sC (.int 0)))) (sCallF r (sCons (sVar 0) (sCons (sBin opIx (sVar 1) (sC (.int 1))) (sCons (sVar 2) (sCons (sBin opSub (sVar 3) (sC (.int 1))) sNil))))))) xNx) xNx) (xSeq (xIf (sB (sBin opEq (sVar 4) (sC (.str "once")))) (xSeq (xRet 4 (sBin opNe (sComp [5] (sRng (sCons (sBin opAdd (sVar 3) (sC (.int 1))) sNil)) (gN 5) (sB (sCallF r (sCons (sVar 0) (sCons (sBin opIx (sVar 1) (sC (.int 1))) (sCons (sVar 2) (sCons (sVar 5) sNil)))))) (sVar 5)) (sLst sNil))) xNx) xNx) (xSeq (xIf (sB (sBin opEq (sVar 4) (sC (.str "sofar")))) (xSeq (xRet 4 (sBin opEq (sComp [5] (sRng (sCons (sBin opAdd (sVar 3) (sC (.int 1))) sNil)) (gN 5) (bNot (sB (sCallF r (sCons (sVar 0) (sCons (sBin opIx (sVar 1) (sC (.int 1))) (sCons (sVar 2) (sCons (sVar 5) sNil))))))) (sVar 5)) (sLst sNil))) xNx) xNx) (xSeq (xIf (sB (sBin opEq (sVar 4) (sC (.str "since")))) (xSeq (xFr [] (sRng3 (sCons (sVar 3) (sCons (sUn opNeg (sC (.int 1))) (sCons (sUn opNeg (sC (.int 1))) sNil)))) (gN 5) (xSeq (xIf (sB (sCallF r (sCons (sVar 0) (sCons (sBin opIx (sVar 1) (sC (.int 2))) (sCons (sVar 2) (sCons (sVar 5) sNil)))))) (xSeq (xRet 4 (sC (.bl true))) xNx) xNx) (xSeq (xIf (bNot (sB (sCallF r (sCons (sVar 0) (sCons (sBin opIx (sVar 1) (sC (.int 1))) (sCons (sVar 2) (sCons (sVar 5) sNil))))))) (xSeq (xRet 4 (sC (.bl false))) xNx) xNx) xNx))) (xSeq (xRet 4 (sC (.bl false))) xNx)) xNx) (xSeq (xSt 6 (sCallF r (sCons (sVar 0) (sCons (sBin opIx (sVar 1) (sC (.int 1))) (sCons (sVar 2) (sCons (sVar 3) sNil)))))) (xSeq (xIf (sB (sBin opEq (sVar 4) (sC (.str "not")))) (xSeq (xRet 4 (sOfB (bNot (sB (sVar 6))))) xNx) xNx) (xSeq (xSt 7 (sCallF r (sCons (sVar 0) (sCons (sBin opIx (sVar 1) (sC (.int 2))) (sCons (sVar 2) (sCons (sVar 3) sNil)))))) (xSeq (xIf (sB (sBin opEq (sVar 4) (sC (.str "and")))) (xSeq (xRet 4 (sAnd (sB (sVar 6)) (sVar 7))) xNx) xNx) (xSeq (xIf (sB (sBin opEq (sVar 4) (sC (.str "or")))) (xSeq (xRet 4 (sOr (sB (sVar 6)) (sVar 7))) xNx) xNx) (xSeq (xIf (sB (sBin opEq (sVar 4) (sC (.str "then")))) (xSeq (xRet 4 (sOr (sB (sVar 7)) (sOfB (bNot (sB (sVar 6)))))) xNx) xNx) (xSeq (xRet 4 (sBin opEq (sVar 6) (sVar 7))) xNx))))))))))))))
def R_l_holds : Nat → List T → FR
  | 0 => fun _ => .bad
  | n + 1 => bodyF 4 [0, 1, 2, 3] 8 (b_l_holds (R_l_holds n))
def F_l_holds : List T → FR := R_l_holds 24
def b_law_k03 : Env → R Fl := (xSeq (xSt 1 (sLst (sCons (sC (.int 4)) sNil))) (xSeq (xSetG (gTp 2 (gCn (gN 2) (gCn (gN 3) gNl))) (sCallF F_l_names (sCons (sVar 0) (sCons (sVar 1) sNil)))) (xSeq (xSt 4 (sBin opAdd (sVar 2) (sVar 3))) (xSeq (xSt 5 (sCallF F_l_saying (sCons (sVar 0) (sCons (sVar 1) (sCons (sVar 4) (sCons (sC (.int 3)) (sCons (sLst (sCons (sC (.int 4)) sNil)) sNil))))))) (xSeq (xSt 6 (sBin opAdd (sCallF F_l_play (sCons (sVar 0) (sCons (sC (.int 0)) (sCons (sCl cfLen (sCons (sVar 4) sNil)) (sCons (sC (.int 5)) sNil))))) (sCallF F_l_play (sCons (sVar 0) (sCons (sC (.int 2)) (sCons (sCl cfLen (sCons (sVar 4) sNil)) (sCons (sC (.int 1)) sNil))))))) (xSeq (xSt 7 (sTup (sCons (sVar 2) (sCons (sVar 3) (sCons (sTup sNil) (sCons (sTup sNil) (sCons (sTup (sCons (sTup (sCons (sC (.int 1)) (sCons (sTup (sCons (sC (.str "yes")) sNil)) sNil))) sNil)) sNil))))))) (xSeq (xFr [] (sRng (sCons (sCl cfLen (sCons (sVar 6) sNil)) sNil)) (gN 8) (xSeq (xSt 9 (sCallF F_holds (sCons (sVar 7) (sCons (sVar 5) (sCons (sSl opSl (sVar 6) none (some (sBin opAdd (sVar 8) (sC (.int 1))))) sNil))))) (xSeq (xIf (bOr (bNot (sB (sUn (isiD "bool") (sVar 9)))) (sB (sBin opNe (sVar 9) (sCallF F_l_holds (sCons (sVar 4) (sCons (sVar 5) (sCons (sVar 6) (sCons (sVar 8) sNil)))))))) (xSeq (xRet 1 (sC (.bl false))) xNx) xNx) xNx))) (xSeq (xRet 1 (sC (.bl true))) xNx))))))))
def F_law_k03 : List T → FR := bodyF 1 [0] 10 b_law_k03
def b_law_k04 : Env → R Fl := (xSeq (xSt 1 (sLst (sCons (sC (.int 4)) sNil))) (xSeq (xSetG (gTp 2 (gCn (gN 2) (gCn (gN 3) gNl))) (sCallF F_l_names (sCons (sVar 0) (sCons (sVar 1) sNil)))) (xSeq (xSt 4 (sBin opAdd (sVar 2) (sVar 3))) (xSeq (xSt 5 (sCallF F_l_saying (sCons (sVar 0) (sCons (sVar 1) (sCons (sVar 4) (sCons (sC (.int 2)) (sCons (sLst (sCons (sC (.int 2)) sNil)) sNil))))))) (xSeq (xSt 6 (sCallF F_l_saying (sCons (sVar 0) (sCons (sVar 1) (sCons (sVar 4) (sCons (sC (.int 2)) (sCons (sLst (sCons (sC (.int 2)) sNil)) sNil))))))) (xSeq (xSt 7 (sBin opAdd (sCallF F_l_play (sCons (sVar 0) (sCons (sC (.int 0)) (sCons (sCl cfLen (sCons (sVar 4) sNil)) (sCons (sC (.int 5)) sNil))))) (sCallF F_l_play (sCons (sVar 0) (sCons (sC (.int 2)) (sCons (sCl cfLen (sCons (sVar 4) sNil)) (sCons (sC (.int 1)) sNil))))))) (xSeq (xSt 8 (sTup (sCons (sVar 2) (sCons (sVar 3) (sCons (sTup sNil) (sCons (sTup sNil) (sCons (sTup (sCons (sTup (sCons (sC (.int 1)) (sCons (sTup (sCons (sC (.str "yes")) sNil)) sNil))) sNil)) sNil))))))) (xSeq (xFr [] (sRng (sCons (sCl cfLen (sCons (sVar 7) sNil)) sNil)) (gN 9) (xSeq (xSt 10 (sC (.bl false))) (xSeq (xFr [] (sRng (sCons (sBin opAdd (sVar 9) (sC (.int 1))) sNil)) (gN 11) (xSeq (xSt 12 (sComp [13] (sRng (sCons (sVar 11) (sCons (sBin opAdd (sVar 9) (sC (.int 1))) sNil))) (gN 13) (sB (sCallF F_l_holds (sCons (sVar 4) (sCons (sVar 6) (sCons (sVar 7) (sCons (sVar 13) sNil)))))) (sVar 13))) (xSeq (xSt 10 (sOr (sB (sVar 10)) (sAnd (sB (sCallF F_l_holds (sCons (sVar 4) (sCons (sVar 5) (sCons (sVar 7) (sCons (sVar 11) sNil)))))) (sBin opEq (sVar 12) (sLst sNil))))) xNx))) (xSeq (xIf (sB (sBin opNe (sCallF F_holds (sCons (sVar 8) (sCons (sCallF F_waiting (sCons (sVar 5) (sCons (sVar 6) sNil))) (sCons (sSl opSl (sVar 7) none (some (sBin opAdd (sVar 9) (sC (.int 1))))) sNil)))) (sOfB (bNot (sB (sVar 10)))))) (xSeq (xRet 1 (sC (.bl false))) xNx) xNx) xNx)))) (xSeq (xRet 1 (sC (.bl true))) xNx)))))))))
def F_law_k04 : List T → FR := bodyF 1 [0] 14 b_law_k04
def b_book_pieces : Env → R Fl := (xSeq (xRet 1 (sCallF F_pieces_of (sCons (sCallF F_checked (sCons (sVar 0) sNil)) sNil))) xNx)
def F_book_pieces : List T → FR := bodyF 1 [0] 1 b_book_pieces
def b_l_spoilt_k05 : Env → R Fl := (xSeq (xSetG (gTp 5 (gCn (gN 2) (gCn (gN 3) (gCn (gN 4) (gCn (gN 5) (gCn (gN 6) gNl)))))) (sVar 0)) (xSeq (xSt 7 (sTup (sCons (sC (.str "lamp")) (sCons (sBin opIx (sVar 3) (sC (.int 0))) sNil)))) (xSeq (xSt 8 (sTup (sCons (sC (.str "yes")) sNil))) (xSeq (xFr [] (sRng (sCons (sC (.int 5)) sNil)) (gN 9) (xSeq (xSt 8 (sTup (sCons (sC (.str "once")) (sCons (sVar 8) sNil)))) xNx)) (xSeq (xSt 10 (sLst (sCons (sCl cfList (sCons (sVar 0) sNil)) (sCons (sBin opAdd (sVar 0) (sTup (sCons (sTup sNil) sNil))) (sCons (sSl opSl (sVar 0) none (some (sC (.int 4)))) (sCons (sC .non) (sCons (sTup (sCons (sTup sNil) (sCons (sVar 3) (sCons (sVar 4) (sCons (sVar 5) (sCons (sVar 6) sNil)))))) (sCons (sTup (sCons (sVar 2) (sCons (sTup sNil) (sCons (sTup sNil) (sCons (sTup sNil) (sCons (sVar 6) sNil)))))) sNil)))))))) (xSeq (xExpr (sMu opExt (sVar 10) (sCons (sLst (sCons (sTup (sCons (sVar 2) (sCons (sBin opAdd (sVar 3) (sTup (sCons (sC (.str "aa")) (sCons (sC (.str "bb")) sNil)))) (sCons (sTup sNil) (sCons (sTup sNil) (sCons (sVar 6) sNil)))))) (sCons (sTup (sCons (sBin opAdd (sVar 2) (sSl opSl (sVar 3) none (some (sC (.int 1))))) (sCons (sVar 3) (sCons (sVar 4) (sCons (sVar 5) (sCons (sVar 6) sNil)))))) sNil))) sNil))) (xSeq (xExpr (sMu opApp (sVar 10) (sCons (sTup (sCons (sBin opAdd (sSl opSl (sVar 2) none (some (sUn opNeg (sC (.int 1))))) (sTup (sCons (sC (.str "must")) sNil))) (sCons (sVar 3) (sCons (sTup sNil) (sCons (sTup sNil) (sCons (sTup (sCons (sTup (sCons (sC (.int 1)) (sCons (sTup (sCons (sC (.str "yes")) sNil)) sNil))) sNil)) sNil)))))) sNil))) (xSeq (xExpr (sMu opApp (sVar 10) (sCons (sTup (sCons (sBin opAdd (sSl opSl (sVar 2) none (some (sUn opNeg (sC (.int 1))))) (sTup (sCons (sC (.str "A")) sNil))) (sCons (sVar 3) (sCons (sTup sNil) (sCons (sTup sNil) (sCons (sTup (sCons (sTup (sCons (sC (.int 1)) (sCons (sTup (sCons (sC (.str "no")) sNil)) sNil))) sNil)) sNil)))))) sNil))) (xSeq (xExpr (sMu opExt (sVar 10) (sCons (sLst (sCons (sTup (sCons (sVar 2) (sCons (sVar 3) (sCons (sVar 4) (sCons (sVar 5) (sCons (sTup sNil) sNil)))))) (sCons (sTup (sCons (sVar 2) (sCons (sVar 3) (sCons (sVar 4) (sCons (sVar 5) (sCons (sBin opMul (sVar 6) (sC (.int 6))) sNil)))))) sNil))) sNil))) (xSeq (xExpr (sMu opExt (sVar 10) (sCons (sLst (sCons (sTup (sCons (sVar 2) (sCons (sVar 3) (sCons (sVar 4) (sCons (sVar 5) (sCons (sTup (sCons (sTup (sCons (sC (.int 0)) (sCons (sVar 7) sNil))) sNil)) sNil)))))) (sCons (sTup (sCons (sVar 2) (sCons (sVar 3) (sCons (sVar 4) (sCons (sVar 5) (sCons (sTup (sCons (sTup (sCons (sC (.int 100)) (sCons (sVar 7) sNil))) sNil)) sNil)))))) sNil))) sNil))) (xSeq (xExpr (sMu opExt (sVar 10) (sCons (sLst (sCons (sTup (sCons (sVar 2) (sCons (sVar 3) (sCons (sVar 4) (sCons (sVar 5) (sCons (sTup (sCons (sTup (sCons (sC (.bl true)) (sCons (sVar 7) sNil))) sNil)) sNil)))))) (sCons (sTup (sCons (sVar 2) (sCons (sVar 3) (sCons (sVar 4) (sCons (sVar 5) (sCons (sTup (sCons (sTup (sCons (sC (.int 1)) (sCons (sVar 7) (sCons (sC (.int 1)) sNil)))) sNil)) sNil)))))) sNil))) sNil))) (xSeq (xExpr (sMu opExt (sVar 10) (sCons (sLst (sCons (sTup (sCons (sVar 2) (sCons (sVar 3) (sCons (sVar 4) (sCons (sBin opMul (sTup (sCons (sVar 7) sNil)) (sC (.int 4))) (sCons (sVar 6) sNil)))))) (sCons (sTup (sCons (sVar 2) (sCons (sVar 3) (sCons (sTup (sCons (sVar 7) sNil)) (sCons (sVar 5) (sCons (sVar 6) sNil)))))) sNil))) sNil))) (xSeq (xExpr (sMu opExt (sVar 10) (sCons (sLst (sCons (sTup (sCons (sVar 2) (sCons (sVar 3) (sCons (sTup (sCons (sTup (sCons (sC (.str "once")) (sCons (sVar 7) sNil))) sNil)) (sCons (sTup sNil) (sCons (sTup (sCons (sTup (sCons (sC (.int 1)) (sCons (sVar 7) sNil))) sNil)) sNil)))))) (sCons (sTup (sCons (sVar 2) (sCons (sVar 3) (sCons (sVar 4) (sCons (sLst (sCons (sVar 7) sNil)) (sCons (sVar 6) sNil)))))) sNil))) sNil))) (xSeq (xExpr (sMu opExt (sVar 10) (sCons (sLst (sCons (sTup (sCons (sVar 2) (sCons (sVar 3) (sCons (sVar 4) (sCons (sTup (sCons (sTup (sCons (sC (.str "lamp")) (sCons (sC (.str "qq")) sNil))) sNil)) (sCons (sVar 6) sNil)))))) (sCons (sTup (sCons (sVar 2) (sCons (sVar 3) (sCons (sTup sNil) (sCons (sTup (sCons (sVar 8) sNil)) (sCons (sTup (sCons (sTup (sCons (sC (.int 1)) (sCons (sVar 7) sNil))) sNil)) sNil)))))) sNil))) sNil))) (xSeq (xExpr (sMu opExt (sVar 10) (sCons (sLst (sCons (sTup (sCons (sVar 2) (sCons (sVar 3) (sCons (sTup (sCons (sTup (sCons (sC (.str "or")) (sCons (sTup (sCons (sC (.str "before")) (sCons (sVar 7) sNil))) (sCons (sVar 7) sNil)))) sNil)) (sCons (sTup sNil) (sCons (sTup (sCons (sTup (sCons (sC (.int 1)) (sCons (sVar 7) sNil))) sNil)) sNil)))))) (sCons (sTup (sCons (sVar 2) (sCons (sVar 3) (sCons (sVar 4) (sCons (sVar 5) (sCons (sC (.int 5)) sNil)))))) sNil))) sNil))) (xSeq (xRet 2 (sBin opIx (sVar 10) (sBin opMod (sVar 1) (sC (.int 24))))) xNx))))))))))))))))
def F_l_spoilt_k05 : List T → FR := bodyF 2 [0, 1] 11 b_l_spoilt_k05
def b_l_refused_k05 : Env → R Fl := (xSeq (xTry ["NoSaying", "NoBook"] "NoBook" (xSeq (xExpr (sCallF F_checked (sCons (sVar 0) sNil))) xNx) fun x => asEnd 1 (hRet (fun x => (excSub x "LossError" && (excSub x "ValueError" && !(excSub x "NoSaying")))) x)) (xSeq (xRet 1 (sC (.bl false))) xNx))
def F_l_refused_k05 : List T → FR := bodyF 1 [0] 2 b_l_refused_k05
def b_law_k05 : Env → R Fl := (xSeq (xSt 1 (sCallF F_l_book (sCons (sVar 0) (sCons (sC (.int 2)) (sCons (sC (.int 3)) (sCons (sC (.int 2)) sNil)))))) (xSeq (xSt 2 (sTup (sCons (sC (.str "yes")) sNil))) (xSeq (xFr [] (sRng (sCons (sC (.int 4)) sNil)) (gN 3) (xSeq (xSt 2 (sTup (sCons (sC (.str "sofar")) (sCons (sVar 2) sNil)))) xNx)) (xSeq (xSt 4 (sTup (sCons (sTup (sCons (sC (.str "a")) (sCons (sC (.str "b")) sNil))) (sCons (sTup (sCons (sC (.str "c")) (sCons (sC (.str "abcdefgh")) sNil))) (sCons (sBin opMul (sTup (sCons (sTup (sCons (sC (.str "before")) (sCons (sTup (sCons (sC (.str "lamp")) (sCons (sC (.str "c")) sNil))) sNil))) sNil)) (sC (.int 3))) (sCons (sBin opMul (sTup (sCons (sTup (sCons (sC (.str "no")) sNil)) sNil)) (sC (.int 3))) (sCons (sBin opMul (sTup (sCons (sTup (sCons (sC (.int 99)) (sCons (sTup (sCons (sC (.str "yes")) sNil)) sNil))) sNil)) (sC (.int 5))) sNil))))))) (xSeq (xSt 5 (sTup (sCons (sTup (sCons (sC (.str "a")) sNil)) (sCons (sTup (sCons (sC (.str "b")) sNil)) (sCons (sTup sNil) (sCons (sTup (sCons (sVar 2) sNil)) (sCons (sTup (sCons (sTup (sCons (sC (.int 1)) (sCons (sVar 2) sNil))) sNil)) sNil))))))) (xSeq (xIf (bOr (sB (sBin opNe (sCallF F_checked (sCons (sVar 1) sNil)) (sVar 1))) (bOr (sB (sBin opNe (sCallF F_checked (sCons (sVar 4) sNil)) (sVar 4))) (sB (sBin opNe (sCallF F_checked (sCons (sVar 5) sNil)) (sVar 5))))) (xSeq (xRet 1 (sC (.bl false))) xNx) xNx) (xSeq (xSt 6 (sCallF F_book_pieces (sCons (sVar 1) sNil))) (xSeq (xIf (bOr (bNot (sB (sUn (isiD "list") (sVar 6)))) (sB (sBin opNe (sVar 6) (sCallF F_l_book_pieces (sCons (sVar 1) sNil))))) (xSeq (xRet 1 (sC (.bl false))) xNx) xNx) (xSeq (xRet 1 (sCallF F_l_refused_k05 (sCons (sCallF F_l_spoilt_k05 (sCons (sVar 1) (sCons (sCallF F_l_mixed (sCons (sVar 0) (sCons (sC (.int 0)) (sCons (sBin opPow (sC (.int 10)) (sC (.int 6))) sNil)))) sNil))) sNil))) xNx)))))))))
def F_law_k05 : List T → FR := bodyF 1 [0] 7 b_law_k05
def b_first_without_C1 : Env → R XV := (sCallF F_truth_row (sCons (sVar 0) (sCons (sVar 4) (sCons (sVar 2) sNil))))
def b_first_without_L1 : Env → R Fl := (xSeq (xIf (bNot (sB (sCl cfAll (sCons (sComp [6] (sItE (sVar 3)) (gN 6) cT (sBin opIx (sVar 6) (sVar 5))) sNil)))) (xSeq (xRet 3 (sVar 5)) xNx) xNx) xNx)
def b_first_without : Env → R Fl := (xSeq (xSt 3 (sComp [4] (sItE (sVar 1)) (gN 4) cT b_first_without_C1)) (xSeq (xFr [] (sRng (sCons (sCl cfLen (sCons (sVar 2) sNil)) sNil)) (gN 5) b_first_without_L1) (xSeq (xRet 3 (sC .non)) xNx)))
def F_first_without : List T → FR := bodyF 3 [0, 1, 2] 7 b_first_without
def b_first_breaks : Env → R Fl := (xSeq (xExpr (sCallF F_checked (sCons (sVar 0) sNil))) (xSeq (xExpr (sCallF F_need_play (sCons (sVar 0) (sCons (sVar 1) sNil)))) (xSeq (xSt 2 (sBin opAdd (sBin opIx (sVar 0) (sC (.int 0))) (sBin opIx (sVar 0) (sC (.int 1))))) (xSeq (xRet 2 (sTup (sCons (sCallF F_first_without (sCons (sVar 2) (sCons (sBin opIx (sVar 0) (sC (.int 2))) (sCons (sVar 1) sNil)))) (sCons (sCallF F_first_without (sCons (sVar 2) (sCons (sBin opIx (sVar 0) (sC (.int 3))) (sCons (sVar 1) sNil)))) sNil)))) xNx))))
def F_first_breaks : List T → FR := bodyF 2 [0, 1] 3 b_first_breaks
def b_losses_C1 : Env → R XV := (sTup (sCons (sVar 3) (sCons (sCallF F_truth_row (sCons (sBin opAdd (sBin opIx (sVar 0) (sC (.int 0))) (sBin opIx (sVar 0) (sC (.int 1)))) (sCons (sVar 4) (sCons (sVar 1) sNil)))) sNil)))
def b_losses_L1 : Env → R Fl := (xSeq (xExpr (sMu opApp (sVar 5) (sCons (sCl cfSum (sCons (sComp [3, 7] (sItE (sVar 2)) (gTp 2 (gCn (gN 3) (gCn (gN 7) gNl))) (bNot (sB (sBin opIx (sVar 7) (sVar 6)))) (sVar 3)) sNil)) sNil))) xNx)
def b_losses : Env → R Fl := (xSeq (xExpr (sCallF F_checked (sCons (sVar 0) sNil))) (xSeq (xExpr (sCallF F_need_play (sCons (sVar 0) (sCons (sVar 1) sNil)))) (xSeq (xSt 2 (sComp [3, 4] (sItE (sBin opIx (sVar 0) (sC (.int 4)))) (gTp 2 (gCn (gN 3) (gCn (gN 4) gNl))) cT b_losses_C1)) (xSeq (xSt 5 (sLst sNil)) (xSeq (xFr [] (sRng (sCons (sCl cfLen (sCons (sVar 1) sNil)) sNil)) (gN 6) b_losses_L1) (xSeq (xRet 2 (sVar 5)) xNx))))))
def F_losses : List T → FR := bodyF 2 [0, 1] 8 b_losses
def b_l_kept_D1 : Env → R Bool := (bNot (sB (sCallF F_l_holds (sCons (sVar 0) (sCons (sVar 3) (sCons (sVar 2) (sCons (sBin opSub (sCl cfLen (sCons (sVar 2) sNil)) (sC (.int 1))) sNil)))))))
def b_l_kept : Env → R Fl := (xSeq (xRet 3 (sBin opEq (sComp [3] (sItE (sVar 1)) (gN 3) b_l_kept_D1 (sVar 3)) (sLst sNil))) xNx)
def F_l_kept : List T → FR := bodyF 3 [0, 1, 2] 4 b_l_kept
def b_l_loss_D1 : Env → R Bool := (bNot (sB (sCallF F_l_holds (sCons (sVar 2) (sCons (sBin opIx (sVar 3) (sC (.int 1))) (sCons (sVar 1) (sCons (sBin opSub (sCl cfLen (sCons (sVar 1) sNil)) (sC (.int 1))) sNil)))))))
def b_l_loss : Env → R Fl := (xSeq (xSt 2 (sBin opAdd (sBin opIx (sVar 0) (sC (.int 0))) (sBin opIx (sVar 0) (sC (.int 1))))) (xSeq (xRet 2 (sCl cfSum (sCons (sComp [3] (sItE (sBin opIx (sVar 0) (sC (.int 4)))) (gN 3) b_l_loss_D1 (sBin opIx (sVar 3) (sC (.int 0)))) sNil))) xNx))
def F_l_loss : List T → FR := bodyF 2 [0, 1] 4 b_l_loss
def b_law_k06_C1 : Env → R XV := (sCallF F_l_loss (sCons (sVar 1) (sCons (sSl opSl (sVar 3) none (some (sVar 6))) sNil)))
def b_law_k06_D1 : Env → R Bool := (bNot (sB (sCallF F_l_kept (sCons (sVar 2) (sCons (sVar 8) (sCons (sSl opSl (sVar 3) none (some (sVar 6))) sNil))))))
def b_law_k06_L1 : Env → R Fl := (xSeq (xSt 9 (sComp [6] (sItE (sVar 5)) (gN 6) b_law_k06_D1 (sBin opSub (sVar 6) (sC (.int 1))))) (xSeq (xExpr (sMu opApp (sVar 7) (sCons (sBin opIx (sBin opAdd (sVar 9) (sLst (sCons (sC .non) sNil))) (sC (.int 0))) sNil))) xNx))
def b_law_k06 : Env → R Fl := (xSeq (xSt 1 (sCallF F_l_book (sCons (sVar 0) (sCons (sC (.int 4)) (sCons (sC (.int 3)) (sCons (sC (.int 2)) sNil)))))) (xSeq (xSt 2 (sBin opAdd (sBin opIx (sVar 1) (sC (.int 0))) (sBin opIx (sVar 1) (sC (.int 1))))) (xSeq (xSt 3 (sCallF F_l_play (sCons (sVar 0) (sCons (sC (.int 0)) (sCons (sCl cfLen (sCons (sVar 2) sNil)) (sCons (sC (.int 7)) sNil)))))) (xSeq (xSt 4 (sCl cfList (sCons (sVar 3) sNil))) (xSeq (xSt 5 (sBin opLRg (sC (.int 1)) (sBin opAdd (sCl cfLen (sCons (sVar 3) sNil)) (sC (.int 1))))) (xSeq (xIf (sB (sBin opNe (sCallF F_losses (sCons (sVar 1) (sCons (sVar 4) sNil))) (sComp [6] (sItE (sVar 5)) (gN 6) cT b_law_k06_C1))) (xSeq (xRet 1 (sC (.bl false))) xNx) xNx) (xSeq (xSt 7 (sLst sNil)) (xSeq (xFr [] (sItE (sTup (sCons (sBin opIx (sVar 1) (sC (.int 2))) (sCons (sBin opIx (sVar 1) (sC (.int 3))) sNil)))) (gN 8) b_law_k06_L1) (xSeq (xRet 1 (sAnd (sB (sBin opEq (sCallF F_first_breaks (sCons (sVar 1) (sCons (sVar 4) sNil))) (sCl cfTuple (sCons (sVar 7) sNil)))) (sBin opEq (sVar 4) (sVar 3)))) xNx)))))))))
def F_law_k06 : List T → FR := bodyF 1 [0] 10 b_law_k06
def b_settings_of_L1 : Env → R Fl := (xSeq (xExpr (sMu opExt (sVar 3) (sCons (sLst (sCons (sBin opAdd (sVar 4) (sTup (sCons (sC (.bl false)) sNil))) (sCons (sBin opAdd (sVar 4) (sTup (sCons (sC (.bl true)) sNil))) sNil))) sNil))) xNx)
def b_settings_of_L2 : Env → R Fl := (xSeq (xSt 3 (sLst sNil)) (xSeq (xFr [1] (sItE (sVar 1)) (gN 4) b_settings_of_L1) (xSeq (xSt 1 (sVar 3)) xNx)))
def b_settings_of : Env → R Fl := (xSeq (xSt 1 (sLst (sCons (sTup sNil) sNil))) (xSeq (xFr [] (sRng (sCons (sVar 0) sNil)) (gN 2) b_settings_of_L2) (xSeq (xRet 1 (sVar 1)) xNx)))
def F_settings_of : List T → FR := bodyF 1 [0] 5 b_settings_of
def b_is_stand_L1 : Env → R Fl := (xSeq (xIf (bOr (bNot (sB (sUn (isiD "tuple") (sVar 3)))) (bOr (sB (sBin opNe (sCl cfLen (sCons (sVar 3) sNil)) (sC (.int 2)))) (bNot (sB (sCallF F_is_setting (sCons (sBin opIx (sVar 3) (sC (.int 0))) (sCons (sCl cfLen (sCons (sBin opIx (sVar 0) (sC (.int 1))) sNil)) sNil))))))) (xSeq (xRet 3 (sC (.bl false))) xNx) xNx) (xSeq (xIf (bNot (sB (sCallF F_between (sCons (sBin opIx (sVar 3) (sC (.int 1))) (sCons (sC (.int 0)) (sCons (sBin opSub (sVar 2) (sC (.int 1))) sNil)))))) (xSeq (xRet 3 (sC (.bl false))) xNx) xNx) xNx))
def b_is_stand : Env → R Fl := (xSeq (xIf (bOr (bNot (sB (sUn (isiD "tuple") (sVar 1)))) (sB (sBin opNe (sCl cfLen (sCons (sVar 1) sNil)) (sCl cfLen (sCons (sCallF F_settings_of (sCons (sCl cfLen (sCons (sBin opIx (sVar 0) (sC (.int 0))) sNil)) sNil)) sNil))))) (xSeq (xRet 3 (sC (.bl false))) xNx) xNx) (xSeq (xFr [1] (sItE (sVar 1)) (gN 3) b_is_stand_L1) (xSeq (xRet 3 (sC (.bl true))) xNx)))
def F_is_stand : List T → FR := bodyF 3 [0, 1, 2] 4 b_is_stand
def b_is_machine_C1 : Env → R XV := (sCallF F_is_stand (sCons (sVar 0) (sCons (sVar 2) (sCons (sCl cfLen (sCons (sVar 1) sNil)) sNil))))
def b_is_machine : Env → R Fl := (xSeq (xIf (bOr (bNot (sB (sUn (isiD "tuple") (sVar 1)))) (bNot (sB (sChain opLe opLe (sC (.int 1)) (sCl cfLen (sCons (sVar 1) sNil)) (sC (.int 64)))))) (xSeq (xRet 2 (sC (.bl false))) xNx) xNx) (xSeq (xRet 2 (sCl cfAll (sCons (sComp [2] (sItE (sVar 1)) (gN 2) cT b_is_machine_C1) sNil))) xNx))
def F_is_machine : List T → FR := bodyF 2 [0, 1] 3 b_is_machine
def b_need_machine : Env → R Fl := (xSeq (xIf (bNot (sB (sCallF F_is_machine (sCons (sVar 0) (sCons (sVar 1) sNil))))) (xSeq (xRaise "NoMachine") xNx) xNx) xNx)
def F_need_machine : List T → FR := bodyF 2 [0, 1] 2 b_need_machine
def b_checked_machine : Env → R Fl := (xSeq (xExpr (sCallF F_need_machine (sCons (sCallF F_checked (sCons (sVar 0) sNil)) (sCons (sVar 1) sNil)))) (xSeq (xRet 2 (sVar 1)) xNx))
def F_checked_machine : List T → FR := bodyF 2 [0, 1] 2 b_checked_machine
def b_run_C1 : Env → R XV := (sCallF F_is_setting (sCons (sVar 3) (sCons (sCl cfLen (sCons (sBin opIx (sVar 0) (sC (.int 0))) sNil)) sNil)))
def b_run_L1 : Env → R Fl := (xSeq (xSetG (gTp 2 (gCn (gN 7) (gCn (gN 5) gNl))) (sBin opIx (sBin opIx (sVar 1) (sVar 5)) (sMt "list" mfLIndex (sVar 4) (sCons (sVar 3) sNil)))) (xSeq (xExpr (sMu opApp (sVar 6) (sCons (sBin opAdd (sVar 3) (sVar 7)) sNil))) xNx))
def b_run : Env → R Fl := (xSeq (xExpr (sCallF F_checked_machine (sCons (sVar 0) (sCons (sVar 1) sNil)))) (xSeq (xIf (bOr (bNot (sB (sUn (isiD "list") (sVar 2)))) (bNot (sB (sCl cfAll (sCons (sComp [3] (sItE (sVar 2)) (gN 3) cT b_run_C1) sNil))))) (xSeq (xRaise "NoPlay") xNx) xNx) (xSeq (xSt 4 (sCallF F_settings_of (sCons (sCl cfLen (sCons (sBin opIx (sVar 0) (sC (.int 0))) sNil)) sNil))) (xSeq (xSt 5 (sC (.int 0))) (xSeq (xSt 6 (sLst sNil)) (xSeq (xFr [2] (sItE (sVar 2)) (gN 3) b_run_L1) (xSeq (xRet 3 (sVar 6)) xNx)))))))
def F_run : List T → FR := bodyF 3 [0, 1, 2] 8 b_run
def b_l_settings_L1 : Env → R Fl := (xSeq (xExpr (sMu opExt (sVar 3) (sCons (sLst (sCons (sBin opAdd (sVar 4) (sTup (sCons (sC (.bl false)) sNil))) (sCons (sBin opAdd (sVar 4) (sTup (sCons (sC (.bl true)) sNil))) sNil))) sNil))) xNx)
def b_l_settings_L2 : Env → R Fl := (xSeq (xSt 3 (sLst sNil)) (xSeq (xFr [1] (sItE (sVar 1)) (gN 4) b_l_settings_L1) (xSeq (xSt 1 (sVar 3)) xNx)))
def b_l_settings : Env → R Fl := (xSeq (xSt 1 (sLst (sCons (sTup sNil) sNil))) (xSeq (xFr [] (sRng (sCons (sVar 0) sNil)) (gN 2) b_l_settings_L2) (xSeq (xRet 1 (sVar 1)) xNx)))
def F_l_settings : List T → FR := bodyF 1 [0] 5 b_l_settings
def b_l_machine_L1 : Env → R Fl := (xSeq (xSt 11 (sCallF F_l_mixed (sCons (sVar 0) (sCons (sBin opAdd (sBin opAdd (sBin opAdd (sVar 1) (sC (.int 1))) (sBin opMul (sC (.int 4)) (sVar 8))) (sVar 10)) (sCons (sBin opMul (sC (.int 4)) (sVar 5)) sNil))))) (xSeq (xExpr (sMu opApp (sVar 9) (sCons (sTup (sCons (sBin opIx (sVar 6) (sBin opMod (sBin opMod (sVar 11) (sC (.int 4))) (sCl cfLen (sCons (sVar 6) sNil)))) (sCons (sBin opFdv (sVar 11) (sC (.int 4))) sNil))) sNil))) xNx))
def b_l_machine_L2 : Env → R Fl := (xSeq (xSt 9 (sLst sNil)) (xSeq (xFr [] (sRng (sCons (sCl cfLen (sCons (sCallF F_l_settings (sCons (sVar 2) sNil)) sNil)) sNil)) (gN 10) b_l_machine_L1) (xSeq (xExpr (sMu opApp (sVar 7) (sCons (sCl cfTuple (sCons (sVar 9) sNil)) sNil))) xNx)))
def b_l_machine : Env → R Fl := (xSeq (xSt 5 (sBin opAdd (sC (.int 1)) (sCallF F_l_mixed (sCons (sVar 0) (sCons (sVar 1) (sCons (sVar 4) sNil)))))) (xSeq (xSt 6 (sCallF F_l_settings (sCons (sVar 3) sNil))) (xSeq (xSt 7 (sLst sNil)) (xSeq (xFr [] (sRng (sCons (sVar 5) sNil)) (gN 8) b_l_machine_L2) (xSeq (xRet 5 (sCl cfTuple (sCons (sVar 7) sNil))) xNx)))))
def F_l_machine : List T → FR := bodyF 5 [0, 1, 2, 3, 4] 12 b_l_machine
def b_l_run_L1 : Env → R Fl := (xSeq (xSetG (gTp 2 (gCn (gN 5) (gCn (gN 2) gNl))) (sBin opIx (sBin opIx (sVar 0) (sVar 2)) (sMt "list" mfLIndex (sCallF F_l_settings (sCons (sCl cfLen (sCons (sVar 4) sNil)) sNil)) (sCons (sVar 4) sNil)))) (xSeq (xExpr (sMu opApp (sVar 3) (sCons (sBin opAdd (sVar 4) (sVar 5)) sNil))) xNx))
def b_l_run : Env → R Fl := (xSeq (xSt 2 (sC (.int 0))) (xSeq (xSt 3 (sLst sNil)) (xSeq (xFr [1] (sItE (sVar 1)) (gN 4) b_l_run_L1) (xSeq (xRet 2 (sVar 3)) xNx))))
def F_l_run : List T → FR := bodyF 2 [0, 1] 6 b_l_run
def b_l_sets_L1 : Env → R Fl := (xSeq (xSt 8 (sBin opMod (sBin opMul (sBin opAdd (sBin opAdd (sVar 4) (sBin opMul (sBin opMul (sC (.int 104729)) (sVar 7)) (sVar 7))) (sBin opMul (sC (.int 7919)) (sVar 7))) (sC (.int 48271))) (sC (.int 2147483647)))) (xSeq (xExpr (sMu opApp (sVar 6) (sCons (sBin opIx (sVar 5) (sBin opMod (sBin opFdv (sVar 8) (sC (.int 13))) (sCl cfLen (sCons (sVar 5) sNil)))) sNil))) xNx))
def b_l_sets : Env → R Fl := (xSeq (xSt 4 (sCallF F_l_mixed (sCons (sVar 0) (sCons (sVar 1) (sCons (sBin opPow (sC (.int 10)) (sC (.int 9))) sNil))))) (xSeq (xSt 5 (sCallF F_l_settings (sCons (sVar 2) sNil))) (xSeq (xSt 6 (sLst sNil)) (xSeq (xFr [] (sRng (sCons (sCallF F_l_mixed (sCons (sVar 0) (sCons (sBin opAdd (sVar 1) (sC (.int 1))) (sCons (sBin opAdd (sVar 3) (sC (.int 1))) sNil)))) sNil)) (gN 7) b_l_sets_L1) (xSeq (xRet 4 (sVar 6)) xNx)))))
def F_l_sets : List T → FR := bodyF 4 [0, 1, 2, 3] 9 b_l_sets
def b_law_k19 : Env → R Fl := (xSeq (xSt 1 (sCallF F_l_book (sCons (sVar 0) (sCons (sC (.int 30)) (sCons (sC (.int 2)) (sCons (sC (.int 1)) sNil)))))) (xSeq (xSt 2 (sCallF F_l_machine (sCons (sVar 0) (sCons (sC (.int 2)) (sCons (sCl cfLen (sCons (sBin opIx (sVar 1) (sC (.int 0))) sNil)) (sCons (sCl cfLen (sCons (sBin opIx (sVar 1) (sC (.int 1))) sNil)) (sCons (sC (.int 6)) sNil))))))) (xSeq (xSt 3 (sCallF F_l_sets (sCons (sVar 0) (sCons (sC (.int 0)) (sCons (sCl cfLen (sCons (sBin opIx (sVar 1) (sC (.int 0))) sNil)) (sCons (sC (.int 12)) sNil)))))) (xSeq (xSt 4 (sCl cfList (sCons (sVar 3) sNil))) (xSeq (xSt 5 (sCallF F_run (sCons (sVar 1) (sCons (sVar 2) (sCons (sVar 4) sNil))))) (xSeq (xIf (bOr (sB (sBin opNe (sVar 4) (sVar 3))) (sB (sBin opNe (sCallF F_checked_machine (sCons (sVar 1) (sCons (sVar 2) sNil))) (sVar 2)))) (xSeq (xRet 1 (sC (.bl false))) xNx) xNx) (xSeq (xRet 1 (sAnd (sB (sUn (isiD "list") (sVar 5))) (sBin opEq (sVar 5) (sCallF F_l_run (sCons (sVar 2) (sCons (sVar 3) sNil)))))) xNx)))))))
def F_law_k19 : List T → FR := bodyF 1 [0] 6 b_law_k19
def b_Teller___init__ : Env → R Fl := (xSeq (xFset 0 "Teller" "book" false (sVar 1)) (xSeq (xFset 0 "Teller" "names" false (sBin opAdd (sBin opIx (sVar 1) (sC (.int 0))) (sBin opIx (sVar 1) (sC (.int 1))))) (xSeq (xFset 0 "Teller" "pieces" false (sCallF F_pieces_of (sCons (sVar 1) sNil))) xNx)))
def F_Teller___init__ : List T → FR := bodyF 2 [0, 1] 2 b_Teller___init__
def b_Teller_first_C1 : Env → R XV := (sBin opEq (sBin opIx (sVar 1) (sC (.int 0))) (sC (.str "sofar")))
def b_Teller_first : Env → R Fl := (xSeq (xRet 1 (sCl cfTuple (sCons (sComp [1] (sItE (sFld "Teller" "pieces" (sVar 0))) (gN 1) cT b_Teller_first_C1) sNil))) xNx)
def F_Teller_first : List T → FR := bodyF 1 [0] 2 b_Teller_first
def b_Teller_past_C1 (r0 : List T → FR) (r1 : List T → FR) : Env → R XV := (sMeth "Teller" "holds" r1 (sVar 0) (sCons (sVar 6) (sCons (sVar 2) (sCons (sVar 3) sNil))))
def b_Teller_past (r0 : List T → FR) (r1 : List T → FR) : Env → R Fl := (xSeq (xSt 4 (sBin opIx (sVar 2) (sMt "list" mfLIndex (sFld "Teller" "pieces" (sVar 0)) (sCons (sVar 1) sNil)))) (xSeq (xIf (sB (sBin opEq (sBin opIx (sVar 1) (sC (.int 0))) (sC (.str "before")))) (xSeq (xRet 4 (sVar 4)) xNx) xNx) (xSeq (xSt 5 (sComp [6] (sItE (sCallF F_parts_of (sCons (sVar 1) sNil))) (gN 6) cT (b_Teller_past_C1 r0 r1))) (xSeq (xIf (sB (sBin opEq (sBin opIx (sVar 1) (sC (.int 0))) (sC (.str "once")))) (xSeq (xRet 4 (sOr (sB (sBin opIx (sVar 5) (sC (.int 0)))) (sVar 4))) xNx) xNx) (xSeq (xIf (sB (sBin opEq (sBin opIx (sVar 1) (sC (.int 0))) (sC (.str "sofar")))) (xSeq (xRet 4 (sAnd (sB (sBin opIx (sVar 5) (sC (.int 0)))) (sVar 4))) xNx) xNx) (xSeq (xRet 4 (sOr (sB (sBin opIx (sVar 5) (sC (.int 1)))) (sAnd (sB (sBin opIx (sVar 5) (sC (.int 0)))) (sVar 4)))) xNx))))))
def b_Teller_holds_C1 (r0 : List T → FR) (r1 : List T → FR) : Env → R XV := (sMeth "Teller" "holds" r1 (sVar 0) (sCons (sVar 5) (sCons (sVar 2) (sCons (sVar 3) sNil))))
def b_Teller_holds (r0 : List T → FR) (r1 : List T → FR) : Env → R Fl := (xSeq (xIf (sB (sBin opEq (sBin opIx (sVar 1) (sC (.int 0))) (sC (.str "lamp")))) (xSeq (xRet 4 (sBin opIx (sVar 3) (sMt "tuple" mfIndex (sFld "Teller" "names" (sVar 0)) (sCons (sBin opIx (sVar 1) (sC (.int 1))) sNil)))) xNx) xNx) (xSeq (xIf (bOr (sB (sBin opEq (sBin opIx (sVar 1) (sC (.int 0))) (sC (.str "yes")))) (sB (sBin opEq (sBin opIx (sVar 1) (sC (.int 0))) (sC (.str "no"))))) (xSeq (xRet 4 (sBin opEq (sBin opIx (sVar 1) (sC (.int 0))) (sC (.str "yes")))) xNx) xNx) (xSeq (xIf (sB (sBin opIn (sBin opIx (sVar 1) (sC (.int 0))) (sTup (sCons (sC (.str "before")) (sCons (sC (.str "once")) (sCons (sC (.str "sofar")) (sCons (sC (.str "since")) sNil))))))) (xSeq (xRet 4 (sMeth "Teller" "past" r0 (sVar 0) (sCons (sVar 1) (sCons (sVar 2) (sCons (sVar 3) sNil))))) xNx) xNx) (xSeq (xSt 4 (sComp [5] (sItE (sCallF F_parts_of (sCons (sVar 1) sNil))) (gN 5) cT (b_Teller_holds_C1 r0 r1))) (xSeq (xIf (sB (sBin opEq (sBin opIx (sVar 1) (sC (.int 0))) (sC (.str "not")))) (xSeq (xRet 4 (sOfB (bNot (sB (sBin opIx (sVar 4) (sC (.int 0))))))) xNx) xNx) (xSeq (xIf (sB (sBin opEq (sBin opIx (sVar 1) (sC (.int 0))) (sC (.str "and")))) (xSeq (xRet 4 (sAnd (sB (sBin opIx (sVar 4) (sC (.int 0)))) (sBin opIx (sVar 4) (sC (.int 1))))) xNx) xNx) (xSeq (xIf (sB (sBin opEq (sBin opIx (sVar 1) (sC (.int 0))) (sC (.str "or")))) (xSeq (xRet 4 (sOr (sB (sBin opIx (sVar 4) (sC (.int 0)))) (sBin opIx (sVar 4) (sC (.int 1))))) xNx) xNx) (xSeq (xIf (sB (sBin opEq (sBin opIx (sVar 1) (sC (.int 0))) (sC (.str "then")))) (xSeq (xRet 4 (sOr (sB (sBin opIx (sVar 4) (sC (.int 1)))) (sOfB (bNot (sB (sBin opIx (sVar 4) (sC (.int 0)))))))) xNx) xNx) (xSeq (xRet 4 (sBin opEq (sBin opIx (sVar 4) (sC (.int 0))) (sBin opIx (sVar 4) (sC (.int 1))))) xNx)))))))))
mutual
def R_Teller_past : Nat → List T → FR
  | 0 => fun _ => .bad
  | n + 1 => bodyF 4 [0, 1, 2, 3] 7 (b_Teller_past (R_Teller_past n) (R_Teller_holds n))
def R_Teller_holds : Nat → List T → FR
  | 0 => fun _ => .bad
  | n + 1 => bodyF 4 [0, 1, 2, 3] 6 (b_Teller_holds (R_Teller_past n) (R_Teller_holds n))
end
def F_Teller_past : List T → FR := R_Teller_past 24
def F_Teller_holds : List T → FR := R_Teller_holds 24
def b_Teller_behind_L1 : Env → R Fl := (xSeq (xIf (sB (sBin opEq (sBin opIx (sVar 4) (sC (.int 0))) (sC (.str "before")))) (xSeq (xExpr (sMu opApp (sVar 3) (sCons (sMeth "Teller" "holds" F_Teller_holds (sVar 0) (sCons (sBin opIx (sVar 4) (sC (.int 1))) (sCons (sVar 1) (sCons (sVar 2) sNil)))) sNil))) xNx) (xSeq (xExpr (sMu opApp (sVar 3) (sCons (sMeth "Teller" "holds" F_Teller_holds (sVar 0) (sCons (sVar 4) (sCons (sVar 1) (sCons (sVar 2) sNil)))) sNil))) xNx)) xNx)
def b_Teller_behind : Env → R Fl := (xSeq (xSt 3 (sLst sNil)) (xSeq (xFr [] (sItE (sFld "Teller" "pieces" (sVar 0))) (gN 4) b_Teller_behind_L1) (xSeq (xRet 3 (sCl cfTuple (sCons (sVar 3) sNil))) xNx)))
def F_Teller_behind : List T → FR := bodyF 3 [0, 1, 2] 5 b_Teller_behind
def b_memory_behind_L1 : Env → R Fl := (xSeq (xSt 3 (sMeth "Teller" "behind" F_Teller_behind (sVar 2) (sCons (sVar 3) (sCons (sVar 4) sNil)))) xNx)
def b_memory_behind : Env → R Fl := (xSeq (xExpr (sCallF F_checked (sCons (sVar 0) sNil))) (xSeq (xExpr (sCallF F_need_play (sCons (sVar 0) (sCons (sVar 1) sNil)))) (xSeq (xSt 2 (sMake "Teller" F_Teller___init__ (sCons (sVar 0) sNil))) (xSeq (xSt 3 (sMeth "Teller" "first" F_Teller_first (sVar 2) sNil)) (xSeq (xFr [1] (sItE (sVar 1)) (gN 4) b_memory_behind_L1) (xSeq (xRet 2 (sVar 3)) xNx))))))
def F_memory_behind : List T → FR := bodyF 2 [0, 1] 5 b_memory_behind
def b_l_memory_L1 : Env → R Fl := (xSeq (xIf (sB (sBin opEq (sVar 1) (sLst sNil))) (xSeq (xExpr (sMu opApp (sVar 3) (sCons (sBin opEq (sBin opIx (sVar 4) (sC (.int 0))) (sC (.str "sofar"))) sNil))) xNx) (xSeq (xIf (sB (sBin opEq (sBin opIx (sVar 4) (sC (.int 0))) (sC (.str "before")))) (xSeq (xExpr (sMu opApp (sVar 3) (sCons (sCallF F_l_holds (sCons (sVar 2) (sCons (sBin opIx (sVar 4) (sC (.int 1))) (sCons (sVar 1) (sCons (sBin opSub (sCl cfLen (sCons (sVar 1) sNil)) (sC (.int 1))) sNil))))) sNil))) xNx) (xSeq (xExpr (sMu opApp (sVar 3) (sCons (sCallF F_l_holds (sCons (sVar 2) (sCons (sVar 4) (sCons (sVar 1) (sCons (sBin opSub (sCl cfLen (sCons (sVar 1) sNil)) (sC (.int 1))) sNil))))) sNil))) xNx)) xNx)) xNx)
def b_l_memory : Env → R Fl := (xSeq (xSt 2 (sBin opAdd (sBin opIx (sVar 0) (sC (.int 0))) (sBin opIx (sVar 0) (sC (.int 1))))) (xSeq (xSt 3 (sLst sNil)) (xSeq (xFr [] (sItE (sCallF F_l_book_pieces (sCons (sVar 0) sNil))) (gN 4) b_l_memory_L1) (xSeq (xRet 2 (sCl cfTuple (sCons (sVar 3) sNil))) xNx))))
def F_l_memory : List T → FR := bodyF 2 [0, 1] 5 b_l_memory
def b_law_k07_L1 : Env → R Fl := (xSeq (xSt 4 (sCallF F_memory_behind (sCons (sVar 1) (sCons (sSl opSl (sVar 2) none (some (sVar 3))) sNil)))) (xSeq (xIf (bOr (bNot (sB (sUn (isiD "tuple") (sVar 4)))) (sB (sBin opNe (sComp [5] (sItE (sVar 4)) (gN 5) (bNot (sB (sUn (isiD "bool") (sVar 5)))) (sVar 5)) (sLst sNil)))) (xSeq (xRet 1 (sC (.bl false))) xNx) xNx) (xSeq (xIf (sB (sBin opNe (sVar 4) (sCallF F_l_memory (sCons (sVar 1) (sCons (sSl opSl (sVar 2) none (some (sVar 3))) sNil))))) (xSeq (xRet 1 (sC (.bl false))) xNx) xNx) xNx)))
def b_law_k07 : Env → R Fl := (xSeq (xSt 1 (sCallF F_l_book (sCons (sVar 0) (sCons (sC (.int 4)) (sCons (sC (.int 3)) (sCons (sC (.int 2)) sNil)))))) (xSeq (xSt 2 (sCallF F_l_play (sCons (sVar 0) (sCons (sC (.int 0)) (sCons (sCl cfLen (sCons (sBin opAdd (sBin opIx (sVar 1) (sC (.int 0))) (sBin opIx (sVar 1) (sC (.int 1)))) sNil)) (sCons (sC (.int 7)) sNil)))))) (xSeq (xFr [] (sRng (sCons (sBin opAdd (sCl cfLen (sCons (sVar 2) sNil)) (sC (.int 1))) sNil)) (gN 3) b_law_k07_L1) (xSeq (xRet 1 (sC (.bl true))) xNx))))
def F_law_k07 : List T → FR := bodyF 1 [0] 6 b_law_k07
def b_Teller_keeps_C1 : Env → R XV := (sMeth "Teller" "holds" F_Teller_holds (sVar 0) (sCons (sVar 4) (sCons (sVar 2) (sCons (sVar 3) sNil))))
def b_Teller_keeps : Env → R Fl := (xSeq (xRet 4 (sCl cfAll (sCons (sComp [4] (sItE (sVar 1)) (gN 4) cT b_Teller_keeps_C1) sNil))) xNx)
def F_Teller_keeps : List T → FR := bodyF 4 [0, 1, 2, 3] 5 b_Teller_keeps
def b_Teller_loss_D1 : Env → R Bool := (bNot (sB (sMeth "Teller" "holds" F_Teller_holds (sVar 0) (sCons (sVar 4) (sCons (sVar 1) (sCons (sVar 2) sNil))))))
def b_Teller_loss : Env → R Fl := (xSeq (xRet 3 (sCl cfSum (sCons (sComp [3, 4] (sItE (sBin opIx (sFld "Teller" "book" (sVar 0)) (sC (.int 4)))) (gTp 2 (gCn (gN 3) (gCn (gN 4) gNl))) b_Teller_loss_D1 (sVar 3)) sNil))) xNx)
def F_Teller_loss : List T → FR := bodyF 3 [0, 1, 2] 5 b_Teller_loss
def b_answers_to_L1 : Env → R Fl := (xSeq (xIf (sB (sMeth "Teller" "keeps" F_Teller_keeps (sVar 0) (sCons (sBin opIx (sFld "Teller" "book" (sVar 0)) (sC (.int 3))) (sCons (sVar 1) (sCons (sBin opAdd (sVar 2) (sVar 4)) sNil))))) (xSeq (xExpr (sMu opApp (sVar 3) (sCons (sTup (sCons (sVar 4) (sCons (sMeth "Teller" "loss" F_Teller_loss (sVar 0) (sCons (sVar 1) (sCons (sBin opAdd (sVar 2) (sVar 4)) sNil))) (sCons (sMeth "Teller" "behind" F_Teller_behind (sVar 0) (sCons (sVar 1) (sCons (sBin opAdd (sVar 2) (sVar 4)) sNil))) sNil)))) sNil))) xNx) xNx) xNx)
def b_answers_to : Env → R Fl := (xSeq (xSt 3 (sLst sNil)) (xSeq (xFr [] (sItE (sCallF F_settings_of (sCons (sCl cfLen (sCons (sBin opIx (sFld "Teller" "book" (sVar 0)) (sC (.int 1))) sNil)) sNil))) (gN 4) b_answers_to_L1) (xSeq (xRet 3 (sVar 3)) xNx)))
def F_answers_to : List T → FR := bodyF 3 [0, 1, 2] 5 b_answers_to
def b_game_of_L1 : Env → R Fl := (xSeq (xIf (sB (sBin opNotInT (sVar 11) (sVar 2))) (xSeq (xSetT (sCl cfLen (sCons (sVar 3) sNil)) (sVar 2) (sVar 11)) (xSeq (xExpr (sMu opApp (sVar 3) (sCons (sVar 11) sNil))) xNx)) xNx) (xSeq (xExpr (sMu opApp (sVar 8) (sCons (sTup (sCons (sVar 9) (sCons (sVar 10) (sCons (sBin opIxT (sVar 2) (sVar 11)) sNil)))) sNil))) xNx))
def b_game_of_L2 : Env → R Fl := (xSeq (xIf (sB (sMeth "Teller" "keeps" F_Teller_keeps (sVar 1) (sCons (sBin opIx (sVar 0) (sC (.int 2))) (sCons (sVar 5) (sCons (sBin opAdd (sVar 7) (sBin opMul (sTup (sCons (sC (.bl false)) sNil)) (sCl cfLen (sCons (sBin opIx (sVar 0) (sC (.int 1))) sNil)))) sNil))))) (xSeq (xSt 8 (sLst sNil)) (xSeq (xFr [] (sItE (sCallF F_answers_to (sCons (sVar 1) (sCons (sVar 5) (sCons (sVar 7) sNil))))) (gTp 3 (gCn (gN 9) (gCn (gN 10) (gCn (gN 11) gNl)))) b_game_of_L1) (xSeq (xExpr (sMu opApp (sVar 6) (sCons (sTup (sCons (sVar 7) (sCons (sCl cfTuple (sCons (sVar 8) sNil)) sNil))) sNil))) xNx))) xNx) xNx)
def b_game_of_L3 : Env → R Fl := (xSeq (xSt 5 (sBin opIx (sVar 3) (sCl cfLen (sCons (sVar 4) sNil)))) (xSeq (xSt 6 (sLst sNil)) (xSeq (xFr [] (sItE (sCallF F_settings_of (sCons (sCl cfLen (sCons (sBin opIx (sVar 0) (sC (.int 0))) sNil)) sNil))) (gN 7) b_game_of_L2) (xSeq (xExpr (sMu opApp (sVar 4) (sCons (sTup (sCons (sVar 5) (sCons (sCl cfTuple (sCons (sVar 6) sNil)) sNil))) sNil))) xNx))))
def b_game_of : Env → R Fl := (xSeq (xSt 1 (sMake "Teller" F_Teller___init__ (sCons (sVar 0) sNil))) (xSeq (xSt 2 (sDisp (sMeth "Teller" "first" F_Teller_first (sVar 1) sNil) (sC (.int 0)))) (xSeq (xSt 3 (sLst (sCons (sMeth "Teller" "first" F_Teller_first (sVar 1) sNil) sNil))) (xSeq (xSt 4 (sLst sNil)) (xSeq (xWhile (sB (sBin opLt (sCl cfLen (sCons (sVar 4) sNil)) (sCl cfLen (sCons (sVar 3) sNil)))) b_game_of_L3 wN) (xSeq (xRet 1 (sVar 4)) xNx))))))
def F_game_of : List T → FR := bodyF 1 [0] 12 b_game_of
def b_game : Env → R Fl := (xSeq (xRet 1 (sCallF F_game_of (sCons (sCallF F_checked (sCons (sVar 0) sNil)) sNil))) xNx)
def F_game : List T → FR := bodyF 1 [0] 1 b_game
def b_l_answers_L1 : Env → R Fl := (xSeq (xSt 6 (sBin opAdd (sVar 1) (sLst (sCons (sBin opAdd (sVar 2) (sVar 5)) sNil)))) (xSeq (xIf (sB (sCallF F_l_kept (sCons (sVar 3) (sCons (sBin opIx (sVar 0) (sC (.int 3))) (sCons (sVar 6) sNil))))) (xSeq (xExpr (sMu opApp (sVar 4) (sCons (sTup (sCons (sVar 5) (sCons (sCallF F_l_loss (sCons (sVar 0) (sCons (sVar 6) sNil))) (sCons (sVar 6) sNil)))) sNil))) xNx) xNx) xNx))
def b_l_answers : Env → R Fl := (xSeq (xSt 3 (sBin opAdd (sBin opIx (sVar 0) (sC (.int 0))) (sBin opIx (sVar 0) (sC (.int 1))))) (xSeq (xSt 4 (sLst sNil)) (xSeq (xFr [] (sItE (sCallF F_l_settings (sCons (sCl cfLen (sCons (sBin opIx (sVar 0) (sC (.int 1))) sNil)) sNil))) (gN 5) b_l_answers_L1) (xSeq (xRet 3 (sVar 4)) xNx))))
def F_l_answers : List T → FR := bodyF 3 [0, 1, 2] 7 b_l_answers
def b_l_game_L1 : Env → R Fl := (xSeq (xSt 11 (sCallF F_l_memory (sCons (sVar 0) (sCons (sVar 10) sNil)))) (xSeq (xIf (sB (sBin opNotIn (sVar 11) (sVar 2))) (xSeq (xExpr (sMu opApp (sVar 2) (sCons (sVar 11) sNil))) (xSeq (xExpr (sMu opApp (sVar 1) (sCons (sVar 10) sNil))) xNx)) xNx) (xSeq (xExpr (sMu opApp (sVar 7) (sCons (sTup (sCons (sVar 8) (sCons (sVar 9) (sCons (sMt "list" mfLIndex (sVar 2) (sCons (sVar 11) sNil)) sNil)))) sNil))) xNx)))
def b_l_game_L2 : Env → R Fl := (xSeq (xIf (sB (sCallF F_l_kept (sCons (sBin opAdd (sBin opIx (sVar 0) (sC (.int 0))) (sBin opIx (sVar 0) (sC (.int 1)))) (sCons (sBin opIx (sVar 0) (sC (.int 2))) (sCons (sBin opAdd (sVar 4) (sLst (sCons (sBin opAdd (sVar 6) (sBin opMul (sTup (sCons (sC (.bl false)) sNil)) (sCl cfLen (sCons (sBin opIx (sVar 0) (sC (.int 1))) sNil)))) sNil))) sNil))))) (xSeq (xSt 7 (sLst sNil)) (xSeq (xFr [] (sItE (sCallF F_l_answers (sCons (sVar 0) (sCons (sVar 4) (sCons (sVar 6) sNil))))) (gTp 3 (gCn (gN 8) (gCn (gN 9) (gCn (gN 10) gNl)))) b_l_game_L1) (xSeq (xExpr (sMu opApp (sVar 5) (sCons (sTup (sCons (sVar 6) (sCons (sCl cfTuple (sCons (sVar 7) sNil)) sNil))) sNil))) xNx))) xNx) xNx)
def b_l_game_L3 : Env → R Fl := (xSeq (xSt 4 (sBin opIx (sVar 1) (sCl cfLen (sCons (sVar 3) sNil)))) (xSeq (xSt 5 (sLst sNil)) (xSeq (xFr [] (sItE (sCallF F_l_settings (sCons (sCl cfLen (sCons (sBin opIx (sVar 0) (sC (.int 0))) sNil)) sNil))) (gN 6) b_l_game_L2) (xSeq (xExpr (sMu opApp (sVar 3) (sCons (sTup (sCons (sBin opIx (sVar 2) (sCl cfLen (sCons (sVar 3) sNil))) (sCons (sCl cfTuple (sCons (sVar 5) sNil)) sNil))) sNil))) xNx))))
def b_l_game : Env → R Fl := (xSeq (xSt 1 (sLst (sCons (sLst sNil) sNil))) (xSeq (xSt 2 (sLst (sCons (sCallF F_l_memory (sCons (sVar 0) (sCons (sLst sNil) sNil))) sNil))) (xSeq (xSt 3 (sLst sNil)) (xSeq (xWhile (sB (sBin opLt (sCl cfLen (sCons (sVar 3) sNil)) (sCl cfLen (sCons (sVar 1) sNil)))) b_l_game_L3 wN) (xSeq (xRet 1 (sVar 3)) xNx)))))
def F_l_game : List T → FR := bodyF 1 [0] 12 b_l_game
def b_law_k08 : Env → R Fl := (xSeq (xSt 1 (sCallF F_l_book (sCons (sVar 0) (sCons (sC (.int 0)) (sCons (sC (.int 3)) (sCons (sC (.int 2)) sNil)))))) (xSeq (xSt 2 (sCallF F_game (sCons (sVar 1) sNil))) (xSeq (xIf (bOr (bNot (sB (sUn (isiD "list") (sVar 2)))) (sB (sBin opNe (sComp [3] (sItE (sVar 2)) (gN 3) (bNot (sB (sUn (isiD "tuple") (sVar 3)))) (sVar 3)) (sLst sNil)))) (xSeq (xRet 1 (sC (.bl false))) xNx) xNx) (xSeq (xRet 1 (sBin opEq (sVar 2) (sCallF F_l_game (sCons (sVar 1) sNil)))) xNx))))
def F_law_k08 : List T → FR := bodyF 1 [0] 4 b_law_k08
def b_is_breaking : Env → R Fl := (xSeq (xRet 2 (sCl cfAll (sCons (sComp [2, 3, 4] (sItE (sVar 0)) (gTp 3 (gCn (gN 2) (gCn (gN 3) (gCn (gN 4) gNl)))) cT (sBin opIsNotN (sBin opIx (sVar 1) (sVar 4)) (sC .non))) sNil))) xNx)
def F_is_breaking : List T → FR := bodyF 2 [0, 1] 5 b_is_breaking
def b_ranks_of_D1 : Env → R Bool := (sB (sCallF F_is_breaking (sCons (sVar 11) (sCons (sVar 6) sNil))))
def b_ranks_of_L1 : Env → R Fl := (xSeq (xSt 8 (sComp [10, 11] (sItE (sBin opIx (sBin opIx (sVar 0) (sVar 7)) (sC (.int 1)))) (gTp 2 (gCn (gN 10) (gCn (gN 11) gNl))) b_ranks_of_D1 (sVar 10))) (xSeq (xIf (bAnd (sB (sBin opIsN (sBin opIx (sVar 6) (sVar 7)) (sC .non))) (sB (sBin opNe (sVar 8) (sLst sNil)))) (xSeq (xSetI (sVar 4) (sVar 1) (sVar 7)) (xSeq (xSetI (sBin opIx (sVar 8) (sC (.int 0))) (sVar 3) (sVar 7)) xNx)) xNx) xNx))
def b_ranks_of_L2 : Env → R Fl := (xSeq (xSt 5 (sCl cfLen (sCons (sComp [9] (sItE (sVar 1)) (gN 9) (sB (sBin opIsNotN (sVar 9) (sC .non))) (sVar 9)) sNil))) (xSeq (xSt 4 (sBin opAdd (sVar 4) (sC (.int 1)))) (xSeq (xSt 6 (sCl cfList (sCons (sVar 1) sNil))) (xSeq (xFr [] (sRng (sCons (sCl cfLen (sCons (sVar 0) sNil)) sNil)) (gN 7) b_ranks_of_L1) xNx))))
def b_ranks_of : Env → R Fl := (xSeq (xSt 1 (sComp [2] (sItE (sVar 0)) (gN 2) cT (sC .non))) (xSeq (xSt 3 (sComp [2] (sItE (sVar 0)) (gN 2) cT (sC .non))) (xSeq (xSt 4 (sC (.int 0))) (xSeq (xSt 5 (sUn opNeg (sC (.int 1)))) (xSeq (xWhile (sB (sBin opNe (sVar 5) (sCl cfLen (sCons (sComp [9] (sItE (sVar 1)) (gN 9) (sB (sBin opIsNotN (sVar 9) (sC .non))) (sVar 9)) sNil)))) b_ranks_of_L2 wN) (xSeq (xRet 1 (sTup (sCons (sVar 1) (sCons (sVar 3) sNil)))) xNx))))))
def F_ranks_of : List T → FR := bodyF 1 [0] 12 b_ranks_of
def b_lost_in : Env → R Fl := (xSeq (xRet 1 (sBin opIx (sCallF F_ranks_of (sCons (sCallF F_game_of (sCons (sCallF F_checked (sCons (sVar 0) sNil)) sNil)) sNil)) (sC (.int 0)))) xNx)
def F_lost_in : List T → FR := bodyF 1 [0] 1 b_lost_in
def b_breaking_moves : Env → R Fl := (xSeq (xRet 1 (sBin opIx (sCallF F_ranks_of (sCons (sCallF F_game_of (sCons (sCallF F_checked (sCons (sVar 0) sNil)) sNil)) sNil)) (sC (.int 1)))) xNx)
def F_breaking_moves : List T → FR := bodyF 1 [0] 1 b_breaking_moves
def b_l_ranks_D1 : Env → R Bool := (sB (sBin opIsN (sBin opIx (sVar 4) (sBin opIx (sVar 8) (sC (.int 2)))) (sC .non)))
def b_l_ranks_L1 : Env → R Fl := (xSeq (xIf (bAnd (sB (sBin opIsN (sBin opIx (sVar 4) (sVar 5)) (sC .non))) (sB (sBin opEq (sComp [8] (sItE (sVar 7)) (gN 8) b_l_ranks_D1 (sVar 8)) (sLst sNil)))) (xSeq (xSetI (sVar 3) (sVar 1) (sVar 5)) xNx) xNx) xNx)
def b_l_ranks_L2 : Env → R Fl := (xSeq (xFr [] (sItE (sBin opIx (sBin opIx (sVar 0) (sVar 5)) (sC (.int 1)))) (gTp 2 (gCn (gN 6) (gCn (gN 7) gNl))) b_l_ranks_L1) xNx)
def b_l_ranks_L3 : Env → R Fl := (xSeq (xSt 4 (sCl cfList (sCons (sVar 1) sNil))) (xSeq (xFr [] (sRng (sCons (sCl cfLen (sCons (sVar 0) sNil)) sNil)) (gN 5) b_l_ranks_L2) xNx))
def b_l_ranks : Env → R Fl := (xSeq (xSt 1 (sComp [2] (sItE (sVar 0)) (gN 2) cT (sC .non))) (xSeq (xFr [] (sRng (sCons (sC (.int 1)) (sCons (sBin opAdd (sCl cfLen (sCons (sVar 0) sNil)) (sC (.int 1))) sNil))) (gN 3) b_l_ranks_L3) (xSeq (xRet 1 (sVar 1)) xNx)))
def F_l_ranks : List T → FR := bodyF 1 [0] 9 b_l_ranks
def b_l_good_D1 : Env → R Bool := (sB (sBin opIsN (sBin opIx (sVar 1) (sBin opIx (sVar 7) (sC (.int 2)))) (sC .non)))
def b_l_good_L1 : Env → R Fl := (xSeq (xExpr (sMu opApp (sVar 4) (sCons (sTup (sCons (sVar 5) (sCons (sComp [7] (sItE (sVar 6)) (gN 7) b_l_good_D1 (sVar 7)) sNil))) sNil))) xNx)
def b_l_good_L2 : Env → R Fl := (xSeq (xSt 4 (sLst sNil)) (xSeq (xFr [] (sItE (sBin opIx (sBin opIx (sVar 0) (sVar 3)) (sC (.int 1)))) (gTp 2 (gCn (gN 5) (gCn (gN 6) gNl))) b_l_good_L1) (xSeq (xExpr (sMu opApp (sVar 2) (sCons (sBin opIx (sLst (sCons (sVar 4) (sCons (sC .non) sNil))) (sCl cfInt (sCons (sBin opIsNotN (sBin opIx (sVar 1) (sVar 3)) (sC .non)) sNil))) sNil))) xNx)))
def b_l_good : Env → R Fl := (xSeq (xSt 1 (sCallF F_l_ranks (sCons (sVar 0) sNil))) (xSeq (xSt 2 (sLst sNil)) (xSeq (xFr [] (sRng (sCons (sCl cfLen (sCons (sVar 0) sNil)) sNil)) (gN 3) b_l_good_L2) (xSeq (xRet 1 (sVar 2)) xNx))))
def F_l_good : List T → FR := bodyF 1 [0] 8 b_l_good
def b_law_k10_D1 : Env → R Bool := (bOr (sB (sBin opIsN (sBin opIx (sVar 3) (sVar 11)) (sC .non))) (sB (sBin opGe (sBin opIx (sVar 3) (sVar 11)) (sBin opIx (sVar 3) (sVar 5)))))
def b_law_k10_L1 : Env → R Fl := (xSeq (xIf (sB (sBin opEq (sComp [9, 10, 11] (sItE (sVar 8)) (gTp 3 (gCn (gN 9) (gCn (gN 10) (gCn (gN 11) gNl)))) b_law_k10_D1 (sVar 11)) (sLst sNil))) (xSeq (xExpr (sMu opApp (sVar 6) (sCons (sVar 7) sNil))) xNx) xNx) xNx)
def b_law_k10_L2 : Env → R Fl := (xSeq (xSt 6 (sLst (sCons (sC .non) sNil))) (xSeq (xIf (sB (sBin opIsNotN (sBin opIx (sVar 3) (sVar 5)) (sC .non))) (xSeq (xSt 6 (sLst sNil)) (xSeq (xFr [] (sItE (sBin opIx (sBin opIx (sVar 2) (sVar 5)) (sC (.int 1)))) (gTp 2 (gCn (gN 7) (gCn (gN 8) gNl))) b_law_k10_L1) xNx)) xNx) (xSeq (xExpr (sMu opApp (sVar 4) (sCons (sBin opIx (sVar 6) (sC (.int 0))) sNil))) xNx)))
def b_law_k10 : Env → R Fl := (xSeq (xSt 1 (sCallF F_l_book (sCons (sVar 0) (sCons (sC (.int 0)) (sCons (sC (.int 3)) (sCons (sC (.int 3)) sNil)))))) (xSeq (xSt 2 (sCallF F_game (sCons (sVar 1) sNil))) (xSeq (xSt 3 (sCallF F_l_ranks (sCons (sVar 2) sNil))) (xSeq (xIf (sB (sBin opNe (sCallF F_lost_in (sCons (sVar 1) sNil)) (sVar 3))) (xSeq (xRet 1 (sC (.bl false))) xNx) xNx) (xSeq (xSt 4 (sLst sNil)) (xSeq (xFr [] (sRng (sCons (sCl cfLen (sCons (sVar 2) sNil)) sNil)) (gN 5) b_law_k10_L2) (xSeq (xSt 12 (sCallF F_breaking_moves (sCons (sVar 1) sNil))) (xSeq (xRet 1 (sAnd (sB (sUn (isiD "list") (sVar 12))) (sBin opEq (sVar 12) (sVar 4)))) xNx))))))))
def F_law_k10 : List T → FR := bodyF 1 [0] 13 b_law_k10
end
end Lz
/-! what a law draws -/
namespace Lz
open PySem PySem.Spec PyProof.Rows L2
theorem atI_lt {α : Type} {l : List α} {k : Nat} (h : k < l.length) : atI l (k : Int) = some l[k] := atI_nat (List.getElem?_eq_getElem h)
theorem ixN_lt {n k : Nat} (h : k < n) : ixN n (k : Int) = some k := by
  unfold ixN
  rw [if_pos (by omega), if_pos (by omega)]
  rfl
def cellAt (ns : List Int) (k : Nat) : Int := if h : k < ns.length then ns[k] else if h : ns = [] then 0 else ns[k % ns.length]'(Nat.mod_lt _ (by cases ns; exact absurd rfl h; simp)) * 31 + k
theorem eqD_scr_nil {ns : List Int} : eqD (.scr ns) (.lst []) = some (decide (ns = [])) := by
  by_cases h : ns = []
  · rw [decide_eq_true h]
    subst h
    exact eqD_t (n := 1) (m := 1) okN_scr (okN_lst (by simp)) (by decide) (by decide) (by simp [nrm, nrms])
  · rw [decide_eq_false h]
    refine eqD_f (n := 1) (m := 1) okN_scr (okN_lst (by simp)) (by decide) (by decide) ?_
    cases ns with
    | nil => exact absurd rfl h
    | cons a b => simp [nrm, nrms]
theorem fmod_nat (a b : Nat) : ((a : Int)).fmod (b : Int) = ((a % b : Nat) : Int) := by
  rw [Int.fmod_eq_emod_of_nonneg _ (Int.natCast_nonneg b)]
  exact (Int.natCast_emod a b).symm
theorem cell_sp (ns : List Int) (hl : ns.length ≤ 63) (k : Nat) : F_l_cell_at [(false, .scr ns), (false, .int k)] = .ok (false, .int (cellAt ns k)) [some (false, .scr ns), some (false, .int k)] := by
  unfold cellAt
  by_cases h : k < ns.length
  · simp [F_l_cell_at, b_l_cell_at, h, atI_lt h]
  · by_cases h2 : ns = []
    · subst h2
      have h3 : ¬ (k : Int) < 0 := by omega
      simp [F_l_cell_at, b_l_cell_at, eqD_scr_nil, h3]
    · have hp : 0 < ns.length := by cases ns; exact absurd rfl h2; simp
      have hm := Nat.mod_lt k hp
      simp [F_l_cell_at, b_l_cell_at, h, h2, eqD_scr_nil, fmod_nat, ← Int.natCast_emod, atI_lt hm]
def drawn (ns : List Int) (k : Nat) : Int := (cellAt ns k + 7919 * k + 1) * 48271 % 2147483647
def mixed (ns : List Int) (k many : Nat) : Nat := ((drawn ns k * drawn ns k + 7 * drawn ns k + k) % 2147483629 % (many : Int)).toNat
theorem mixed_lt (ns : List Int) (k many : Nat) (h : 0 < many) : mixed ns k many < many := by
  unfold mixed
  have := Int.emod_lt_of_pos ((drawn ns k * drawn ns k + 7 * drawn ns k + k) % 2147483629) (show (0 : Int) < many by omega)
  have h2 := Int.emod_nonneg ((drawn ns k * drawn ns k + 7 * drawn ns k + k) % 2147483629) (show (many : Int) ≠ 0 by omega)
  omega
theorem fmod_pos (x : Int) (m : Nat) : x.fmod (m : Int) = x % (m : Int) := Int.fmod_eq_emod_of_nonneg _ (by omega)
theorem mixed_sp (ns : List Int) (hl : ns.length ≤ 63) (k many : Nat) (hm : 0 < many) : F_l_mixed [(false, .scr ns), (false, .int k), (false, .int many)] = .ok (false, .int (mixed ns k many)) [some (false, .scr ns), some (false, .int k), some (false, .int many)] := by
  have h1 : (many : Int) ≠ 0 := by omega
  have e2 : ∀ x : Int, x.fmod 2147483647 = x % 2147483647 := fun x => fmod_pos x 2147483647
  have e3 : ∀ x : Int, x.fmod 2147483629 = x % 2147483629 := fun x => fmod_pos x 2147483629
  have hd : (cellAt ns k + 7919 * k + 1) * 48271 % 2147483647 = drawn ns k := rfl
  have d0 : 0 ≤ drawn ns k := Int.emod_nonneg _ (by decide)
  have d1 : drawn ns k < 2147483647 := Int.emod_lt_of_pos _ (by decide)
  have d2 : -18446744073709551616 < drawn ns k := by omega
  have d3 : drawn ns k < 18446744073709551616 := by omega
  have hr : ((mixed ns k many : Nat) : Int) = (drawn ns k * drawn ns k + 7 * drawn ns k + k) % 2147483629 % (many : Int) := by
    unfold mixed
    exact Int.toNat_of_nonneg (Int.emod_nonneg _ h1)
  have h1' : many ≠ 0 := by omega
  simp [F_l_mixed, b_l_mixed, cell_sp ns hl k, e2, e3, hd, d2, d3, fmod_pos, h1', hr]
theorem next_sp (ns : List Int) (hl : ns.length ≤ 63) (m many : Nat) (hm : 0 < many) : F_l_next [(false, .scr ns), (true, .lst [.int m]), (false, .int many)] = .ok (false, .int (mixed ns (m + 1) many)) [some (false, .scr ns), some (true, .lst [.int (m + 1 : Nat)]), some (false, .int many)] := by
  have a0 : ∀ d : D, atI [d] 0 = some d := fun _ => rfl
  have i0 : ixN 1 0 = some 0 := rfl
  have h := mixed_sp ns hl (m + 1) many hm
  rw [Int.natCast_add] at h
  simp at h
  simp [F_l_next, b_l_next, a0, i0, h]
end Lz
/-! sayings, names -/
namespace Lz
open PySem PySem.Spec PyProof.Rows L2
/-! ### slices -/
section
variable {α : Type} {xs : List α} {i j : Nat}
theorem cut_nn : cut xs none none = xs := by
  unfold cut
  simp [HT.sIx]
theorem cut_to : cut xs none (some (j : Int)) = xs.take j := by
  unfold cut
  rw [HT.sIx_nat]
  show (xs.drop 0).take (min j xs.length - 0) = _
  rw [List.drop_zero, Nat.sub_zero]
  by_cases h : j ≤ xs.length
  · rw [Nat.min_eq_left h]
  · have e : min j xs.length = xs.length := Nat.min_eq_right (by omega)
    rw [e, List.take_of_length_le (Nat.le_refl _), List.take_of_length_le (by omega)]
theorem cut_from : cut xs (some (i : Int)) none = xs.drop i := by
  unfold cut
  rw [HT.sIx_nat]
  show (xs.drop (min i xs.length)).take (xs.length - min i xs.length) = _
  by_cases h : i ≤ xs.length
  · rw [Nat.min_eq_left h]
    exact List.take_of_length_le (by rw [List.length_drop]; exact Nat.le_refl _)
  · have e : min i xs.length = xs.length := Nat.min_eq_right (by omega)
    rw [e, List.drop_of_length_le (Nat.le_refl _), List.drop_of_length_le (by omega), List.take_nil]
theorem cut_mid : cut xs (some (i : Int)) (some (j : Int)) = (xs.drop i).take (j - i) := by
  unfold cut
  rw [HT.sIx_nat, HT.sIx_nat]
  by_cases h : i ≤ xs.length
  · have e : min i xs.length = i := Nat.min_eq_left h
    rw [e]
    by_cases h2 : j ≤ xs.length
    · rw [Nat.min_eq_left h2]
    · have e : min j xs.length = xs.length := Nat.min_eq_right (by omega)
      rw [e, List.take_of_length_le (by rw [List.length_drop]; exact Nat.le_refl _), List.take_of_length_le (by rw [List.length_drop]; omega)]
  · have e : min i xs.length = xs.length := Nat.min_eq_right (by omega)
    rw [e, List.drop_of_length_le (Nat.le_refl _), List.drop_of_length_le (by omega : xs.length ≤ i), List.take_nil, List.take_nil]
theorem cut_back : cut xs none (some (-1)) = xs.dropLast := by
  unfold cut
  have e : HT.sIx xs.length xs.length (some (-1)) = xs.length - 1 := by
    show (if (-1 : Int) < 0 then ((-1 : Int) + (xs.length : Int)).toNat else min (-1 : Int).toNat xs.length) = _
    rw [if_pos (by decide)]
    omega
  rw [e]
  show (xs.drop 0).take (xs.length - 1 - 0) = _
  rw [List.drop_zero, Nat.sub_zero, List.dropLast_eq_take]
end
@[simp] theorem cut_from1 {α : Type} {xs : List α} : cut xs (some 1) none = xs.drop 1 := cut_from (i := 1)

/-! ### sayings -/
inductive U1 where
  | nt | bf | on | sf
  deriving DecidableEq
inductive U2 where
  | an | or | th | sm | sn
  deriving DecidableEq
def U1.str : U1 → Str
  | .nt => "not"
  | .bf => "before"
  | .on => "once"
  | .sf => "sofar"
def U2.str : U2 → Str
  | .an => "and"
  | .or => "or"
  | .th => "then"
  | .sm => "same"
  | .sn => "since"
inductive Say where
  | lamp (n : Str)
  | cst (b : Bool)
  | un (o : U1) (s : Say)
  | bin (o : U2) (s t : Say)
  deriving DecidableEq
def Say.toD : Say → D
  | .lamp n => .tup [.str "lamp", .str n]
  | .cst b => .tup [.str (if b then "yes" else "no")]
  | .un o s => .tup [.str o.str, s.toD]
  | .bin o s t => .tup [.str o.str, s.toD, t.toD]
def Say.dep : Say → Nat
  | .lamp _ => 1
  | .cst _ => 1
  | .un _ s => s.dep + 1
  | .bin _ s t => max s.dep t.dep + 1
/-- the lamps are among these -/
def Say.Over (ns : List Str) : Say → Prop
  | .lamp n => n ∈ ns
  | .cst _ => True
  | .un _ s => s.Over ns
  | .bin _ s t => s.Over ns ∧ t.Over ns
theorem Say.dep_pos (s : Say) : 1 ≤ s.dep := by cases s <;> simp [Say.dep]
theorem nrm_str {z : Str} : nrm (.str z) = .str z := by simp [nrm]
theorem Say.nrm_toD : ∀ s : Say, nrm s.toD = s.toD
  | .lamp n => by simp [Say.toD, nrm, nrms]
  | .cst b => by simp [Say.toD, nrm, nrms]
  | .un o s => by simp [Say.toD, nrm, nrms, Say.nrm_toD s]
  | .bin o s t => by simp [Say.toD, nrm, nrms, Say.nrm_toD s, Say.nrm_toD t]
theorem U1.str_inj {o p : U1} (h : o.str = p.str) : o = p := by cases o <;> cases p <;> first | rfl | exact absurd h (by decide)
theorem U2.str_inj {o p : U2} (h : o.str = p.str) : o = p := by cases o <;> cases p <;> first | rfl | exact absurd h (by decide)
theorem U1.ne_lamp (o : U1) : o.str ≠ "lamp" := by cases o <;> decide
theorem U2.ne_lamp (o : U2) : o.str ≠ "lamp" := by cases o <;> decide
theorem U1.ne_yes (o : U1) : o.str ≠ "yes" := by cases o <;> decide
theorem U2.ne_yes (o : U2) : o.str ≠ "yes" := by cases o <;> decide
theorem U1.ne_no (o : U1) : o.str ≠ "no" := by cases o <;> decide
theorem U2.ne_no (o : U2) : o.str ≠ "no" := by cases o <;> decide
theorem Say.toD_inj : ∀ {s t : Say}, s.toD = t.toD → s = t
  | .lamp n, .lamp m, h => by simp [Say.toD] at h; rw [h]
  | .lamp n, .cst b, h => by simp [Say.toD] at h
  | .lamp n, .un o s, h => by simp [Say.toD] at h; exact absurd h.1.symm o.ne_lamp
  | .lamp n, .bin o s t, h => by simp [Say.toD] at h
  | .cst b, .lamp m, h => by simp [Say.toD] at h
  | .cst b, .cst c, h => by simp [Say.toD] at h; cases b <;> cases c <;> first | rfl | exact absurd h (by decide)
  | .cst b, .un o s, h => by simp [Say.toD] at h
  | .cst b, .bin o s t, h => by simp [Say.toD] at h
  | .un o s, .lamp m, h => by simp [Say.toD] at h; exact absurd h.1 o.ne_lamp
  | .un o s, .cst c, h => by simp [Say.toD] at h
  | .un o s, .un p t, h => by
    simp [Say.toD] at h
    rw [U1.str_inj h.1, Say.toD_inj h.2]
  | .un o s, .bin p t u, h => by simp [Say.toD] at h
  | .bin o s u, .lamp m, h => by simp [Say.toD] at h
  | .bin o s u, .cst c, h => by simp [Say.toD] at h
  | .bin o s u, .un p t, h => by simp [Say.toD] at h
  | .bin o s u, .bin p t w, h => by
    simp [Say.toD] at h
    rw [U2.str_inj h.1, Say.toD_inj h.2.1, Say.toD_inj h.2.2]
abbrev okStr (n : Str) : Prop := PyData.strOk n = true
theorem U1.ok (o : U1) : okStr o.str := by cases o <;> exact (by decide +kernel)
theorem U2.ok (o : U2) : okStr o.str := by cases o <;> exact (by decide +kernel)
theorem Say.okN {ns : List Str} (hn : ∀ n ∈ ns, okStr n) : ∀ s : Say, s.Over ns → Lz.okN s.dep s.toD
  | .lamp n, h => okN_tup (n := 0) fun x hx => by
    rcases List.mem_cons.mp hx with rfl | hx
    · exact okN_str (by decide +kernel)
    · rcases List.mem_cons.mp hx with rfl | hx
      · exact okN_str (hn n h)
      · cases hx
  | .cst b, h => okN_tup (n := 0) fun x hx => by
    rcases List.mem_cons.mp hx with rfl | hx
    · cases b <;> exact okN_str (by decide +kernel)
    · cases hx
  | .un o s, h => okN_tup fun x hx => by
    rcases List.mem_cons.mp hx with rfl | hx
    · exact okN_str o.ok
    · rcases List.mem_cons.mp hx with rfl | hx
      · exact Say.okN hn s h
      · cases hx
  | .bin o s t, h => okN_tup fun x hx => by
    rcases List.mem_cons.mp hx with rfl | hx
    · exact okN_str o.ok
    · rcases List.mem_cons.mp hx with rfl | hx
      · exact okN_mono (Say.okN hn s h.1) (Nat.le_max_left _ _)
      · rcases List.mem_cons.mp hx with rfl | hx
        · exact okN_mono (Say.okN hn t h.2) (Nat.le_max_right _ _)
        · cases hx
theorem Say.eqD {ns ms : List Str} (hn : ∀ n ∈ ns, okStr n) (hm : ∀ n ∈ ms, okStr n) {s t : Say} (hs : s.Over ns) (ht : t.Over ms) (ds : s.dep ≤ 64) (dt : t.dep ≤ 64) : Lz.eqD s.toD t.toD = some (decide (s = t)) := by
  obtain ⟨b, h1, h2⟩ := eqD_ok (Say.okN hn s hs) (Say.okN hm t ht) ds dt
  rw [h1, Say.nrm_toD, Say.nrm_toD] at *
  congr 1
  cases b with
  | true => exact (decide_eq_true (Say.toD_inj (h2.mp rfl))).symm
  | false => exact (decide_eq_false fun e => by rw [e] at h2; exact absurd (h2.mpr rfl) (by decide)).symm

/-! ### names -/
def allN : List Str := ["a", "b", "x", "y", "lamp", "far", "yesno", "abcdefgh"]
def rowN (t : Nat) : List Str := allN.drop t ++ allN.take t
def foeN (t f : Nat) : List Str := (rowN t).take (f + 1)
def friN (t f r : Nat) : List Str := ((rowN t).drop (f + 1)).take (r + 1)
/-- names as a law draws them -/
def GNm (foe fri : List Str) : Prop := ∃ t f r, t < 8 ∧ f < 2 ∧ r < 2 ∧ foe = foeN t f ∧ fri = friN t f r
theorem GNm.all {P : List Str → List Str → Prop} (h : ∀ t, t < 8 → ∀ f, f < 2 → ∀ r, r < 2 → P (foeN t f) (friN t f r)) {foe fri : List Str} (g : GNm foe fri) : P foe fri := by
  obtain ⟨t, f, r, ht, hf, hr, rfl, rfl⟩ := g
  exact h t ht f hf r hr
def nmD (l : List Str) : D := .tup (l.map .str)
theorem GNm.ok {foe fri : List Str} (g : GNm foe fri) : ∀ n ∈ foe ++ fri, okStr n := GNm.all (P := fun foe fri => ∀ n ∈ foe ++ fri, okStr n) (by unfold okStr; decide +kernel) g
theorem GNm.len {foe fri : List Str} (g : GNm foe fri) : 1 ≤ foe.length ∧ foe.length ≤ 2 ∧ 1 ≤ fri.length ∧ fri.length ≤ 2 := GNm.all (P := fun foe fri => 1 ≤ foe.length ∧ foe.length ≤ 2 ∧ 1 ≤ fri.length ∧ fri.length ≤ 2) (by decide +kernel) g
theorem GNm.nodup {foe fri : List Str} (g : GNm foe fri) : (foe ++ fri).Nodup := GNm.all (P := fun foe fri => (foe ++ fri).Nodup) (by decide +kernel) g
theorem map_str_drop (l : List Str) (n : Nat) : (l.map D.str).drop n = (l.drop n).map D.str := by rw [List.map_drop]
theorem names_sp (ns : List Int) (hl : ns.length ≤ 63) (m : Nat) : ∃ foe fri, GNm foe fri ∧ F_l_names [(false, .scr ns), (true, .lst [.int m])] = .ok (false, .tup [nmD foe, nmD fri]) [some (false, .scr ns), some (true, .lst [.int (m + 3 : Nat)])] := by
  have h1 := next_sp ns hl m 8 (by decide)
  have h2 := next_sp ns hl (m + 1) 2 (by decide)
  have h3 := next_sp ns hl (m + 1 + 1) 2 (by decide)
  have l1 := mixed_lt ns (m + 1) 8 (by decide)
  have l2 := mixed_lt ns (m + 1 + 1) 2 (by decide)
  have l3 := mixed_lt ns (m + 1 + 1 + 1) 2 (by decide)
  generalize mixed ns (m + 1) 8 = t at *
  generalize mixed ns (m + 1 + 1) 2 = f at *
  generalize mixed ns (m + 1 + 1 + 1) 2 = r at *
  refine ⟨foeN t f, friN t f r, ⟨t, f, r, l1, l2, l3, rfl, rfl⟩, ?_⟩
  have e1 : (1 : Int) + (f : Int) = ((f + 1 : Nat) : Int) := by omega
  have e2 : ((f + 1 : Nat) : Int) + (1 + (r : Int)) = ((f + 1 + (r + 1) : Nat) : Int) := by omega
  have e3 : (f : Int) + 1 + ((r : Int) + 1) = ((f + 1 + (r + 1) : Nat) : Int) := by omega
  have e4 : (1 : Int) + (f : Int) + (1 + (r : Int)) = ((f + 1 + (r + 1) : Nat) : Int) := by omega
  simp at h1 h2 h3
  have row : (List.map D.str allN).drop t ++ (List.map D.str allN).take t = (rowN t).map D.str := by
    unfold rowN
    rw [List.map_append, List.map_drop, List.map_take]
  have eAll : [D.str "a", D.str "b", D.str "x", D.str "y", D.str "lamp", D.str "far", D.str "yesno", D.str "abcdefgh"] = allN.map D.str := rfl
  have al : allN.length = 8 := rfl
  have q1 : 8 - t + min t 8 ≤ 16777216 := by omega
  have e5 : ((f + 1 : Nat) : Int) = 1 + (f : Int) := by omega
  have cf : ∀ xs : List D, cut xs none (some (1 + (f : Int))) = xs.take (f + 1) := fun xs => by rw [← e5]; exact cut_to
  have cr : ∀ xs : List D, cut xs (some (1 + (f : Int))) (some (1 + (f : Int) + (1 + (r : Int)))) = (xs.drop (f + 1)).take (r + 1) := fun xs => by
    rw [e4, ← e5, cut_mid, Nat.add_sub_cancel_left]
  have row2 : (allN.drop t).map D.str ++ (allN.take t).map D.str = (rowN t).map D.str := by rw [← row, List.map_drop, List.map_take]
  simp [F_l_names, b_l_names, h1, h2, h3, cut_from, cut_to, eAll, al, q1, row, row2, cf, cr, nmD, foeN, friN]
  omega
end Lz
/-! sayings as a law draws them -/
namespace Lz
open PySem PySem.Spec PyProof.Rows L2
def U1.past : U1 → Nat
  | .nt => 0
  | _ => 1
def U2.past : U2 → Nat
  | .sn => 1
  | _ => 0
def Say.npast : Say → Nat
  | .lamp _ => 0
  | .cst _ => 0
  | .un o s => o.past + s.npast
  | .bin o s t => o.past + s.npast + t.npast
@[simp] theorem atI_0 {α : Type} {x : α} {l : List α} : atI (x :: l) 0 = some x := atI_lt (k := 0) (by simp)
@[simp] theorem atI_1 {α : Type} {x y : α} {l : List α} : atI (x :: y :: l) 1 = some y := atI_lt (k := 1) (by simp)
@[simp] theorem atI_2 {α : Type} {x y z : α} {l : List α} : atI (x :: y :: z :: l) 2 = some z := atI_lt (k := 2) (by simp)
@[simp] theorem atI_3 {α : Type} {x y z u : α} {l : List α} : atI (x :: y :: z :: u :: l) 3 = some u := atI_lt (k := 3) (by simp)
@[simp] theorem atI_4 {α : Type} {x y z u v : α} {l : List α} : atI (x :: y :: z :: u :: v :: l) 4 = some v := atI_lt (k := 4) (by simp)
@[simp] theorem ixN_10 : ixN 1 0 = some 0 := rfl
theorem saying_sp (ns : List Int) (hl : ns.length ≤ 63) (nm : List Str) (hn : nm ≠ []) (hn4 : nm.length ≤ 4) : ∀ (deep m left fuel : Nat), deep < fuel → ∃ (s : Say) (m' l' : Nat), s.Over nm ∧ s.dep ≤ deep + 1 ∧ s.npast + l' ≤ left ∧
    R_l_saying fuel [(false, .scr ns), (true, .lst [.int m]), (false, nmD nm), (false, .int deep), (true, .lst [.int left])] =
      .ok (false, s.toD) [some (false, .scr ns), some (true, .lst [.int m']), some (false, nmD nm), some (false, .int deep), some (true, .lst [.int l'])] := by
  intro deep
  induction deep with
  | zero =>
    intro m left fuel hf
    obtain ⟨fuel, rfl⟩ : ∃ f, fuel = f + 1 := ⟨fuel - 1, by omega⟩
    have hp : 0 < nm.length := List.length_pos_iff.mpr hn
    have h1 := next_sp ns hl m 13 (by decide)
    have h2 := next_sp ns hl (m + 1) nm.length hp
    have l2 := mixed_lt ns (m + 1 + 1) nm.length hp
    generalize mixed ns (m + 1 + 1) nm.length = k at *
    refine ⟨.lamp nm[k], m + 1 + 1, left, List.getElem_mem _, by simp [Say.dep], by simp [Say.npast], ?_⟩
    have e : atI (nm.map D.str) (k : Int) = some (.str nm[k]) := by rw [atI_lt (by simpa using l2)]; simp
    simp at h1 h2
    simp [R_l_saying, b_l_saying, h1, h2, nmD, e, Say.toD]
  | succ deep ih =>
    intro m left fuel hf
    obtain ⟨fuel, rfl⟩ : ∃ f, fuel = f + 1 := ⟨fuel - 1, by omega⟩
    have h1 := next_sp ns hl m 13 (by decide)
    have l1 := mixed_lt ns (m + 1) 13 (by decide)
    generalize mixed ns (m + 1) 13 = way at *
    simp at h1
    by_cases w3 : way < 3
    · have hp : 0 < nm.length := List.length_pos_iff.mpr hn
      have h2 := next_sp ns hl (m + 1) nm.length hp
      have l2 := mixed_lt ns (m + 1 + 1) nm.length hp
      generalize mixed ns (m + 1 + 1) nm.length = k at *
      refine ⟨.lamp nm[k], m + 1 + 1, left, List.getElem_mem _, by simp [Say.dep], by simp [Say.npast], ?_⟩
      have e : atI (nm.map D.str) (k : Int) = some (.str nm[k]) := by rw [atI_lt (by simpa using l2)]; simp
      simp at h2
      have d1 : ¬ ((deep : Int) + 1 = 0) := by omega
      have w3' : (way : Int) < 3 := by omega
      simp [R_l_saying, b_l_saying, h1, h2, nmD, e, Say.toD, d1, w3']
    have d1 : ¬ ((deep : Int) + 1 = 0) := by omega
    have d2 : (deep : Int) + 1 - 1 = deep := by omega
    have w3' : ¬ (way : Int) < 3 := by omega
    by_cases w4 : way = 3
    · subst w4
      have h2 := next_sp ns hl (m + 1) 2 (by decide)
      have l2 := mixed_lt ns (m + 1 + 1) 2 (by decide)
      generalize mixed ns (m + 1 + 1) 2 = k at *
      simp at h2
      refine ⟨.cst (decide (k = 0)), m + 1 + 1, left, trivial, by simp [Say.dep], by simp [Say.npast], ?_⟩
      have hk : k = 0 ∨ k = 1 := by omega
      rcases hk with rfl | rfl
      · simp at h2
        simp [R_l_saying, b_l_saying, h1, h2, nmD, Say.toD, d1]
      · simp at h2
        simp [R_l_saying, b_l_saying, h1, h2, nmD, Say.toD, d1]
    have w4' : ¬ (way : Int) = 3 := by omega
    by_cases w8 : 8 < way
    · have w8' : (8 : Int) < way := by omega
      by_cases hL : 0 < left
      · have hL' : (0 : Int) < left := by omega
        obtain ⟨s1, m1, k1, o1, e1, p1, r1⟩ := ih (m + 1) (left - 1) fuel (by omega)
        have c1 : ((left - 1 : Nat) : Int) = (left : Int) - 1 := by omega
        rw [c1] at r1
        simp only [nmD] at r1
        simp at r1
        by_cases w12 : way = 12
        · subst w12
          obtain ⟨s2, m2, k2, o2, e2, p2, r2⟩ := ih m1 k1 fuel (by omega)
          simp only [nmD] at r2
          refine ⟨.bin .sn s1 s2, m2, k2, ⟨o1, o2⟩, by simp only [Say.dep]; omega, by simp only [Say.npast, U2.past]; omega, ?_⟩
          simp [R_l_saying, b_l_saying, h1, nmD, Say.toD, d1, d2, hL', hL, r1, r2, U2.str]
        · have w12' : ¬ (way : Int) = 12 := by omega
          have hw : way = 9 ∨ way = 10 ∨ way = 11 := by omega
          rcases hw with rfl | rfl | rfl
          · refine ⟨.un .bf s1, m1, k1, o1, by simp only [Say.dep]; omega, by simp only [Say.npast, U1.past]; omega, ?_⟩
            simp [R_l_saying, b_l_saying, h1, nmD, Say.toD, d1, d2, hL', hL, r1, U1.str]
          · refine ⟨.un .on s1, m1, k1, o1, by simp only [Say.dep]; omega, by simp only [Say.npast, U1.past]; omega, ?_⟩
            simp [R_l_saying, b_l_saying, h1, nmD, Say.toD, d1, d2, hL', hL, r1, U1.str]
          · refine ⟨.un .sf s1, m1, k1, o1, by simp only [Say.dep]; omega, by simp only [Say.npast, U1.past]; omega, ?_⟩
            simp [R_l_saying, b_l_saying, h1, nmD, Say.toD, d1, d2, hL', hL, r1, U1.str]
      · have hL' : ¬ (0 : Int) < left := by omega
        obtain ⟨s1, m1, k1, o1, e1, p1, r1⟩ := ih (m + 1) left fuel (by omega)
        simp only [nmD] at r1
        simp at r1
        refine ⟨.un .nt s1, m1, k1, o1, by simp only [Say.dep]; omega, by simp only [Say.npast, U1.past]; omega, ?_⟩
        have w44 : ¬ (way : Int) = 4 := by omega
        have hL2 : ¬ 0 < left := by omega
        simp [R_l_saying, b_l_saying, h1, nmD, Say.toD, d1, d2, w3', w4', w8', hL2, w3, w4, w8, r1, w44, U1.str]
    · have w8' : ¬ (8 : Int) < way := by omega
      obtain ⟨s1, m1, k1, o1, e1, p1, r1⟩ := ih (m + 1) left fuel (by omega)
      simp only [nmD] at r1
      simp at r1
      by_cases w44 : way = 4
      · subst w44
        refine ⟨.un .nt s1, m1, k1, o1, by simp only [Say.dep]; omega, by simp only [Say.npast, U1.past]; omega, ?_⟩
        simp [R_l_saying, b_l_saying, h1, nmD, Say.toD, d1, d2, r1, U1.str]
      · obtain ⟨s2, m2, k2, o2, e2, p2, r2⟩ := ih m1 k1 fuel (by omega)
        simp only [nmD] at r2
        have hw : way = 5 ∨ way = 6 ∨ way = 7 ∨ way = 8 := by omega
        rcases hw with rfl | rfl | rfl | rfl
        · refine ⟨.bin .an s1 s2, m2, k2, ⟨o1, o2⟩, by simp only [Say.dep]; omega, by simp only [Say.npast, U2.past]; omega, ?_⟩
          simp [R_l_saying, b_l_saying, h1, nmD, Say.toD, d1, d2, r1, r2, U2.str]
        · refine ⟨.bin .or s1 s2, m2, k2, ⟨o1, o2⟩, by simp only [Say.dep]; omega, by simp only [Say.npast, U2.past]; omega, ?_⟩
          simp [R_l_saying, b_l_saying, h1, nmD, Say.toD, d1, d2, r1, r2, U2.str]
        · refine ⟨.bin .th s1 s2, m2, k2, ⟨o1, o2⟩, by simp only [Say.dep]; omega, by simp only [Say.npast, U2.past]; omega, ?_⟩
          simp [R_l_saying, b_l_saying, h1, nmD, Say.toD, d1, d2, r1, r2, U2.str]
        · refine ⟨.bin .sm s1 s2, m2, k2, ⟨o1, o2⟩, by simp only [Say.dep]; omega, by simp only [Say.npast, U2.past]; omega, ?_⟩
          simp [R_l_saying, b_l_saying, h1, nmD, Say.toD, d1, d2, r1, r2, U2.str]
end Lz
/-! past pieces -/
namespace Lz
open PySem PySem.Spec PyProof.Rows L2
def Say.cnt : Say → Nat
  | .lamp _ => 1
  | .cst _ => 1
  | .un _ s => s.cnt + 1
  | .bin _ s t => s.cnt + t.cnt + 1
theorem Say.cnt_le : ∀ s : Say, s.cnt < 2 ^ s.dep
  | .lamp _ => by simp [Say.cnt, Say.dep]
  | .cst _ => by simp [Say.cnt, Say.dep]
  | .un _ s => by
    have := Say.cnt_le s
    have h2 := s.dep_pos
    simp only [Say.cnt, Say.dep, Nat.pow_succ]
    have : 1 < 2 ^ s.dep := Nat.one_lt_two_pow (by omega)
    omega
  | .bin _ s t => by
    have h1 := Say.cnt_le s
    have h2 := Say.cnt_le t
    have p := s.dep_pos
    have a1 : 2 ^ s.dep ≤ 2 ^ max s.dep t.dep := Nat.pow_le_pow_right (by decide) (Nat.le_max_left _ _)
    have a2 : 2 ^ t.dep ≤ 2 ^ max s.dep t.dep := Nat.pow_le_pow_right (by decide) (Nat.le_max_right _ _)
    simp only [Say.cnt, Say.dep, Nat.pow_succ]
    omega
def Say.isP : Say → Bool
  | .un .bf _ => true
  | .un .on _ => true
  | .un .sf _ => true
  | .bin .sn _ _ => true
  | _ => false
def addP (s : Say) (m : List Say) : List Say := if s.isP = true ∧ s ∉ m then m ++ [s] else m
def gath : Say → List Say → List Say
  | .lamp n, m => addP (.lamp n) m
  | .cst b, m => addP (.cst b) m
  | .un o s, m => gath s (addP (.un o s) m)
  | .bin o s t, m => gath t (gath s (addP (.bin o s t) m))
def says (l : List Say) : D := .lst (l.map Say.toD)
theorem Say.inD {ns : List Str} (hn : ∀ n ∈ ns, okStr n) {s : Say} {l : List Say} (hs : s.Over ns) (hl : ∀ t ∈ l, t.Over ns) (ds : s.dep ≤ 60) (dl : ∀ t ∈ l, t.dep ≤ 60) : Lz.inD s.toD (.lst (l.map Say.toD)) = some (decide (s ∈ l)) := by
  obtain ⟨b, h1, h2⟩ := inL_ok (n := 60) (m := 60) (d := s.toD) (ys := l.map Say.toD) (okN_mono (Say.okN hn s hs) ds) (fun y hy => by
    obtain ⟨t, ht, rfl⟩ := List.mem_map.mp hy
    exact okN_mono (Say.okN hn t (hl t ht)) (dl t ht)) (by decide) (by decide)
  rw [h1]
  congr 1
  have h3 : b = true ↔ s ∈ l := by
    rw [h2]
    constructor
    · rintro ⟨y, hy, e⟩
      obtain ⟨t, ht, rfl⟩ := List.mem_map.mp hy
      rw [Say.nrm_toD, Say.nrm_toD] at e
      rw [← Say.toD_inj e]
      exact ht
    · intro hs
      exact ⟨s.toD, List.mem_map_of_mem hs, rfl⟩
  cases b with
  | true => exact (decide_eq_true (h3.mp rfl)).symm
  | false => exact (decide_eq_false fun e => by have := h3.mpr e; cases this).symm
theorem addP_mem {s : Say} {m : List Say} {t : Say} (h : t ∈ addP s m) : t ∈ m ∨ t = s := by
  unfold addP at h
  split at h
  · rcases List.mem_append.mp h with h | h
    · exact .inl h
    · exact .inr (List.mem_singleton.mp h)
  · exact .inl h
theorem addP_len (s : Say) (m : List Say) : (addP s m).length ≤ m.length + 1 := by
  unfold addP
  split
  · simp
  · omega
theorem gath_len : ∀ (s : Say) (m : List Say), (gath s m).length ≤ m.length + s.cnt
  | .lamp n, m => by unfold gath Say.cnt; exact addP_len _ _
  | .cst n, m => by unfold gath Say.cnt; exact addP_len _ _
  | .un o s, m => by
    unfold gath Say.cnt
    have h1 := gath_len s (addP (.un o s) m)
    have h2 := addP_len (.un o s) m
    omega
  | .bin o s t, m => by
    unfold gath Say.cnt
    have h1 := gath_len s (addP (.bin o s t) m)
    have h2 := addP_len (.bin o s t) m
    have h3 := gath_len t (gath s (addP (.bin o s t) m))
    omega
/-- all of these are over the names and not too deep -/
def SaysOk (ns : List Str) (k : Nat) (l : List Say) : Prop := ∀ t ∈ l, t.Over ns ∧ t.dep ≤ k
theorem SaysOk.addP {ns : List Str} {k : Nat} {l : List Say} {s : Say} (h : SaysOk ns k l) (hs : s.Over ns) (hd : s.dep ≤ k) : SaysOk ns k (addP s l) := fun t ht => by
  rcases addP_mem ht with ht | rfl
  · exact h t ht
  · exact ⟨hs, hd⟩
theorem SaysOk.gath {ns : List Str} {k : Nat} : ∀ {s : Say} {l : List Say}, SaysOk ns k l → s.Over ns → s.dep ≤ k → SaysOk ns k (gath s l)
  | .lamp n, l, h, hs, hd => h.addP hs hd
  | .cst n, l, h, hs, hd => h.addP hs hd
  | .un o s, l, h, hs, hd => SaysOk.gath (s := s) (h.addP hs hd) hs (by simp only [Say.dep] at hd; omega)
  | .bin o s t, l, h, hs, hd => SaysOk.gath (s := t) (SaysOk.gath (s := s) (h.addP hs hd) hs.1 (by simp only [Say.dep] at hd; omega)) hs.2 (by simp only [Say.dep] at hd; omega)
def Say.head : Say → Str
  | .lamp _ => "lamp"
  | .cst b => if b then "yes" else "no"
  | .un o _ => o.str
  | .bin o _ _ => o.str
def Say.parts : Say → List Say
  | .lamp _ => []
  | .cst _ => []
  | .un _ s => [s]
  | .bin _ s t => [s, t]
def Say.tail : Say → List D
  | .lamp n => [.str n]
  | s => s.parts.map Say.toD
theorem Say.toD_eq (s : Say) : s.toD = .tup (.str s.head :: s.tail) := by cases s <;> rfl
theorem Say.head_lamp (s : Say) : decide (s.head = "lamp") = (match s with | .lamp _ => true | _ => false) := by
  cases s with
  | lamp n => rfl
  | cst b => cases b <;> rfl
  | un o s => exact decide_eq_false o.ne_lamp
  | bin o s t => exact decide_eq_false o.ne_lamp
theorem Say.head_past (s : Say) : Lz.inD (.str s.head) (.tup [.str "before", .str "once", .str "sofar", .str "since"]) = some s.isP := by
  cases s with
  | lamp n => rfl
  | cst b => cases b <;> rfl
  | un o s => cases o <;> rfl
  | bin o s t => cases o <;> rfl
theorem parts_sp (s : Say) : F_parts_of [(false, s.toD)] = .ok (false, .tup (s.parts.map Say.toD)) [some (false, s.toD)] := by
  rw [Say.toD_eq]
  have h := s.head_lamp
  cases s with
  | lamp n => simp [F_parts_of, b_parts_of, Say.head, Say.parts]
  | cst b =>
    have e : ¬ (Say.cst b).head = "lamp" := by simpa using h
    simp [F_parts_of, b_parts_of, e, Say.parts, Say.tail]
  | un o s =>
    have e : ¬ (Say.un o s).head = "lamp" := by simpa using h
    simp [F_parts_of, b_parts_of, e, Say.parts, Say.tail]
  | bin o s t =>
    have e : ¬ (Say.bin o s t).head = "lamp" := by simpa using h
    simp [F_parts_of, b_parts_of, e, Say.parts, Say.tail]
theorem gathered_sp {ns : List Str} (hn : ∀ n ∈ ns, okStr n) : ∀ (s : Say) (fuel : Nat) (m : List Say), s.dep ≤ fuel → s.Over ns → s.dep ≤ 60 → SaysOk ns 60 m → m.length + s.cnt < 16777216 →
    R_gathered fuel [(false, s.toD), (true, says m)] = .ok (false, .non) [some (false, s.toD), some (true, says (gath s m))] := by
  -- the first half, and the walk over the parts
  have key : ∀ (s : Say) (fuel : Nat) (m m2 : List Say) (x : Option T), s.Over ns → s.dep ≤ 60 → SaysOk ns 60 m → m.length + s.cnt < 16777216 →
      forL (gN 2) (xSeq (xExpr (sCallF (R_gathered fuel) (sCons (sVar 2) (sCons (sVar 1) sNil)))) xNx) (s.parts.map Say.toD) [some (false, s.toD), some (true, says (addP s m)), none] = .ok .nx [some (false, s.toD), some (true, says m2), x] →
      R_gathered (fuel + 1) [(false, s.toD), (true, says m)] = .ok (false, .non) [some (false, s.toD), some (true, says m2)] := by
    intro s fuel m m2 x ho hd hm hl hloop
    have hp := parts_sp s
    have hh := Say.head_past s
    have hi := Say.inD hn (s := s) (l := m) ho (fun t ht => (hm t ht).1) hd (fun t ht => (hm t ht).2)
    have e0 : atI (Say.toD s |> fun _ => D.str s.head :: s.tail) 0 = some (.str s.head) := by simp
    have hc : 1 ≤ s.cnt := by cases s <;> simp [Say.cnt]
    have hix : opIx s.toD (.int 0) = some (false, .str s.head) := by rw [Say.toD_eq]; simp
    have hlen : m.length < 16777216 := by omega
    simp only [says] at hloop ⊢
    by_cases c1 : s.isP = true
    · by_cases c2 : s ∈ m
      · have ea : addP s m = m := by unfold addP; rw [if_neg (by simp [c2])]
        rw [ea] at hloop
        simp [R_gathered, b_gathered, hix, hh, c1, hi, c2, hp, hloop]
      · have ea : addP s m = m ++ [s] := by unfold addP; rw [if_pos ⟨c1, c2⟩]
        rw [ea] at hloop
        simp at hloop
        simp [R_gathered, b_gathered, hix, hh, c1, hi, c2, hp, hloop, hlen]
    · have ea : addP s m = m := by unfold addP; rw [if_neg (by simp [c1])]
      have c1' : s.isP = false := by simpa using c1
      rw [ea] at hloop
      simp [R_gathered, b_gathered, hix, hh, c1', hp, hloop]
  intro s
  induction s with
  | lamp n =>
    intro fuel m hf ho hd hm hl
    obtain ⟨fuel, rfl⟩ : ∃ f, fuel = f + 1 := ⟨fuel - 1, by simp only [Say.dep] at hf; omega⟩
    exact key _ fuel m _ none ho hd hm hl (by simp [Say.parts, gath])
  | cst n =>
    intro fuel m hf ho hd hm hl
    obtain ⟨fuel, rfl⟩ : ∃ f, fuel = f + 1 := ⟨fuel - 1, by simp only [Say.dep] at hf; omega⟩
    exact key _ fuel m _ none ho hd hm hl (by simp [Say.parts, gath])
  | un o s ih =>
    intro fuel m hf ho hd hm hl
    obtain ⟨fuel, rfl⟩ : ∃ f, fuel = f + 1 := ⟨fuel - 1, by simp only [Say.dep] at hf; omega⟩
    have hm1 := hm.addP (s := .un o s) ho hd
    have hl1 := addP_len (.un o s) m
    simp only [Say.dep] at hf hd
    simp only [Say.cnt] at hl
    have h1 := ih fuel (addP (.un o s) m) (by omega) ho (by omega) hm1 (by omega)
    refine key _ fuel m _ (some (false, s.toD)) ho (by simpa [Say.dep] using hd) hm (by simpa [Say.cnt] using hl) ?_
    simp [Say.parts, gath, h1]
  | bin o s t ih1 ih2 =>
    intro fuel m hf ho hd hm hl
    obtain ⟨fuel, rfl⟩ : ∃ f, fuel = f + 1 := ⟨fuel - 1, by simp only [Say.dep] at hf; omega⟩
    have hm1 := hm.addP (s := .bin o s t) ho hd
    have hl1 := addP_len (.bin o s t) m
    simp only [Say.dep] at hf hd
    simp only [Say.cnt] at hl
    have h1 := ih1 fuel (addP (.bin o s t) m) (by omega) ho.1 (by omega) hm1 (by omega)
    have hl2 := gath_len s (addP (.bin o s t) m)
    have h2 := ih2 fuel (gath s (addP (.bin o s t) m)) (by omega) ho.2 (by omega) (hm1.gath ho.1 (by omega)) (by omega)
    refine key _ fuel m _ (some (false, t.toD)) ho (by simpa [Say.dep] using hd) hm (by simpa [Say.cnt] using hl) ?_
    simp [Say.parts, gath, h1, h2]
theorem past_pieces_sp {ns : List Str} (hn : ∀ n ∈ ns, okStr n) (s : Say) (ho : s.Over ns) (hd : s.dep ≤ 23) : F_past_pieces [(false, s.toD)] = .ok (true, says (gath s [])) [some (false, s.toD)] := by
  have hc := s.cnt_le
  have h2 : 2 ^ s.dep ≤ 2 ^ 23 := Nat.pow_le_pow_right (by decide) hd
  have h := gathered_sp hn s 24 [] (by omega) ho (by omega) (fun t ht => by cases ht) (by simp; omega)
  have h' : F_gathered [(false, s.toD), (true, .lst [])] = .ok (false, .non) [some (false, s.toD), some (true, says (gath s []))] := h
  simp [F_past_pieces, b_past_pieces, h']
theorem l_pieces_sp {ns : List Str} (hn : ∀ n ∈ ns, okStr n) : ∀ (s : Say) (fuel : Nat) (m : List Say), s.dep ≤ fuel → s.Over ns → s.dep ≤ 60 → SaysOk ns 60 m → m.length + s.cnt < 16777216 →
    R_l_pieces fuel [(false, s.toD), (true, says m)] = .al 1 [some (false, s.toD), some (true, says (gath s m))] := by
  have key : ∀ (s : Say) (fuel : Nat) (m m2 : List Say) (x : Option T), s.Over ns → s.dep ≤ 60 → SaysOk ns 60 m → m.length + s.cnt < 16777216 →
      forL (gN 2) (xSeq (xExpr (sCallF (R_l_pieces fuel) (sCons (sVar 2) (sCons (sVar 1) sNil)))) xNx) (s.parts.map Say.toD) [some (false, s.toD), some (true, says (addP s m)), none] = .ok .nx [some (false, s.toD), some (true, says m2), x] →
      R_l_pieces (fuel + 1) [(false, s.toD), (true, says m)] = .al 1 [some (false, s.toD), some (true, says m2)] := by
    intro s fuel m m2 x ho hd hm hl hloop
    have hh := Say.head_past s
    have hi := Say.inD hn (s := s) (l := m) ho (fun t ht => (hm t ht).1) hd (fun t ht => (hm t ht).2)
    have hc : 1 ≤ s.cnt := by cases s <;> simp [Say.cnt]
    have hix : opIx s.toD (.int 0) = some (false, .str s.head) := by rw [Say.toD_eq]; simp
    have hsl : opSl s.toD (some 1) none = some (false, .tup s.tail) := by rw [Say.toD_eq]; simp
    have hlen : m.length < 16777216 := by omega
    have hla := s.head_lamp
    simp only [says] at hloop ⊢
    by_cases c0 : s.head = "lamp"
    · have e : ∃ n, s = .lamp n := by
        rw [decide_eq_true c0] at hla
        cases s with
        | lamp n => exact ⟨n, rfl⟩
        | _ => cases hla
      obtain ⟨n, rfl⟩ := e
      have ea : addP (.lamp n) m = m := by unfold addP; rw [if_neg (by simp [Say.isP])]
      rw [ea] at hloop
      simp [Say.parts] at hloop
      obtain ⟨e1, _⟩ := hloop
      rw [c0] at hh
      simp [R_l_pieces, b_l_pieces, hix, hh, c0, Say.isP, e1]
    · have et : s.tail = s.parts.map Say.toD := by
        cases s with
        | lamp n => exact absurd rfl c0
        | _ => rfl
      rw [← et] at hloop
      by_cases c1 : s.isP = true
      · by_cases c2 : s ∈ m
        · have ea : addP s m = m := by unfold addP; rw [if_neg (by simp [c2])]
          rw [ea] at hloop
          simp [R_l_pieces, b_l_pieces, hix, hsl, hh, c1, hi, c2, hloop, c0]
        · have ea : addP s m = m ++ [s] := by unfold addP; rw [if_pos ⟨c1, c2⟩]
          rw [ea] at hloop
          simp at hloop
          simp [R_l_pieces, b_l_pieces, hix, hsl, hh, c1, hi, c2, hloop, hlen, c0]
      · have ea : addP s m = m := by unfold addP; rw [if_neg (by simp [c1])]
        have c1' : s.isP = false := by simpa using c1
        rw [ea] at hloop
        simp [R_l_pieces, b_l_pieces, hix, hsl, hh, c1', hloop, c0]
  intro s
  induction s with
  | lamp n =>
    intro fuel m hf ho hd hm hl
    obtain ⟨fuel, rfl⟩ : ∃ f, fuel = f + 1 := ⟨fuel - 1, by simp only [Say.dep] at hf; omega⟩
    exact key _ fuel m _ none ho hd hm hl (by simp [Say.parts, gath])
  | cst n =>
    intro fuel m hf ho hd hm hl
    obtain ⟨fuel, rfl⟩ : ∃ f, fuel = f + 1 := ⟨fuel - 1, by simp only [Say.dep] at hf; omega⟩
    exact key _ fuel m _ none ho hd hm hl (by simp [Say.parts, gath])
  | un o s ih =>
    intro fuel m hf ho hd hm hl
    obtain ⟨fuel, rfl⟩ : ∃ f, fuel = f + 1 := ⟨fuel - 1, by simp only [Say.dep] at hf; omega⟩
    have hm1 := hm.addP (s := .un o s) ho hd
    have hl1 := addP_len (.un o s) m
    simp only [Say.dep] at hf hd
    simp only [Say.cnt] at hl
    have h1 := ih fuel (addP (.un o s) m) (by omega) ho (by omega) hm1 (by omega)
    refine key _ fuel m _ (some (false, s.toD)) ho (by simpa [Say.dep] using hd) hm (by simpa [Say.cnt] using hl) ?_
    simp [Say.parts, gath, h1]
  | bin o s t ih1 ih2 =>
    intro fuel m hf ho hd hm hl
    obtain ⟨fuel, rfl⟩ : ∃ f, fuel = f + 1 := ⟨fuel - 1, by simp only [Say.dep] at hf; omega⟩
    have hm1 := hm.addP (s := .bin o s t) ho hd
    have hl1 := addP_len (.bin o s t) m
    simp only [Say.dep] at hf hd
    simp only [Say.cnt] at hl
    have h1 := ih1 fuel (addP (.bin o s t) m) (by omega) ho.1 (by omega) hm1 (by omega)
    have hl2 := gath_len s (addP (.bin o s t) m)
    have h2 := ih2 fuel (gath s (addP (.bin o s t) m)) (by omega) ho.2 (by omega) (hm1.gath ho.1 (by omega)) (by omega)
    refine key _ fuel m _ (some (false, t.toD)) ho (by simpa [Say.dep] using hd) hm (by simpa [Say.cnt] using hl) ?_
    simp [Say.parts, gath, h1, h2]
theorem waiting_sp (r g : D) : F_waiting [(false, r), (false, g)] = .ok (false, .tup [.str "not", .tup [.str "since", .tup [.str "not", g], .tup [.str "and", r, .tup [.str "not", g]]]]) [some (false, r), some (false, g)] := by
  simp [F_waiting, b_waiting]
end Lz
/-! what is a saying -/
namespace Lz
open PySem PySem.Spec PyProof.Rows L2
theorem compL_map {i : Nat} {f : Env → R XV} {ρ : Env} {e : D → D} (h0 : gt ρ i = none) : ∀ {ds : List D}, (∀ d ∈ ds, ∃ o, f (pt ρ i (some (false, d))) = .ok (.v o (e d)) (pt ρ i (some (false, d)))) → compL [i] (gN i) cT f ds ρ = .ok (ds.map e) ρ
  | [], _ => rfl
  | d :: ds, h => by
    obtain ⟨o, h1⟩ := h d List.mem_cons_self
    have ih := compL_map (ds := ds) h0 fun x hx => h x (List.mem_cons_of_mem _ hx)
    have e2 : pt (pt ρ i (some (false, d))) i none = ρ := by rw [pt_pt, pt_none ρ i h0]
    simp [h1, e2, ih]
@[simp] theorem isi_tup_t {xs : List D} : isiD "tuple" (.tup xs) = some (false, .bl true) := rfl
@[simp] theorem isi_tup_l {xs : List D} : isiD "tuple" (.lst xs) = some (false, .bl false) := rfl
@[simp] theorem isi_tup_s {z : Str} : isiD "tuple" (.str z) = some (false, .bl false) := rfl
@[simp] theorem isi_tup_i {i : Int} : isiD "tuple" (.int i) = some (false, .bl false) := rfl
@[simp] theorem isi_tup_b {b : Bool} : isiD "tuple" (.bl b) = some (false, .bl false) := rfl
@[simp] theorem isi_tup_n : isiD "tuple" .non = some (false, .bl false) := rfl
@[simp] theorem isi_str_t {xs : List D} : isiD "str" (.tup xs) = some (false, .bl false) := rfl
@[simp] theorem isi_str_l {xs : List D} : isiD "str" (.lst xs) = some (false, .bl false) := rfl
@[simp] theorem isi_str_s {z : Str} : isiD "str" (.str z) = some (false, .bl true) := rfl
@[simp] theorem isi_str_i {i : Int} : isiD "str" (.int i) = some (false, .bl false) := rfl
@[simp] theorem isi_str_b {b : Bool} : isiD "str" (.bl b) = some (false, .bl false) := rfl
@[simp] theorem isi_str_n : isiD "str" .non = some (false, .bl false) := rfl
theorem inD_strs {z : Str} {zs : List Str} : inD (.str z) (.tup (zs.map .str)) = some (decide (z ∈ zs)) := by
  have h1 : (zs.map D.str).all flatD = true := by rw [List.all_map]; exact List.all_eq_true.mpr fun _ _ => rfl
  show (if flatD (.str z) = true ∧ (zs.map D.str).all flatD = true then some ((zs.map D.str).any fun y => eqF y (.str z)) else none) = _
  rw [if_pos ⟨rfl, h1⟩]
  congr 1
  rw [List.any_map]
  induction zs with
  | nil => rfl
  | cons a zs ih =>
    rw [List.any_cons, ih (by rw [List.all_map]; exact List.all_eq_true.mpr fun _ _ => rfl)]
    show ((a == z) || _) = _
    by_cases e : a = z
    · subst e; simp
    · have : (a == z) = false := beq_eq_false_iff_ne.mpr e
      rw [this, Bool.false_or]
      simp [Ne.symm e, show ¬ z = a from fun q => e q.symm]
def sgl : List Str := ["not", "before", "once", "sofar"]
def dbl : List Str := ["and", "or", "then", "same", "since"]
theorem inD_sgl {z : Str} : inD (.str z) (.tup [.str "not", .str "before", .str "once", .str "sofar"]) = some (decide (z ∈ sgl)) := inD_strs (zs := sgl)
theorem inD_dbl {z : Str} : inD (.str z) (.tup [.str "and", .str "or", .str "then", .str "same", .str "since"]) = some (decide (z ∈ dbl)) := inD_strs (zs := dbl)
-- data of which it may be asked whether they are a saying
mutual
def plD : D → Bool
  | .non => true
  | .bl _ => true
  | .int _ => true
  | .str _ => true
  | .tup xs => plDs xs
  | .lst xs => plDs xs
  | _ => false
def plDs : List D → Bool
  | [] => true
  | x :: xs => plD x && plDs xs
end
theorem plDs_all : ∀ {xs : List D}, plDs xs = true → ∀ x ∈ xs, plD x = true
  | [], _, x, h => by cases h
  | y :: ys, h, x, hx => by
    rw [plDs, Bool.and_eq_true] at h
    rcases List.mem_cons.mp hx with rfl | hx
    · exact h.1
    · exact plDs_all h.2 x hx
theorem plDs_of : ∀ {xs : List D}, (∀ x ∈ xs, plD x = true) → plDs xs = true
  | [], _ => by rw [plDs]
  | y :: ys, h => by rw [plDs, h y List.mem_cons_self, Bool.true_and]; exact plDs_of fun x hx => h x (List.mem_cons_of_mem _ hx)
def lampB (nm : List Str) : List D → Bool
  | [.str n] => decide (n ∈ nm)
  | _ => false
def isSay (nm : List Str) : Nat → D → Bool
  | 0, _ => false
  | m + 1, .tup (.str h :: r) => if h = "lamp" then lampB nm r else if h = "yes" ∨ h = "no" then decide (r.length = 0) else if h ∈ sgl then decide (r.length = 1) && r.all (isSay nm m) else if h ∈ dbl then decide (r.length = 2) && r.all (isSay nm m) else false
  | _ + 1, _ => false
theorem blsD_map : ∀ (l : List D) (p : D → Bool), blsD (l.map fun d => D.bl (p d)) = some (l.map p)
  | [], _ => rfl
  | d :: l, p => by
    show (blsD (l.map fun d => D.bl (p d))).map (p d :: ·) = _
    rw [blsD_map l p]
    rfl
theorem is_saying_sp (nm : List Str) (hnm : nm.length ≤ 1000) : ∀ (most fuel : Nat) (d : D), most < fuel → plD d = true →
    R_is_saying fuel [(false, nmD nm), (false, d), (false, .int most)] = .ok (false, .bl (isSay nm most d)) [some (false, nmD nm), some (false, d), some (false, .int most)] := by
  intro most
  induction most with
  | zero =>
    intro fuel d hf hd
    obtain ⟨fuel, rfl⟩ : ∃ f, fuel = f + 1 := ⟨fuel - 1, by omega⟩
    simp [R_is_saying, b_is_saying, isSay]
  | succ m ih =>
    intro fuel d hf hd
    obtain ⟨fuel, rfl⟩ : ∃ f, fuel = f + 1 := ⟨fuel - 1, by omega⟩
    have m1 : ¬ ((m : Int) + 1 = 0) := by omega
    have m2 : (m : Int) + 1 - 1 = m := by omega
    cases d with
    | scr _ => simp [plD] at hd
    | dct _ => simp [plD] at hd
    | obj _ _ => simp [plD] at hd
    | ob _ _ => simp [plD] at hd
    | non => simp [R_is_saying, b_is_saying, isSay, m1]
    | bl b => simp [R_is_saying, b_is_saying, isSay, m1]
    | int b => simp [R_is_saying, b_is_saying, isSay, m1]
    | str b => simp [R_is_saying, b_is_saying, isSay, m1]
    | lst b => simp [R_is_saying, b_is_saying, isSay, m1]
    | tup xs =>
      cases xs with
      | nil => simp [R_is_saying, b_is_saying, isSay, m1]
      | cons x r =>
        have hp := plDs_all (by rw [plD] at hd; exact hd : plDs (x :: r) = true)
        have l1 : ¬ ((r.length : Int) + 1 = 0) := by omega
        cases x with
        | scr _ => have := hp _ List.mem_cons_self; simp [plD] at this
        | dct _ => have := hp _ List.mem_cons_self; simp [plD] at this
        | obj _ _ => have := hp _ List.mem_cons_self; simp [plD] at this
        | ob _ _ => have := hp _ List.mem_cons_self; simp [plD] at this
        | non => simp [R_is_saying, b_is_saying, isSay, m1, l1]
        | bl b => simp [R_is_saying, b_is_saying, isSay, m1, l1]
        | int b => simp [R_is_saying, b_is_saying, isSay, m1, l1]
        | lst b => simp [R_is_saying, b_is_saying, isSay, m1, l1]
        | tup b => simp [R_is_saying, b_is_saying, isSay, m1, l1]
        | str h =>
          by_cases c1 : h = "lamp"
          · subst c1
            cases r with
            | nil => simp [R_is_saying, b_is_saying, isSay, m1, lampB]
            | cons y r2 =>
              have hy := hp y (by simp)
              cases r2 with
              | nil =>
                have l2 : ¬ ((1 : Int) + 1 = 0) := by omega
                cases y with
                | scr _ => simp [plD] at hy
                | dct _ => simp [plD] at hy
                | obj _ _ => simp [plD] at hy
                | ob _ _ => simp [plD] at hy
                | str n => simp [R_is_saying, b_is_saying, isSay, m1, lampB, nmD, inD_strs]
                | _ => simp [R_is_saying, b_is_saying, isSay, m1, lampB]
              | cons z r3 =>
                have l3 : ¬ ((r3.length : Int) + 1 + 1 + 1 = 2) := by omega
                have l4 : ¬ ((r3.length : Int) + 1 + 1 + 1 = 0) := by omega
                simp [R_is_saying, b_is_saying, isSay, m1, lampB, l3, l4]
          · by_cases c2 : h = "yes" ∨ h = "no"
            · have e0 : ((r.length : Int) + 1 = 1) ↔ r.length = 0 := by omega
              rcases c2 with rfl | rfl
              · simp [R_is_saying, b_is_saying, isSay, m1, l1, c1, e0]
              · have ny : ¬ (("no" : Str) = "yes") := by decide
                simp [R_is_saying, b_is_saying, isSay, m1, l1, c1, e0, ny]
            · have c2a : ¬ h = "yes" := fun e => c2 (.inl e)
              have c2b : ¬ h = "no" := fun e => c2 (.inr e)
              have hcomp : compL [3] (gN 3) cT (sCallF (R_is_saying fuel) (sCons (sVar 0) (sCons (sVar 3) (sCons (sBin opSub (sVar 2) (sC (.int 1))) sNil)))) r [some (false, .tup (nm.map D.str)), some (false, .tup (.str h :: r)), some (false, .int ((m : Int) + 1)), none] =
                  .ok (r.map fun d => D.bl (isSay nm m d)) [some (false, .tup (nm.map D.str)), some (false, .tup (.str h :: r)), some (false, .int ((m : Int) + 1)), none] := by
                refine compL_map (e := fun d => D.bl (isSay nm m d)) rfl fun d hd' => ⟨false, ?_⟩
                have := ih fuel d (by omega) (hp d (List.mem_cons_of_mem _ hd'))
                simp only [nmD] at this
                simp [this, m2]
              have hb := blsD_map r (isSay nm m)
              by_cases c3 : h ∈ dbl
              · have c4 : h ∉ sgl := by
                  intro c4
                  simp only [sgl, dbl, List.mem_cons, List.not_mem_nil, or_false] at c3 c4
                  rcases c3 with rfl | rfl | rfl | rfl | rfl <;> exact absurd c4 (by decide)
                by_cases c5 : r.length = 2
                · have e1 : ((r.length : Int) + 1 = 2 + 1) := by omega
                  simp [R_is_saying, b_is_saying, isSay, m1, l1, c1, c2a, c2b, inD_sgl, inD_dbl, c3, c4, nmD, hcomp, hb, c5, e1]
                · have e1 : ¬ ((r.length : Int) + 1 = 2 + 1) := by omega
                  have e2 : ¬ ((r.length : Int) + 1 = 3) := by omega
                  simp [R_is_saying, b_is_saying, isSay, m1, l1, c1, c2a, c2b, inD_sgl, inD_dbl, c3, c4, nmD, c5, e1, e2]
              · by_cases c4 : h ∈ sgl
                · by_cases c5 : r.length = 1
                  · have e1 : ((r.length : Int) + 1 = 2 + 0) := by omega
                    simp [R_is_saying, b_is_saying, isSay, m1, l1, c1, c2a, c2b, inD_sgl, inD_dbl, c3, c4, nmD, hcomp, hb, c5, e1]
                  · have e1 : ¬ ((r.length : Int) + 1 = 2) := by omega
                    simp [R_is_saying, b_is_saying, isSay, m1, l1, c1, c2a, c2b, inD_sgl, inD_dbl, c3, c4, nmD, c5, e1]
                · simp [R_is_saying, b_is_saying, isSay, m1, l1, c1, c2a, c2b, inD_sgl, inD_dbl, c3, c4, nmD]
theorem plD_str {z : Str} : plD (.str z) = true := rfl
theorem Say.plD : ∀ s : Say, Lz.plD s.toD = true
  | .lamp n => by simp [Say.toD, Lz.plD, plDs]
  | .cst n => by simp [Say.toD, Lz.plD, plDs]
  | .un o s => by simp [Say.toD, Lz.plD, plDs, Say.plD s]
  | .bin o s t => by simp [Say.toD, Lz.plD, plDs, Say.plD s, Say.plD t]
theorem U1.sgl (o : U1) : o.str ∈ Lz.sgl := by cases o <;> decide
theorem U2.dbl (o : U2) : o.str ∈ Lz.dbl := by cases o <;> decide
theorem U2.nsgl (o : U2) : o.str ∉ Lz.sgl := by cases o <;> decide
/-- a saying is one if it is not too deep -/
theorem isSay_say (nm : List Str) : ∀ (s : Say) (m : Nat), s.Over nm → isSay nm m s.toD = decide (s.dep ≤ m)
  | .lamp n, 0, h => by simp [isSay, Say.dep]
  | .cst b, 0, h => by simp [isSay, Say.dep]
  | .un o s, 0, h => by simp [isSay, Say.dep]
  | .bin o s t, 0, h => by simp [isSay, Say.dep]
  | .lamp n, m + 1, h => by
    have h' : n ∈ nm := h
    simp [Say.toD, isSay, lampB, Say.dep, h']
  | .cst b, m + 1, h => by
    have n1 : ¬ ((if b = true then ("yes" : Str) else "no") = "lamp") := by cases b <;> decide
    have n2 : (if b = true then ("yes" : Str) else "no") = "yes" ∨ (if b = true then ("yes" : Str) else "no") = "no" := by cases b <;> first | exact .inl rfl | exact .inr rfl
    simp only [Say.toD, isSay, if_neg n1, if_pos n2, Say.dep]
    simp
  | .un o s, m + 1, h => by
    have ih := isSay_say nm s m h
    have n2 : ¬ (o.str = "yes" ∨ o.str = "no") := fun q => q.elim o.ne_yes o.ne_no
    simp only [Say.toD, isSay, if_neg o.ne_lamp, if_neg n2, if_pos o.sgl, Say.dep, List.all_cons, List.all_nil, ih]
    simp
  | .bin o s t, m + 1, h => by
    have ih := isSay_say nm s m h.1
    have ih2 := isSay_say nm t m h.2
    have n2 : ¬ (o.str = "yes" ∨ o.str = "no") := fun q => q.elim o.ne_yes o.ne_no
    simp only [Say.toD, isSay, if_neg o.ne_lamp, if_neg n2, if_neg o.nsgl, if_pos o.dbl, Say.dep, List.all_cons, List.all_nil, ih, ih2]
    simp [Nat.max_le]
theorem checked_saying_t (nm : List Str) (hnm : nm.length ≤ 1000) (d : D) (hd : plD d = true) (h : isSay nm 8 d = true) : F_checked_saying [(false, nmD nm), (false, d)] = .ok (false, d) [some (false, nmD nm), some (false, d)] := by
  have h1 : F_is_saying _ = _ := is_saying_sp nm hnm 8 24 d (by decide) hd
  rw [h] at h1
  simp at h1
  simp [F_checked_saying, b_checked_saying, h1]
theorem checked_saying_f (nm : List Str) (hnm : nm.length ≤ 1000) (d : D) (hd : plD d = true) (h : isSay nm 8 d = false) : F_checked_saying [(false, nmD nm), (false, d)] = .exc "NoSaying" := by
  have h1 : F_is_saying _ = _ := is_saying_sp nm hnm 8 24 d (by decide) hd
  rw [h] at h1
  simp at h1
  simp [F_checked_saying, b_checked_saying, h1]
/-! ### how deep -/
theorem intsD_map : ∀ (l : List Say) (p : Say → Int), intsD (l.map fun d => D.int (p d)) = some (l.map p)
  | [], _ => rfl
  | d :: l, p => by
    show (intsD (l.map fun d => D.int (p d))).map (p d :: ·) = _
    rw [intsD_map l p]
    rfl
theorem depth_sp : ∀ (s : Say) (fuel : Nat), s.dep ≤ fuel → R_depth fuel [(false, s.toD)] = .ok (false, .int s.dep) [some (false, s.toD)] := by
  intro s
  induction s with
  | lamp n =>
    intro fuel hf
    obtain ⟨fuel, rfl⟩ : ∃ f, fuel = f + 1 := ⟨fuel - 1, by simp only [Say.dep] at hf; omega⟩
    have hp := parts_sp (.lamp n)
    simp [R_depth, b_depth, hp, Say.parts, Say.dep, intsD, maxL]
  | cst n =>
    intro fuel hf
    obtain ⟨fuel, rfl⟩ : ∃ f, fuel = f + 1 := ⟨fuel - 1, by simp only [Say.dep] at hf; omega⟩
    have hp := parts_sp (.cst n)
    simp [R_depth, b_depth, hp, Say.parts, Say.dep, intsD, maxL]
  | un o s ih =>
    intro fuel hf
    obtain ⟨fuel, rfl⟩ : ∃ f, fuel = f + 1 := ⟨fuel - 1, by simp only [Say.dep] at hf; omega⟩
    have hp := parts_sp (.un o s)
    simp only [Say.dep] at hf
    have h1 := ih fuel (by omega)
    simp [R_depth, b_depth, hp, Say.parts, Say.dep, intsD, maxL, h1]
    omega
  | bin o s t ih1 ih2 =>
    intro fuel hf
    obtain ⟨fuel, rfl⟩ : ∃ f, fuel = f + 1 := ⟨fuel - 1, by simp only [Say.dep] at hf; omega⟩
    have hp := parts_sp (.bin o s t)
    simp only [Say.dep] at hf
    have h1 := ih1 fuel (by omega)
    have h2 := ih2 fuel (by omega)
    simp [R_depth, b_depth, hp, Say.parts, Say.dep, intsD, maxL, h1, h2]
    omega
theorem l_deep_sp : ∀ (s : Say) (fuel : Nat), s.dep ≤ fuel → R_l_deep fuel [(false, s.toD)] = .ok (false, .int s.dep) [some (false, s.toD)] := by
  have key : ∀ s : Say, Lz.inD (.str s.head) (.tup [.str "lamp", .str "yes", .str "no"]) = some (match s with | .lamp _ => true | .cst _ => true | _ => false) := by
    intro s
    cases s with
    | lamp n => rfl
    | cst b => cases b <;> rfl
    | un o s => cases o <;> rfl
    | bin o s t => cases o <;> rfl
  have hix : ∀ s : Say, opIx s.toD (.int 0) = some (false, .str s.head) := fun s => by rw [Say.toD_eq]; simp
  have hsl : ∀ s : Say, opSl s.toD (some 1) none = some (false, .tup s.tail) := fun s => by rw [Say.toD_eq]; simp
  intro s
  induction s with
  | lamp n =>
    intro fuel hf
    obtain ⟨fuel, rfl⟩ : ∃ f, fuel = f + 1 := ⟨fuel - 1, by simp only [Say.dep] at hf; omega⟩
    simp [R_l_deep, b_l_deep, hix, key, Say.dep]
  | cst n =>
    intro fuel hf
    obtain ⟨fuel, rfl⟩ : ∃ f, fuel = f + 1 := ⟨fuel - 1, by simp only [Say.dep] at hf; omega⟩
    simp [R_l_deep, b_l_deep, hix, key, Say.dep]
  | un o s ih =>
    intro fuel hf
    obtain ⟨fuel, rfl⟩ : ∃ f, fuel = f + 1 := ⟨fuel - 1, by simp only [Say.dep] at hf; omega⟩
    simp only [Say.dep] at hf
    have h1 := ih fuel (by omega)
    have h2 := s.dep_pos
    simp [R_l_deep, b_l_deep, hix, key, hsl, Say.tail, Say.parts, Say.dep, intsD, maxL, h1]
    omega
  | bin o s t ih1 ih2 =>
    intro fuel hf
    obtain ⟨fuel, rfl⟩ : ∃ f, fuel = f + 1 := ⟨fuel - 1, by simp only [Say.dep] at hf; omega⟩
    simp only [Say.dep] at hf
    have h1 := ih1 fuel (by omega)
    have h2 := ih2 fuel (by omega)
    have p1 := s.dep_pos
    simp [R_l_deep, b_l_deep, hix, key, hsl, Say.tail, Say.parts, Say.dep, intsD, maxL, h1, h2]
    omega
end Lz
/-! sayings spoilt -/
namespace Lz
open PySem PySem.Spec PyProof.Rows L2
def spL (h : Str) (t : List D) : List D :=
  [.lst (.str h :: t), .tup (.str h :: (t ++ [.tup [.str "yes"]])), .tup ((D.str h :: t).dropLast), .tup [.str "lamp", .str "zzz"], .tup [.str "lamp", .int 1], .tup [.str "lamp", .str "not"], .tup [.str "lamp"],
   .tup (.str "never" :: t), .tup [.bl true], .non, .str "yes", .tup [], .tup [.str "yes", .tup [.str "no"]], .tup [.str "lamp", .lst [.str "a"]], .tup [.tup [.str "yes"]],
   .tup [.str "and", .tup [.str "yes"]], .tup [.str "not"], .tup [.str "since", .tup [.str "yes"], .tup [.str "no"], .tup [.str "no"]], .tup [.str "before", .str "yes"]]
theorem fdiv_nat (a b : Nat) : ((a : Int)).fdiv (b : Int) = ((a / b : Nat) : Int) := by
  rw [Int.fdiv_eq_ediv_of_nonneg _ (Int.natCast_nonneg b)]
  exact (Int.natCast_ediv a b).symm
theorem fmod3 (a : Nat) : ((a : Int)).fmod 3 = ((a % 3 : Nat) : Int) := fmod_nat a 3
theorem fdiv3 (a : Nat) : ((a : Int)).fdiv 3 = ((a / 3 : Nat) : Int) := fdiv_nat a 3
theorem fdiv7 (a : Nat) : ((a : Int)).fdiv 7 = ((a / 7 : Nat) : Int) := fdiv_nat a 7
theorem fmod19 (a : Nat) : ((a : Int)).fmod 19 = ((a % 19 : Nat) : Int) := fmod_nat a 19
theorem Say.tail_len (s : Say) : s.tail.length ≤ 2 := by cases s <;> simp [Say.tail, Say.parts]
theorem Say.head_leaf (s : Say) : Lz.inD (.str s.head) (.tup [.str "lamp", .str "yes", .str "no"]) = some (match s with | .lamp _ => true | .cst _ => true | _ => false) := by
  cases s with
  | lamp n => rfl
  | cst b => cases b <;> rfl
  | un o s => cases o <;> rfl
  | bin o s t => cases o <;> rfl
theorem spoilt_leaf (s : Say) (fuel c : Nat) (h : (match s with | .lamp _ => true | .cst _ => true | _ => false) = true ∨ c % 3 = 0) :
    ∃ d ∈ spL s.head s.tail, R_l_spoilt (fuel + 1) [(false, s.toD), (false, .int c)] = .ok (false, d) [some (false, s.toD), some (false, .int c)] := by
  have hh := s.head_leaf
  have tl := s.tail_len
  have t1 : s.tail.length + 1 + 1 ≤ 16777216 := by omega
  have t2 : 1 + s.tail.length ≤ 16777216 := by omega
  have hc := fmod3 c
  obtain ⟨k, hk, hkl⟩ : ∃ k : Nat, ((c : Int) / 3).fmod 19 = (k : Int) ∧ k < 19 := ⟨c / 3 % 19, by rw [← fmod19]; rfl, Nat.mod_lt _ (by decide)⟩
  have e19 : atI (spL s.head s.tail) (k : Int) = some ((spL s.head s.tail)[k]'hkl) := atI_lt hkl
  refine ⟨(spL s.head s.tail)[k]'hkl, List.getElem_mem _, ?_⟩
  generalize hd : (spL s.head s.tail)[k]'hkl = d at e19
  rw [Say.toD_eq]
  unfold spL at e19
  cases hm : (match s with | .lamp _ => true | .cst _ => true | _ => false) with
  | true =>
    rw [hm] at hh
    simp [R_l_spoilt, b_l_spoilt, hh, t1, t2, fdiv3, hk, cut_back, e19]
  | false =>
    rw [hm] at h hh
    have h0 : c % 3 = 0 := by simpa using h
    rw [h0] at hc
    simp at hc
    simp [R_l_spoilt, b_l_spoilt, hh, t1, t2, fdiv3, hk, cut_back, e19, hc]
/-- never a saying -/
def NoSay (nm : List Str) (d : D) : Prop := ∀ m, isSay nm m d = false
theorem noSay_tup {nm : List Str} {h : Str} {r : List D} (hl : h = "lamp" → lampB nm r = false) (hy : h = "yes" ∨ h = "no" → r ≠ []) (hs : h ∈ sgl → r.length ≠ 1 ∨ ∃ x ∈ r, NoSay nm x) (hd : h ∈ dbl → r.length ≠ 2 ∨ ∃ x ∈ r, NoSay nm x) : NoSay nm (.tup (.str h :: r)) := by
  intro m
  cases m with
  | zero => rfl
  | succ m =>
    have ex : (∃ x ∈ r, NoSay nm x) → r.all (isSay nm m) = false := fun ⟨x, hx, hn⟩ => by
      rw [List.all_eq_false]
      exact ⟨x, hx, by rw [hn m]; exact Bool.false_ne_true⟩
    show (if h = "lamp" then lampB nm r else if h = "yes" ∨ h = "no" then decide (r.length = 0) else if h ∈ sgl then decide (r.length = 1) && r.all (isSay nm m) else if h ∈ dbl then decide (r.length = 2) && r.all (isSay nm m) else false) = false
    by_cases c1 : h = "lamp"
    · rw [if_pos c1]; exact hl c1
    rw [if_neg c1]
    by_cases c2 : h = "yes" ∨ h = "no"
    · rw [if_pos c2]
      exact decide_eq_false fun e => hy c2 (List.length_eq_zero_iff.mp e)
    rw [if_neg c2]
    by_cases c3 : h ∈ sgl
    · rw [if_pos c3]
      rcases hs c3 with q | q
      · rw [decide_eq_false q]; rfl
      · rw [ex q, Bool.and_false]
    rw [if_neg c3]
    by_cases c4 : h ∈ dbl
    · rw [if_pos c4]
      rcases hd c4 with q | q
      · rw [decide_eq_false q]; rfl
      · rw [ex q, Bool.and_false]
    rw [if_neg c4]
theorem noSay_of {nm : List Str} {d : D} (h : ∀ h r, d ≠ .tup (.str h :: r)) : NoSay nm d := by
  intro m
  cases m with
  | zero => rfl
  | succ m =>
    cases d with
    | tup xs =>
      cases xs with
      | nil => rfl
      | cons x r =>
        cases x with
        | str z => exact absurd rfl (h z r)
        | _ => rfl
    | _ => rfl
theorem noSay_lamp {nm : List Str} {r : List D} (h : lampB nm r = false) : NoSay nm (.tup (.str "lamp" :: r)) := noSay_tup (fun _ => h) (fun q => absurd q (by decide)) (fun q => absurd q (by decide)) (fun q => absurd q (by decide))
theorem noSay_cst {nm : List Str} {r : List D} (b : Bool) (h : r ≠ []) : NoSay nm (.tup (.str (if b then "yes" else "no") :: r)) := by
  cases b
  · exact noSay_tup (h := "no") (fun q => absurd q (by decide)) (fun _ => h) (fun q => absurd q (by decide)) (fun q => absurd q (by decide))
  · exact noSay_tup (h := "yes") (fun q => absurd q (by decide)) (fun _ => h) (fun q => absurd q (by decide)) (fun q => absurd q (by decide))
theorem noSay_un {nm : List Str} {r : List D} (o : U1) (h : r.length ≠ 1 ∨ ∃ x ∈ r, NoSay nm x) : NoSay nm (.tup (.str o.str :: r)) := noSay_tup (fun q => absurd q o.ne_lamp) (fun q => (q.elim o.ne_yes o.ne_no).elim) (fun _ => h) (fun q => by cases o <;> exact absurd q (by decide))
theorem noSay_bin {nm : List Str} {r : List D} (o : U2) (h : r.length ≠ 2 ∨ ∃ x ∈ r, NoSay nm x) : NoSay nm (.tup (.str o.str :: r)) := noSay_tup (fun q => absurd q o.ne_lamp) (fun q => (q.elim o.ne_yes o.ne_no).elim) (fun q => absurd q o.nsgl) (fun _ => h)
theorem spL_no {nm : List Str} (hz : ("zzz" : Str) ∉ nm) (hn : ("not" : Str) ∉ nm) (s : Say) : ∀ d ∈ spL s.head s.tail, NoSay nm d := by
  unfold spL
  simp only [List.forall_mem_cons]
  refine ⟨noSay_of nofun, ?_, ?_, noSay_lamp (decide_eq_false hz), noSay_lamp rfl, noSay_lamp (decide_eq_false hn), noSay_lamp rfl, ?_, noSay_of (fun h r e => by cases e), noSay_of nofun, noSay_of nofun, noSay_of (fun h r e => by cases e), noSay_cst true (by simp), noSay_lamp rfl, noSay_of (fun h r e => by cases e), noSay_bin .an (.inl (by simp)), noSay_un .nt (.inl (by simp)), noSay_bin .sn (.inl (by simp)), noSay_un .bf (.inr ⟨.str "yes", by simp, noSay_of nofun⟩), by simp⟩
  · cases s with
    | lamp n => exact noSay_lamp rfl
    | cst b => exact noSay_cst b (by simp [Say.tail, Say.parts])
    | un o s => exact noSay_un o (.inl (by simp [Say.tail, Say.parts]))
    | bin o s t => exact noSay_bin o (.inl (by simp [Say.tail, Say.parts]))
  · cases s with
    | lamp n => exact noSay_lamp (r := []) rfl
    | cst b => exact noSay_of (fun h r e => by cases e)
    | un o s => exact noSay_un (r := []) o (.inl (by simp))
    | bin o s t => exact noSay_bin (r := [s.toD]) o (.inl (by simp))
  · exact noSay_tup (h := "never") (fun q => absurd q (by decide)) (fun q => absurd q (by decide)) (fun q => absurd q (by decide)) (fun q => absurd q (by decide))
theorem Say.tail_ok {ns : List Str} (hn : ∀ n ∈ ns, okStr n) (s : Say) (h : s.Over ns) : ∀ x ∈ s.tail, Lz.okN s.dep x ∧ Lz.plD x = true := by
  cases s with
  | lamp n => intro x hx; rcases List.mem_singleton.mp hx with rfl; exact ⟨okN_str (hn n h), rfl⟩
  | cst b => intro x hx; cases hx
  | un o s =>
    intro x hx
    rcases List.mem_singleton.mp hx with rfl
    exact ⟨okN_mono (Say.okN hn s h) (by simp only [Say.dep]; omega), s.plD⟩
  | bin o s t =>
    intro x hx
    rcases List.mem_cons.mp hx with rfl | hx
    · exact ⟨okN_mono (Say.okN hn s h.1) (by simp only [Say.dep]; omega), s.plD⟩
    · rcases List.mem_singleton.mp hx with rfl
      exact ⟨okN_mono (Say.okN hn t h.2) (by simp only [Say.dep]; omega), t.plD⟩
theorem Say.head_ok (s : Say) : okStr s.head := by
  cases s with
  | lamp n => exact (by decide +kernel : okStr "lamp")
  | cst b => cases b <;> exact (by decide +kernel)
  | un o s => exact o.ok
  | bin o s t => exact o.ok
/-- data that may be compared, and asked for -/
def Fine (n : Nat) (d : D) : Prop := okN n d ∧ plD d = true
theorem fine_str {n : Nat} {z : Str} (h : okStr z) : Fine n (.str z) := ⟨okN_str h, rfl⟩
theorem fine_int {n : Nat} {z : Int} : Fine n (.int z) := ⟨okN_int, rfl⟩
theorem fine_bl {n : Nat} {z : Bool} : Fine n (.bl z) := ⟨okN_bl, rfl⟩
theorem fine_non {n : Nat} : Fine n .non := ⟨okN_non, rfl⟩
theorem fine_tup {n : Nat} {xs : List D} (h : ∀ x ∈ xs, Fine n x) : Fine (n + 1) (.tup xs) := ⟨okN_tup fun x hx => (h x hx).1, by rw [plD]; exact plDs_of fun x hx => (h x hx).2⟩
theorem fine_lst {n : Nat} {xs : List D} (h : ∀ x ∈ xs, Fine n x) : Fine (n + 1) (.lst xs) := ⟨okN_lst fun x hx => (h x hx).1, by rw [plD]; exact plDs_of fun x hx => (h x hx).2⟩
theorem Fine.mono {n m : Nat} {d : D} (h : Fine n d) (e : n ≤ m) : Fine m d := ⟨okN_mono h.1 e, h.2⟩
theorem spL_fine {ns : List Str} (hn : ∀ n ∈ ns, okStr n) (s : Say) (h : s.Over ns) : ∀ d ∈ spL s.head s.tail, Fine (s.dep + 4) d := by
  have ht : ∀ x ∈ s.tail, Fine (s.dep + 3) x := fun x hx => Fine.mono ⟨(s.tail_ok hn h x hx).1, (s.tail_ok hn h x hx).2⟩ (by omega)
  have hh : Fine (s.dep + 3) (.str s.head) := fine_str s.head_ok
  have st : ∀ {k : Nat} {z : Str}, PyData.strOk z = true → Fine k (.str z) := fun h => fine_str h
  have all : ∀ x ∈ D.str s.head :: s.tail, Fine (s.dep + 3) x := by
    simp only [List.forall_mem_cons]
    exact ⟨hh, ht⟩
  have yes : Fine (s.dep + 3) (.tup [.str "yes"]) := fine_tup (n := s.dep + 2) (by simp only [List.forall_mem_cons]; exact ⟨st (by decide +kernel), by simp⟩)
  have no : Fine (s.dep + 3) (.tup [.str "no"]) := fine_tup (n := s.dep + 2) (by simp only [List.forall_mem_cons]; exact ⟨st (by decide +kernel), by simp⟩)
  have la : Fine (s.dep + 3) (.lst [.str "a"]) := fine_lst (n := s.dep + 2) (by simp only [List.forall_mem_cons]; exact ⟨st (by decide +kernel), by simp⟩)
  unfold spL
  simp only [List.forall_mem_cons]
  refine ⟨fine_lst all, fine_tup ?_, fine_tup fun x hx => all x (List.dropLast_subset _ hx), fine_tup ?_, fine_tup ?_, fine_tup ?_, fine_tup ?_, fine_tup ?_, fine_tup ?_, fine_non, st (by decide +kernel), fine_tup (by simp), fine_tup ?_, fine_tup ?_, fine_tup ?_, fine_tup ?_, fine_tup ?_, fine_tup ?_, fine_tup ?_, by simp⟩
  · simp only [List.forall_mem_cons, List.forall_mem_append]
    exact ⟨hh, ht, yes, by simp⟩
  all_goals
    simp only [List.forall_mem_cons]
    repeat' (with_reducible apply And.intro)
    all_goals first | exact st (by decide +kernel) | exact fine_int | exact fine_bl | exact yes | exact no | exact la | exact ht | simp
theorem spoilt_sp {nm : List Str} (hok : ∀ n ∈ nm, okStr n) (hz : ("zzz" : Str) ∉ nm) (hn : ("not" : Str) ∉ nm) : ∀ (s : Say) (fuel c : Nat), s.dep ≤ fuel → s.Over nm →
    ∃ d, R_l_spoilt fuel [(false, s.toD), (false, .int c)] = .ok (false, d) [some (false, s.toD), some (false, .int c)] ∧ Fine (s.dep + 4) d ∧ (d = s.toD ∨ NoSay nm d) := by
  have leaf : ∀ (s : Say) (fuel c : Nat), s.Over nm → ((match s with | .lamp _ => true | .cst _ => true | _ => false) = true ∨ c % 3 = 0) → ∃ d, R_l_spoilt (fuel + 1) [(false, s.toD), (false, .int c)] = .ok (false, d) [some (false, s.toD), some (false, .int c)] ∧ Fine (s.dep + 4) d ∧ (d = s.toD ∨ NoSay nm d) := by
    intro s fuel c ho h
    obtain ⟨d, hd, h1⟩ := spoilt_leaf s fuel c h
    exact ⟨d, h1, spL_fine hok s ho d hd, .inr (spL_no hz hn s d hd)⟩
  intro s
  induction s with
  | lamp n =>
    intro fuel c hf ho
    obtain ⟨fuel, rfl⟩ : ∃ f, fuel = f + 1 := ⟨fuel - 1, by simp only [Say.dep] at hf; omega⟩
    exact leaf _ fuel c ho (.inl rfl)
  | cst n =>
    intro fuel c hf ho
    obtain ⟨fuel, rfl⟩ : ∃ f, fuel = f + 1 := ⟨fuel - 1, by simp only [Say.dep] at hf; omega⟩
    exact leaf _ fuel c ho (.inl rfl)
  | un o s ih =>
    intro fuel c hf ho
    obtain ⟨fuel, rfl⟩ : ∃ f, fuel = f + 1 := ⟨fuel - 1, by simp only [Say.dep] at hf; omega⟩
    by_cases h3 : c % 3 = 0
    · exact leaf _ fuel c ho (.inr h3)
    simp only [Say.dep] at hf
    obtain ⟨d, h1, h2, h4⟩ := ih fuel (c / 7) (by omega) ho
    have hh := (Say.un o s).head_leaf
    have hc := fmod3 c
    have hpos : (0 : Int) < (c : Int).fmod 3 := by rw [hc]; omega
    have hat : ((c : Int) / 3).fmod 1 = 0 := by rw [Int.fmod_eq_emod_of_nonneg _ (by decide)]; omega
    simp at h1
    refine ⟨.tup [.str o.str, d], ?_, ?_, ?_⟩
    · have c1 : ∀ xs : List D, cut xs none (some 1) = xs.take 1 := fun xs => cut_to (j := 1)
      have c2 : ∀ xs : List D, cut xs (some 2) none = xs.drop 2 := fun xs => cut_from (i := 2)
      simp only [Say.toD]
      simp only [Say.head] at hh
      simp [R_l_spoilt, b_l_spoilt, hh, hpos, fdiv3, fdiv7, hat, h1, c1, c2]
    · exact fine_tup (n := s.dep + 4) (by
        simp only [List.forall_mem_cons]
        exact ⟨fine_str o.ok, h2, by simp⟩)
    · rcases h4 with rfl | h4
      · exact .inl rfl
      · exact .inr (noSay_un o (.inr ⟨d, by simp, h4⟩))
  | bin o s t ih1 ih2 =>
    intro fuel c hf ho
    obtain ⟨fuel, rfl⟩ : ∃ f, fuel = f + 1 := ⟨fuel - 1, by simp only [Say.dep] at hf; omega⟩
    by_cases h3 : c % 3 = 0
    · exact leaf _ fuel c ho (.inr h3)
    simp only [Say.dep] at hf
    have hh := (Say.bin o s t).head_leaf
    have hc := fmod3 c
    have hpos : (0 : Int) < (c : Int).fmod 3 := by rw [hc]; omega
    have hat : ((c : Int) / 3).fmod 2 = ((c / 3 % 2 : Nat) : Int) := by rw [Int.fmod_eq_emod_of_nonneg _ (by decide)]; omega
    have c1 : ∀ xs : List D, cut xs none (some 1) = xs.take 1 := fun xs => cut_to (j := 1)
    have c2 : ∀ xs : List D, cut xs (some 2) none = xs.drop 2 := fun xs => cut_from (i := 2)
    have c3 : ∀ xs : List D, cut xs none (some 2) = xs.take 2 := fun xs => cut_to (j := 2)
    have c4 : ∀ xs : List D, cut xs (some 3) none = xs.drop 3 := fun xs => cut_from (i := 3)
    simp only [Say.head] at hh
    have hk : c / 3 % 2 = 0 ∨ c / 3 % 2 = 1 := by omega
    rcases hk with hk | hk
    · obtain ⟨d, h1, h2, h4⟩ := ih1 fuel (c / 7) (by omega) ho.1
      rw [hk] at hat
      simp at h1 hat
      refine ⟨.tup [.str o.str, d, t.toD], ?_, ?_, ?_⟩
      · simp only [Say.toD]
        simp [R_l_spoilt, b_l_spoilt, hh, hpos, fdiv3, fdiv7, hat, h1, c1, c2]
      · exact fine_tup (n := max s.dep t.dep + 4) (by
          simp only [List.forall_mem_cons]
          exact ⟨fine_str o.ok, h2.mono (by omega), ⟨okN_mono (Say.okN hok t ho.2) (by omega), t.plD⟩, by simp⟩)
      · rcases h4 with rfl | h4
        · exact .inl rfl
        · exact .inr (noSay_bin o (.inr ⟨d, by simp, h4⟩))
    · obtain ⟨d, h1, h2, h4⟩ := ih2 fuel (c / 7) (by omega) ho.2
      rw [hk] at hat
      simp at h1 hat
      refine ⟨.tup [.str o.str, s.toD, d], ?_, ?_, ?_⟩
      · simp only [Say.toD]
        simp [R_l_spoilt, b_l_spoilt, hh, hpos, fdiv3, fdiv7, hat, h1, c3, c4]
      · exact fine_tup (n := max s.dep t.dep + 4) (by
          simp only [List.forall_mem_cons]
          exact ⟨fine_str o.ok, ⟨okN_mono (Say.okN hok s ho.1) (by omega), s.plD⟩, h2.mono (by omega), by simp⟩)
      · rcases h4 with rfl | h4
        · exact .inl rfl
        · exact .inr (noSay_bin o (.inr ⟨d, by simp, h4⟩))
end Lz
/-! books -/
namespace Lz
open PySem PySem.Spec PyProof.Rows L2
@[simp] theorem isi_int_i {i : Int} : isiD "int" (.int i) = some (false, .bl true) := rfl
@[simp] theorem isi_int_b {b : Bool} : isiD "int" (.bl b) = some (false, .bl true) := rfl
@[simp] theorem isi_int_n : isiD "int" .non = some (false, .bl false) := rfl
@[simp] theorem isi_int_s {z : Str} : isiD "int" (.str z) = some (false, .bl false) := rfl
@[simp] theorem isi_int_t {xs : List D} : isiD "int" (.tup xs) = some (false, .bl false) := rfl
@[simp] theorem isi_int_l {xs : List D} : isiD "int" (.lst xs) = some (false, .bl false) := rfl
@[simp] theorem isi_bl_i {i : Int} : isiD "bool" (.int i) = some (false, .bl false) := rfl
@[simp] theorem isi_bl_b {b : Bool} : isiD "bool" (.bl b) = some (false, .bl true) := rfl
@[simp] theorem isi_bl_n : isiD "bool" .non = some (false, .bl false) := rfl
@[simp] theorem isi_bl_s {z : Str} : isiD "bool" (.str z) = some (false, .bl false) := rfl
@[simp] theorem isi_bl_t {xs : List D} : isiD "bool" (.tup xs) = some (false, .bl false) := rfl
@[simp] theorem isi_bl_l {xs : List D} : isiD "bool" (.lst xs) = some (false, .bl false) := rfl
@[simp] theorem isi_lst_l {xs : List D} : isiD "list" (.lst xs) = some (false, .bl true) := rfl
@[simp] theorem isi_lst_t {xs : List D} : isiD "list" (.tup xs) = some (false, .bl false) := rfl
@[simp] theorem isi_lst_n : isiD "list" .non = some (false, .bl false) := rfl
@[simp] theorem isi_lst_s {z : Str} : isiD "list" (.str z) = some (false, .bl false) := rfl
@[simp] theorem isi_lst_i {z : Int} : isiD "list" (.int z) = some (false, .bl false) := rfl
@[simp] theorem isi_lst_b {z : Bool} : isiD "list" (.bl z) = some (false, .bl false) := rfl
/-! ### names -/
def wordsL : List Str := ["yes", "no", "not", "and", "or", "then", "same", "before", "once", "sofar", "since", "foe", "friend", "promise", "must", "wish"]
def letters : Str := "abcdefghijklmnopqrstuvwxyz"
def letB (c : Nat) : Bool := decide (c ∈ letters.cps.toList)
def isNameS (z : Str) : Bool := decide (1 ≤ z.length) && (decide (z.length ≤ 8) && (!(decide (z ∈ wordsL)) && (z.cps.toList.map letB).all id))
def isNameD : D → Bool
  | .str z => isNameS z
  | _ => false
def shortD : D → Prop
  | .str z => z.length ≤ 16777216
  | _ => True
theorem blsD_mapB : ∀ (l : List Bool), blsD (l.map D.bl) = some l
  | [] => rfl
  | d :: l => by
    show (blsD (l.map D.bl)).map (d :: ·) = _
    rw [blsD_mapB l]
    rfl
theorem is_name_sp (d : D) (hd : plD d = true) (hs : shortD d) : F_is_name [(false, d)] = .ok (false, .bl (isNameD d)) [some (false, d)] := by
  cases d with
  | scr _ => simp [plD] at hd
  | dct _ => simp [plD] at hd
  | obj _ _ => simp [plD] at hd
  | ob _ _ => simp [plD] at hd
  | str z =>
    have hs' : z.length ≤ 16777216 := hs
    by_cases h1 : 1 ≤ z.length
    · have h1' : (1 : Int) ≤ (z.length : Int) := by omega
      by_cases h8 : z.length ≤ 8
      · have h8' : (z.length : Int) ≤ 8 := by omega
        have hw : inD (.str z) (.tup [.str "yes", .str "no", .str "not", .str "and", .str "or", .str "then", .str "same", .str "before", .str "once", .str "sofar", .str "since", .str "foe", .str "friend", .str "promise", .str "must", .str "wish"]) = some (decide (z ∈ wordsL)) := inD_strs (zs := wordsL)
        by_cases hz : z ∈ wordsL
        · simp [F_is_name, b_is_name, hs', h1', h8', hw, hz, isNameD, isNameS]
        · have hit : itemsD (.str z) = some (z.cps.toList.map fun c => .str ⟨#[c]⟩) := if_pos hs'
          have hcomp : compL [1] (gN 1) cT (sBin opIn (sVar 1) (sC (.str "abcdefghijklmnopqrstuvwxyz"))) (z.cps.toList.map fun c => D.str ⟨#[c]⟩) [some (false, .str z), none] =
              .ok ((z.cps.toList.map fun c => D.str ⟨#[c]⟩).map fun d => D.bl (match d with | .str s => letB (s.cps.getD 0 0) | _ => false)) [some (false, .str z), none] := by
            refine compL_map rfl fun d hd' => ⟨false, ?_⟩
            obtain ⟨c, _, rfl⟩ := List.mem_map.mp hd'
            have e : inD (.str ⟨#[c]⟩) (.str "abcdefghijklmnopqrstuvwxyz") = some (letB c) := rfl
            simp [e]
          rw [List.map_map] at hcomp
          have hb := blsD_mapB (z.cps.toList.map letB)
          rw [List.map_map] at hb
          have e2 : (z.cps.toList.map ((fun d => D.bl (match d with | .str s => letB (s.cps.getD 0 0) | _ => false)) ∘ fun c => D.str ⟨#[c]⟩)) = z.cps.toList.map (D.bl ∘ letB) := rfl
          rw [e2] at hcomp
          simp [F_is_name, b_is_name, hs', h1', h8', hw, hz, isNameD, isNameS, hit, hcomp, hb, h1, h8]
      · have h8' : ¬ (z.length : Int) ≤ 8 := by omega
        simp [F_is_name, b_is_name, hs', h1', h8', isNameD, isNameS, h1, h8]
    · have h1' : ¬ (1 : Int) ≤ (z.length : Int) := by omega
      simp [F_is_name, b_is_name, hs', h1', isNameD, isNameS, h1]
  | _ => simp [F_is_name, b_is_name, isNameD]
def areNm : D → Bool
  | .tup xs => decide (1 ≤ xs.length) && (decide (xs.length ≤ 2) && xs.all isNameD)
  | _ => false
theorem blsD_all (l : List D) (p : D → Bool) : blsD (l.map fun d => D.bl (p d)) = some (l.map p) := blsD_map l p
theorem are_names_sp (d : D) (hd : plD d = true) (hs : ∀ xs, d = .tup xs → ∀ x ∈ xs, shortD x) : F_are_names [(false, d)] = .ok (false, .bl (areNm d)) [some (false, d)] := by
  cases d with
  | scr _ => simp [plD] at hd
  | dct _ => simp [plD] at hd
  | obj _ _ => simp [plD] at hd
  | ob _ _ => simp [plD] at hd
  | tup xs =>
    have hp := plDs_all (by rw [plD] at hd; exact hd : plDs xs = true)
    have hcomp : compL [1] (gN 1) cT (sCallF F_is_name (sCons (sVar 1) sNil)) xs [some (false, .tup xs), none] = .ok (xs.map fun d => D.bl (isNameD d)) [some (false, .tup xs), none] :=
      compL_map (e := fun d => D.bl (isNameD d)) rfl fun d hd' => ⟨false, by simp [is_name_sp d (hp d hd') (hs xs rfl d hd')]⟩
    have hb := blsD_map xs isNameD
    by_cases h1 : 1 ≤ xs.length
    · have h1' : (1 : Int) ≤ (xs.length : Int) := by omega
      by_cases h2 : xs.length ≤ 2
      · have h2' : (xs.length : Int) ≤ 2 := by omega
        simp [F_are_names, b_are_names, h1', h2', hcomp, hb, areNm, h1, h2]
      · have h2' : ¬ (xs.length : Int) ≤ 2 := by omega
        simp [F_are_names, b_are_names, h1', h2', areNm, h1, h2]
    · have h1' : ¬ (1 : Int) ≤ (xs.length : Int) := by omega
      simp [F_are_names, b_are_names, h1', areNm, h1]
  | _ => simp [F_are_names, b_are_names, areNm]
theorem areNm_inv {d : D} (h : areNm d = true) : ∃ l, d = nmD l ∧ (∀ n ∈ l, isNameS n = true) ∧ 1 ≤ l.length ∧ l.length ≤ 2 := by
  cases d with
  | tup xs =>
    have h' : (decide (1 ≤ xs.length) && (decide (xs.length ≤ 2) && xs.all isNameD)) = true := h
    simp only [Bool.and_eq_true, decide_eq_true_eq] at h'
    have key : ∀ xs : List D, xs.all isNameD = true → ∃ l : List Str, xs = l.map D.str ∧ ∀ n ∈ l, isNameS n = true := by
      intro xs
      induction xs with
      | nil => intro _; exact ⟨[], rfl, by simp⟩
      | cons x xs ih =>
        intro h
        rw [List.all_cons, Bool.and_eq_true] at h
        obtain ⟨l, hl, hn⟩ := ih h.2
        cases x with
        | str z =>
          refine ⟨z :: l, by rw [hl]; rfl, ?_⟩
          simp only [List.forall_mem_cons]
          exact ⟨h.1, hn⟩
        | _ => exact absurd h.1 Bool.false_ne_true
    obtain ⟨l, hl, hn⟩ := key xs h'.2.2
    refine ⟨l, by rw [hl]; rfl, hn, ?_, ?_⟩
    · have := h'.1; rw [hl, List.length_map] at this; exact this
    · have := h'.2.1; rw [hl, List.length_map] at this; exact this
  | _ => exact absurd h Bool.false_ne_true
theorem areNm_of {l : List Str} (h : ∀ n ∈ l, isNameS n = true) (h1 : 1 ≤ l.length) (h2 : l.length ≤ 2) : areNm (nmD l) = true := by
  show (decide (1 ≤ (l.map D.str).length) && (decide ((l.map D.str).length ≤ 2) && (l.map D.str).all isNameD)) = true
  rw [List.length_map, decide_eq_true h1, decide_eq_true h2, List.all_map]
  simp only [Bool.true_and]
  exact List.all_eq_true.mpr fun n hn => h n hn
theorem isSay_inv {nm : List Str} : ∀ {m : Nat} {d : D}, isSay nm m d = true → ∃ s : Say, d = s.toD ∧ s.Over nm ∧ s.dep ≤ m
  | 0, d, h => by cases h
  | m + 1, d, h => by
    cases d with
    | tup xs =>
      cases xs with
      | nil => cases h
      | cons x r =>
        cases x with
        | str z =>
          have h' : (if z = "lamp" then lampB nm r else if z = "yes" ∨ z = "no" then decide (r.length = 0) else if z ∈ sgl then decide (r.length = 1) && r.all (isSay nm m) else if z ∈ dbl then decide (r.length = 2) && r.all (isSay nm m) else false) = true := h
          by_cases c1 : z = "lamp"
          · rw [if_pos c1] at h'
            subst c1
            unfold lampB at h'
            split at h'
            · rename_i n
              exact ⟨.lamp n, rfl, (show n ∈ nm from of_decide_eq_true h'), by simp [Say.dep]⟩
            · cases h'
          rw [if_neg c1] at h'
          by_cases c2 : z = "yes" ∨ z = "no"
          · rw [if_pos c2] at h'
            have e := List.length_eq_zero_iff.mp (of_decide_eq_true h')
            subst e
            rcases c2 with rfl | rfl
            · exact ⟨.cst true, rfl, trivial, by simp [Say.dep]⟩
            · exact ⟨.cst false, rfl, trivial, by simp [Say.dep]⟩
          rw [if_neg c2] at h'
          by_cases c3 : z ∈ sgl
          · rw [if_pos c3, Bool.and_eq_true, decide_eq_true_eq] at h'
            obtain ⟨l1, h2⟩ := h'
            match r, l1, h2 with
            | [y], _, h2 =>
              obtain ⟨s, rfl, o, d⟩ := isSay_inv (m := m) (d := y) (by simpa using h2)
              have ho : ∃ o : U1, z = o.str := by
                simp only [sgl, List.mem_cons, List.not_mem_nil, or_false] at c3
                rcases c3 with rfl | rfl | rfl | rfl
                · exact ⟨.nt, rfl⟩
                · exact ⟨.bf, rfl⟩
                · exact ⟨.on, rfl⟩
                · exact ⟨.sf, rfl⟩
              obtain ⟨u, rfl⟩ := ho
              exact ⟨.un u s, rfl, o, by simp only [Say.dep]; omega⟩
          rw [if_neg c3] at h'
          by_cases c4 : z ∈ dbl
          · rw [if_pos c4, Bool.and_eq_true, decide_eq_true_eq] at h'
            obtain ⟨l1, h2⟩ := h'
            match r, l1, h2 with
            | [y, y2], _, h2 =>
              rw [List.all_cons, List.all_cons, List.all_nil, Bool.and_true, Bool.and_eq_true] at h2
              obtain ⟨s, rfl, o, d⟩ := isSay_inv (m := m) (d := y) h2.1
              obtain ⟨t, rfl, o2, d2⟩ := isSay_inv (m := m) (d := y2) h2.2
              have ho : ∃ o : U2, z = o.str := by
                simp only [dbl, List.mem_cons, List.not_mem_nil, or_false] at c4
                rcases c4 with rfl | rfl | rfl | rfl | rfl
                · exact ⟨.an, rfl⟩
                · exact ⟨.or, rfl⟩
                · exact ⟨.th, rfl⟩
                · exact ⟨.sm, rfl⟩
                · exact ⟨.sn, rfl⟩
              obtain ⟨u, rfl⟩ := ho
              exact ⟨.bin u s t, rfl, ⟨o, o2⟩, by simp only [Say.dep]; omega⟩
          rw [if_neg c4] at h'
          cases h'
        | _ => cases h
    | _ => cases h
def areSay (nm : List Str) (most : Nat) : D → Bool
  | .tup xs => decide (xs.length ≤ most) && xs.all (isSay nm 8)
  | _ => false
theorem are_sayings_sp (nm : List Str) (hnm : nm.length ≤ 1000) (most : Nat) (d : D) (hd : plD d = true) : F_are_sayings [(false, d), (false, nmD nm), (false, .int most)] = .ok (false, .bl (areSay nm most d)) [some (false, d), some (false, nmD nm), some (false, .int most)] := by
  cases d with
  | scr _ => simp [plD] at hd
  | dct _ => simp [plD] at hd
  | obj _ _ => simp [plD] at hd
  | ob _ _ => simp [plD] at hd
  | tup xs =>
    have hp := plDs_all (by rw [plD] at hd; exact hd : plDs xs = true)
    have hcomp : compL [3] (gN 3) cT (sCallF F_is_saying (sCons (sVar 1) (sCons (sVar 3) (sCons (sC (.int 8)) sNil)))) xs [some (false, .tup xs), some (false, nmD nm), some (false, .int most), none] = .ok (xs.map fun d => D.bl (isSay nm 8 d)) [some (false, .tup xs), some (false, nmD nm), some (false, .int most), none] :=
      compL_map (e := fun d => D.bl (isSay nm 8 d)) rfl fun d hd' => ⟨false, by
        have h1 : F_is_saying _ = _ := is_saying_sp nm hnm 8 24 d (by decide) (hp d hd')
        simp at h1
        simp [h1]⟩
    have hb := blsD_map xs (isSay nm 8)
    by_cases h1 : xs.length ≤ most
    · have h1' : ¬ (most : Int) < (xs.length : Int) := by omega
      have h1'' : ¬ most < xs.length := by omega
      simp [F_are_sayings, b_are_sayings, h1', h1'', hcomp, hb, areSay, h1]
    · have h1' : (most : Int) < (xs.length : Int) := by omega
      have h1'' : most < xs.length := by omega
      simp [F_are_sayings, b_are_sayings, h1', h1'', areSay, h1]
  | _ => simp [F_are_sayings, b_are_sayings, areSay]
/-- a whole number within bounds -/
def betw (lo hi : Int) : D → Bool
  | .int i => decide (lo ≤ i) && decide (i ≤ hi)
  | _ => false
theorem is_whole_sp (d : D) (hd : plD d = true) : F_is_whole [(false, d)] = .ok (false, .bl (match d with | .int _ => true | _ => false)) [some (false, d)] := by
  cases d with
  | scr _ => simp [plD] at hd
  | dct _ => simp [plD] at hd
  | obj _ _ => simp [plD] at hd
  | ob _ _ => simp [plD] at hd
  | _ => simp [F_is_whole, b_is_whole]
theorem between_sp (d : D) (lo hi : Int) (hd : plD d = true) : F_between [(false, d), (false, .int lo), (false, .int hi)] = .ok (false, .bl (betw lo hi d)) [some (false, d), some (false, .int lo), some (false, .int hi)] := by
  have h := is_whole_sp d hd
  cases d with
  | scr _ => simp [plD] at hd
  | dct _ => simp [plD] at hd
  | obj _ _ => simp [plD] at hd
  | ob _ _ => simp [plD] at hd
  | int i =>
    simp at h
    by_cases h1 : lo ≤ i
    · simp [F_between, b_between, h, betw, h1]
    · simp [F_between, b_between, h, betw, h1]
  | _ =>
    simp at h
    simp [F_between, b_between, h, betw]
def isWi (nm : List Str) : D → Bool
  | .tup [p, s] => betw 1 99 p && isSay nm 8 s
  | _ => false
theorem is_wish_sp (nm : List Str) (hnm : nm.length ≤ 1000) (d : D) (hd : plD d = true) : F_is_wish [(false, d), (false, nmD nm)] = .ok (false, .bl (isWi nm d)) [some (false, d), some (false, nmD nm)] := by
  cases d with
  | scr _ => simp [plD] at hd
  | dct _ => simp [plD] at hd
  | obj _ _ => simp [plD] at hd
  | ob _ _ => simp [plD] at hd
  | tup xs =>
    have hp := plDs_all (by rw [plD] at hd; exact hd : plDs xs = true)
    match xs, hp with
    | [], _ => simp [F_is_wish, b_is_wish, isWi]
    | [x], _ => simp [F_is_wish, b_is_wish, isWi]
    | [p, s], hp =>
      have h1 := between_sp p 1 99 (hp p (by simp))
      have h2 : F_is_saying _ = _ := is_saying_sp nm hnm 8 24 s (by decide) (hp s (by simp))
      simp at h2
      cases e : betw 1 99 p with
      | true => rw [e] at h1; simp [F_is_wish, b_is_wish, isWi, h1, h2, e]
      | false => rw [e] at h1; simp [F_is_wish, b_is_wish, isWi, h1, e]
    | a :: b :: c :: r, _ =>
      have l3 : ¬ ((r.length : Int) + 1 + 1 + 1 = 2) := by omega
      simp [F_is_wish, b_is_wish, isWi, l3]
  | _ => simp [F_is_wish, b_is_wish, isWi]
end Lz
/-! a book -/
namespace Lz
open PySem PySem.Spec PyProof.Rows L2
def Say.free (ns : List Str) : Say → Bool
  | .lamp n => decide (n ∈ ns)
  | .cst _ => false
  | .un o s => if o = .bf then false else s.free ns
  | .bin _ s t => s.free ns || t.free ns
theorem Say.head_before (s : Say) : decide (s.head = "before") = (match s with | .un .bf _ => true | _ => false) := by
  cases s with
  | lamp n => rfl
  | cst b => cases b <;> rfl
  | un o s => cases o <;> rfl
  | bin o s t => cases o <;> rfl
theorem opIx_say (s : Say) : opIx s.toD (.int 0) = some (false, .str s.head) := by rw [Say.toD_eq]; simp
theorem opSl_say (s : Say) : opSl s.toD (some 1) none = some (false, .tup s.tail) := by rw [Say.toD_eq]; simp
theorem Say.not_lamp {s : Say} (h : ∀ n, s ≠ .lamp n) : ¬ s.head = "lamp" := by
  have := s.head_lamp
  cases s with
  | lamp n => exact absurd rfl (h n)
  | _ => simpa using this
theorem free_sp (ns : List Str) : ∀ (s : Say) (fuel : Nat), s.dep ≤ fuel → R_stands_free fuel [(false, s.toD), (false, nmD ns)] = .ok (false, .bl (s.free ns)) [some (false, s.toD), some (false, nmD ns)] := by
  intro s
  induction s with
  | lamp n =>
    intro fuel hf
    obtain ⟨fuel, rfl⟩ : ∃ f, fuel = f + 1 := ⟨fuel - 1, by simp only [Say.dep] at hf; omega⟩
    simp [R_stands_free, b_stands_free, Say.toD, nmD, inD_strs, Say.free]
  | cst b =>
    intro fuel hf
    obtain ⟨fuel, rfl⟩ : ∃ f, fuel = f + 1 := ⟨fuel - 1, by simp only [Say.dep] at hf; omega⟩
    have n1 := Say.not_lamp (s := .cst b) nofun
    have n2 : ¬ (Say.cst b).head = "before" := by have := (Say.cst b).head_before; simpa using this
    simp [R_stands_free, b_stands_free, opIx_say, n1, n2, parts_sp, Say.parts, blsD, Say.free]
  | un o s ih =>
    intro fuel hf
    obtain ⟨fuel, rfl⟩ : ∃ f, fuel = f + 1 := ⟨fuel - 1, by simp only [Say.dep] at hf; omega⟩
    have n1 := Say.not_lamp (s := .un o s) nofun
    simp only [Say.dep] at hf
    have h1 := ih fuel (by omega)
    have n2 := (Say.un o s).head_before
    cases o with
    | bf =>
      have n2' : (Say.un .bf s).head = "before" := by simpa using n2
      have n3 : ¬ (("before" : Str) = "lamp") := by decide
      have hix := opIx_say (.un .bf s)
      rw [n2'] at hix
      simp [R_stands_free, b_stands_free, hix, n3, Say.free]
    | _ =>
      have n2' : ¬ _ = ("before" : Str) := of_decide_eq_false n2
      simp [R_stands_free, b_stands_free, opIx_say, n1, n2', parts_sp, Say.parts, blsD, Say.free, h1]
  | bin o s t ih1 ih2 =>
    intro fuel hf
    obtain ⟨fuel, rfl⟩ : ∃ f, fuel = f + 1 := ⟨fuel - 1, by simp only [Say.dep] at hf; omega⟩
    have n1 := Say.not_lamp (s := .bin o s t) nofun
    simp only [Say.dep] at hf
    have h1 := ih1 fuel (by omega)
    have h2 := ih2 fuel (by omega)
    have n2 : ¬ (Say.bin o s t).head = "before" := by have := (Say.bin o s t).head_before; simpa using this
    simp [R_stands_free, b_stands_free, opIx_say, n1, n2, parts_sp, Say.parts, blsD, Say.free, h1, h2]
structure Book where
  foe : List Str
  fri : List Str
  pro : List Say
  mus : List Say
  wis : List (Nat × Say)
def wiD (w : Nat × Say) : D := .tup [.int w.1, w.2.toD]
def saysT (l : List Say) : D := .tup (l.map Say.toD)
def Book.toD (b : Book) : D := .tup [nmD b.foe, nmD b.fri, saysT b.pro, saysT b.mus, .tup (b.wis.map wiD)]
def Book.nm (b : Book) : List Str := b.foe ++ b.fri
def Book.says (b : Book) : List Say := b.pro ++ b.mus ++ b.wis.map (·.2)
def Book.pieces (b : Book) : List Say := b.says.foldl (fun m s => gath s m) []
structure Book.Form (b : Book) : Prop where
  nf : ∀ n ∈ b.foe, isNameS n = true
  nr : ∀ n ∈ b.fri, isNameS n = true
  f1 : 1 ≤ b.foe.length
  f2 : b.foe.length ≤ 2
  r1 : 1 ≤ b.fri.length
  r2 : b.fri.length ≤ 2
  nd : b.nm.Nodup
  p3 : b.pro.length ≤ 3
  pk : ∀ s ∈ b.pro, s.Over b.nm ∧ s.dep ≤ 8
  m3 : b.mus.length ≤ 3
  mq : ∀ s ∈ b.mus, s.Over b.nm ∧ s.dep ≤ 8
  w1 : 1 ≤ b.wis.length
  w5 : b.wis.length ≤ 5
  wk : ∀ w ∈ b.wis, 1 ≤ w.1 ∧ w.1 ≤ 99 ∧ w.2.Over b.nm ∧ w.2.dep ≤ 8
structure Book.Ok (b : Book) : Prop extends Book.Form b where
  fr : ∀ s ∈ b.pro, s.free b.fri = false
  pc : b.pieces.length ≤ 4
theorem isNameS_ok {n : Str} (h : isNameS n = true) : okStr n := by
  unfold isNameS at h
  simp only [Bool.and_eq_true] at h
  have h4 := h.2.2.2
  unfold okStr PyData.strOk
  rw [Array.all_eq_true']
  intro c hc
  have h5 := List.all_eq_true.mp h4 (letB c) (List.mem_map_of_mem (by simpa using hc))
  have h6 : c ∈ letters.cps.toList := of_decide_eq_true h5
  have h7 : ∀ c ∈ letters.cps.toList, c < 0x110000 := by decide +kernel
  exact decide_eq_true (h7 c h6)
theorem Book.Form.okn {b : Book} (h : b.Form) : ∀ n ∈ b.nm, okStr n := fun n hn => by
  rcases List.mem_append.mp hn with hn | hn
  · exact isNameS_ok (h.nf n hn)
  · exact isNameS_ok (h.nr n hn)
theorem Book.Form.sk {b : Book} (h : b.Form) : SaysOk b.nm 8 b.says := fun s hs => by
  rcases List.mem_append.mp hs with hs | hs
  · rcases List.mem_append.mp hs with hs | hs
    · exact h.pk s hs
    · exact h.mq s hs
  · obtain ⟨w, hw, rfl⟩ := List.mem_map.mp hs
    exact ⟨(h.wk w hw).2.2.1, (h.wk w hw).2.2.2⟩
theorem Book.Form.len {b : Book} (h : b.Form) : b.says.length ≤ 11 := by
  unfold Book.says
  rw [List.length_append, List.length_append, List.length_map]
  have := h.p3; have := h.m3; have := h.w5
  omega
theorem plD_nm (l : List Str) : plD (nmD l) = true := by
  show plD (.tup (l.map D.str)) = true
  rw [plD]
  exact plDs_of fun x hx => by
    obtain ⟨n, _, rfl⟩ := List.mem_map.mp hx
    rfl
theorem plD_says (l : List Say) : plD (saysT l) = true := by
  show plD (.tup (l.map Say.toD)) = true
  rw [plD]
  exact plDs_of fun x hx => by
    obtain ⟨n, _, rfl⟩ := List.mem_map.mp hx
    exact n.plD
theorem sayings_of_sp (b : Book) (h : b.Form) : F_sayings_of [(false, b.toD)] = .ok (false, saysT b.says) [some (false, b.toD)] := by
  have hcomp : ∀ x : Option T, compL [1] (gN 1) cT (sBin opIx (sVar 1) (sC (.int 1))) (b.wis.map wiD) [x, none] = .ok ((b.wis.map wiD).map fun d => match d with | .tup [_, s] => s | _ => .non) [x, none] := fun x =>
    compL_map rfl fun d hd => ⟨false, by
      obtain ⟨w, _, rfl⟩ := List.mem_map.mp hd
      simp [wiD]⟩
  have e1 : ((b.wis.map wiD).map fun d => match d with | .tup [_, s] => s | _ => .non) = (b.wis.map (·.2)).map Say.toD := by
    rw [List.map_map, List.map_map]
    rfl
  rw [e1] at hcomp
  have l1 := h.p3
  have l2 := h.m3
  have l3 := h.w5
  have l4 : b.pro.length + b.mus.length ≤ 16777216 := by omega
  have l5 : b.pro.length + b.mus.length + b.wis.length ≤ 16777216 := by omega
  simp only [Book.toD, saysT, Book.says]
  simp at hcomp
  simp [F_sayings_of, b_sayings_of, hcomp, l4, l5]
theorem foldl_gath_len : ∀ (l m : List Say), (l.foldl (fun m s => gath s m) m).length ≤ m.length + (l.map Say.cnt).sum
  | [], m => by simp
  | s :: l, m => by
    rw [List.foldl_cons, List.map_cons, List.sum_cons]
    have h1 := foldl_gath_len l (gath s m)
    have h2 := gath_len s m
    omega
theorem cnt_sum : ∀ (l : List Say), (∀ s ∈ l, s.dep ≤ 8) → (l.map Say.cnt).sum ≤ 256 * l.length
  | [], _ => by simp
  | s :: l, h => by
    rw [List.map_cons, List.sum_cons, List.length_cons]
    have h1 := cnt_sum l fun t ht => h t (List.mem_cons_of_mem _ ht)
    have h2 := s.cnt_le
    have h3 := h s List.mem_cons_self
    have h4 : 2 ^ s.dep ≤ 2 ^ 8 := Nat.pow_le_pow_right (by decide) h3
    omega
theorem SaysOk.mono {ns : List Str} {k k' : Nat} {l : List Say} (h : SaysOk ns k l) (e : k ≤ k') : SaysOk ns k' l := fun t ht => ⟨(h t ht).1, Nat.le_trans (h t ht).2 e⟩
theorem pieces_loop {ns : List Str} (hn : ∀ n ∈ ns, okStr n) (x : Option T) : ∀ (l m : List Say) (y : Option T), SaysOk ns 8 l → SaysOk ns 60 m → m.length + 256 * l.length < 16777216 →
    ∃ z, forL (gN 2) (xSeq (xExpr (sCallF F_gathered (sCons (sVar 2) (sCons (sVar 1) sNil)))) xNx) (l.map Say.toD) [x, some (true, .lst (m.map Say.toD)), y] = .ok .nx [x, some (true, .lst ((l.foldl (fun m s => gath s m) m).map Say.toD)), z]
  | [], m, y, _, _, _ => ⟨y, rfl⟩
  | s :: l, m, y, hl, hm, hz => by
    have hs := hl s List.mem_cons_self
    have h4 : 2 ^ s.dep ≤ 2 ^ 8 := Nat.pow_le_pow_right (by decide) hs.2
    have h5 := s.cnt_le
    rw [List.length_cons] at hz
    have h1 : F_gathered _ = _ := gathered_sp hn s 24 m (by omega) hs.1 (by omega) hm (by omega)
    have h2 := gath_len s m
    obtain ⟨z, ih⟩ := pieces_loop hn x l (gath s m) (some (false, s.toD)) (fun t ht => hl t (List.mem_cons_of_mem _ ht)) (hm.gath hs.1 (by omega)) (by omega)
    refine ⟨z, ?_⟩
    simp only [Lz.says] at h1
    simp [h1, ih]
theorem pieces_of_sp (b : Book) (h : b.Form) : F_pieces_of [(false, b.toD)] = .ok (true, Lz.says b.pieces) [some (false, b.toD)] := by
  have h1 := sayings_of_sp b h
  have hl := h.len
  obtain ⟨z, h2⟩ := pieces_loop h.okn (some (false, b.toD)) b.says [] none h.sk (fun t ht => by cases ht) (by simp; omega)
  simp only [saysT] at h1
  simp only [List.map_nil] at h2
  simp only [Lz.says, Book.pieces]
  simp [F_pieces_of, b_pieces_of, h1, h2]
end Lz
/-! what is a book -/
namespace Lz
open PySem PySem.Spec PyProof.Rows L2
theorem strsD_map : ∀ (l : List Str), strsD (l.map D.str) = some l
  | [] => rfl
  | d :: l => by
    show (strsD (l.map D.str)).map (d :: ·) = _
    rw [strsD_map l]
    rfl
theorem mfCount_nm (l : List Str) (z : Str) : mfCount (.tup (l.map D.str)) [.str z] = some (false, .int ((l.countP fun y => y == z : Nat) : Int)) := by
  show (strsD (l.map D.str)).map (fun ys => ((false, .int ((ys.countP fun y => y == z : Nat) : Int)) : T)) = _
  rw [strsD_map]
  rfl
def onceL (l : List Str) : Bool := l.all fun z => decide ((l.countP fun y => y == z) = 1)
theorem onceL_nodup {l : List Str} (h : l.Nodup) : onceL l = true := by
  unfold onceL
  rw [List.all_eq_true]
  intro z hz
  apply decide_eq_true
  have h1 : l.count z = 1 := by rw [List.Nodup.count h, if_pos hz]
  exact h1
theorem nodup_once {l : List Str} (h : onceL l = true) : l.Nodup := by
  unfold onceL at h
  rw [List.all_eq_true] at h
  rw [List.nodup_iff_count]
  intro z
  by_cases hz : z ∈ l
  · have h1 : l.count z = 1 := of_decide_eq_true (h z hz)
    omega
  · rw [List.count_eq_zero_of_not_mem hz]; omega
theorem count_comp (l : List Str) (d : D) :
    compL [2] (gN 2) cT (sBin opEq (sMt "tuple" mfCount (sVar 1) (sCons (sVar 2) sNil)) (sC (.int 1))) (l.map D.str) [some (false, d), some (false, .tup (l.map D.str)), none, none, none] = .ok ((l.map fun z => decide ((l.countP fun y => y == z) = 1)).map D.bl) [some (false, d), some (false, .tup (l.map D.str)), none, none, none] := by
  have : compL [2] (gN 2) cT (sBin opEq (sMt "tuple" mfCount (sVar 1) (sCons (sVar 2) sNil)) (sC (.int 1))) (l.map D.str) [some (false, d), some (false, .tup (l.map D.str)), none, none, none] = .ok ((l.map D.str).map fun d => match d with | .str z => D.bl (decide ((l.countP fun y => y == z) = 1)) | _ => .non) [some (false, d), some (false, .tup (l.map D.str)), none, none, none] := by
    refine compL_map rfl fun d hd => ⟨false, ?_⟩
    obtain ⟨z, _, rfl⟩ := List.mem_map.mp hd
    have e1 : ((((l.countP fun y => y == z : Nat) : Int)) = 1) ↔ (l.countP fun y => y == z) = 1 := by omega
    simp [mfCount_nm, e1]
  rw [this, List.map_map, List.map_map]
  rfl
section
variable {l1 l2 : List Str} {c u w : D}
/-- the first tests of the names -/
theorem book_bad0 (d : D) (hd : plD d = true) (hs : ∀ a e c u w, d = .tup [a, e, c, u, w] → (∀ xs, a = .tup xs → ∀ x ∈ xs, shortD x) ∧ (∀ xs, e = .tup xs → ∀ x ∈ xs, shortD x))
    (h : ∀ a e c u w, d = .tup [a, e, c, u, w] → areNm a = true → areNm e = true → False) : F_is_book [(false, d)] = .ok (false, .bl false) [some (false, d)] := by
  cases d with
  | scr _ => simp [plD] at hd
  | dct _ => simp [plD] at hd
  | obj _ _ => simp [plD] at hd
  | ob _ _ => simp [plD] at hd
  | tup xs =>
    have hp := plDs_all (by rw [plD] at hd; exact hd : plDs xs = true)
    by_cases h5 : xs.length = 5
    · match xs, h5, hp, hs, h with
      | [a, e, c, u, w], _, hp, hs, h =>
        have s := hs a e c u w rfl
        have h1 := are_names_sp a (hp a (by simp)) s.1
        have h2 := are_names_sp e (hp e (by simp)) s.2
        cases ea : areNm a with
        | false => rw [ea] at h1; simp [F_is_book, b_is_book, h1]
        | true =>
          cases ee : areNm e with
          | false => rw [ea] at h1; rw [ee] at h2; simp [F_is_book, b_is_book, h1, h2]
          | true => exact (h a e c u w rfl ea ee).elim
    · have h5' : ¬ (xs.length : Int) = 5 := by omega
      simp [F_is_book, b_is_book, h5']
  | _ => simp [F_is_book, b_is_book]
variable (hn1 : areNm (nmD l1) = true) (hn2 : areNm (nmD l2) = true)
theorem nm_short {l : List Str} (h : areNm (nmD l) = true) : ∀ xs, nmD l = .tup xs → ∀ x ∈ xs, shortD x := fun xs e x hx => by
  obtain ⟨l', e', hl, _⟩ := areNm_inv h
  rw [e'] at e
  cases e
  obtain ⟨n, hn, rfl⟩ := List.mem_map.mp hx
  have := hl n hn
  unfold isNameS at this
  simp only [Bool.and_eq_true, decide_eq_true_eq] at this
  show n.length ≤ 16777216
  omega
theorem nm_len {l : List Str} (h : areNm (nmD l) = true) : 1 ≤ l.length ∧ l.length ≤ 2 := by
  have h' : (decide (1 ≤ (l.map D.str).length) && (decide ((l.map D.str).length ≤ 2) && (l.map D.str).all isNameD)) = true := h
  simp only [Bool.and_eq_true, decide_eq_true_eq, List.length_map] at h'
  exact ⟨h'.1, h'.2.1⟩
include hn1 hn2
theorem book_bad1 (h : onceL (l1 ++ l2) = false) : F_is_book [(false, .tup [nmD l1, nmD l2, c, u, w])] = .ok (false, .bl false) [some (false, .tup [nmD l1, nmD l2, c, u, w])] := by
  have h1 := are_names_sp _ (plD_nm l1) (nm_short hn1)
  have h2 := are_names_sp _ (plD_nm l2) (nm_short hn2)
  rw [hn1] at h1
  rw [hn2] at h2
  have hc := count_comp (l1 ++ l2) (.tup [nmD l1, nmD l2, c, u, w])
  have hb := blsD_mapB ((l1 ++ l2).map fun z => decide (((l1 ++ l2).countP fun y => y == z) = 1))
  have ha : ((l1 ++ l2).map fun z => decide (((l1 ++ l2).countP fun y => y == z) = 1)).all id = false := by rw [List.all_map]; exact h
  generalize ((l1 ++ l2).map fun z => decide (((l1 ++ l2).countP fun y => y == z) = 1)) = bs at hc hb ha
  have n1 := nm_len hn1
  have n2 := nm_len hn2
  have len : l1.length + l2.length ≤ 16777216 := by omega
  rw [List.map_append] at hc
  simp only [nmD] at h1 h2 hc ⊢
  simp [F_is_book, b_is_book, h1, h2, len, hc, hb, ha]
theorem book_bad2 (hm : onceL (l1 ++ l2) = true) (hc : plD c = true) (hu : plD u = true) (h : (areSay (l1 ++ l2) 3 c && areSay (l1 ++ l2) 3 u) = false) :
    F_is_book [(false, .tup [nmD l1, nmD l2, c, u, w])] = .ok (false, .bl false) [some (false, .tup [nmD l1, nmD l2, c, u, w])] := by
  have h1 := are_names_sp _ (plD_nm l1) (nm_short hn1)
  have h2 := are_names_sp _ (plD_nm l2) (nm_short hn2)
  rw [hn1] at h1
  rw [hn2] at h2
  have hcc := count_comp (l1 ++ l2) (.tup [nmD l1, nmD l2, c, u, w])
  have hb := blsD_mapB ((l1 ++ l2).map fun z => decide (((l1 ++ l2).countP fun y => y == z) = 1))
  have ha : ((l1 ++ l2).map fun z => decide (((l1 ++ l2).countP fun y => y == z) = 1)).all id = true := by rw [List.all_map]; exact hm
  generalize ((l1 ++ l2).map fun z => decide (((l1 ++ l2).countP fun y => y == z) = 1)) = bs at hcc hb ha
  have n1 := nm_len hn1
  have n2 := nm_len hn2
  have len : l1.length + l2.length ≤ 16777216 := by omega
  have len2 : (l1 ++ l2).length ≤ 1000 := by rw [List.length_append]; omega
  have s1 := are_sayings_sp (l1 ++ l2) len2 3 c hc
  have s2 := are_sayings_sp (l1 ++ l2) len2 3 u hu
  rw [List.map_append] at hcc
  simp only [nmD, List.map_append] at h1 h2 hcc s1 s2 ⊢
  cases e1 : areSay (l1 ++ l2) 3 c with
  | false => rw [e1] at s1; simp at s1; simp [F_is_book, b_is_book, h1, h2, len, hcc, hb, ha, s1]
  | true =>
    rw [e1, Bool.true_and] at h
    rw [e1] at s1
    rw [h] at s2
    simp at s1 s2
    simp [F_is_book, b_is_book, h1, h2, len, hcc, hb, ha, s1, s2]
/-- the third test's names, and what stands behind -/
theorem book_bad3 (hm : onceL (l1 ++ l2) = true) (hc : plD c = true) (hu : plD u = true) (hw : plD w = true) (h : (areSay (l1 ++ l2) 3 c && areSay (l1 ++ l2) 3 u) = true) (h3 : ∀ xs, w = .tup xs → ¬ (1 ≤ xs.length ∧ xs.length ≤ 5)) :
    F_is_book [(false, .tup [nmD l1, nmD l2, c, u, w])] = .ok (false, .bl false) [some (false, .tup [nmD l1, nmD l2, c, u, w])] := by
  have h1 := are_names_sp _ (plD_nm l1) (nm_short hn1)
  have h2 := are_names_sp _ (plD_nm l2) (nm_short hn2)
  rw [hn1] at h1
  rw [hn2] at h2
  have hcc := count_comp (l1 ++ l2) (.tup [nmD l1, nmD l2, c, u, w])
  have hb := blsD_mapB ((l1 ++ l2).map fun z => decide (((l1 ++ l2).countP fun y => y == z) = 1))
  have ha : ((l1 ++ l2).map fun z => decide (((l1 ++ l2).countP fun y => y == z) = 1)).all id = true := by rw [List.all_map]; exact hm
  generalize ((l1 ++ l2).map fun z => decide (((l1 ++ l2).countP fun y => y == z) = 1)) = bs at hcc hb ha
  have n1 := nm_len hn1
  have n2 := nm_len hn2
  have len : l1.length + l2.length ≤ 16777216 := by omega
  have len2 : (l1 ++ l2).length ≤ 1000 := by rw [List.length_append]; omega
  have s1 := are_sayings_sp (l1 ++ l2) len2 3 c hc
  have s2 := are_sayings_sp (l1 ++ l2) len2 3 u hu
  rw [Bool.and_eq_true] at h
  rw [h.1] at s1
  rw [h.2] at s2
  rw [List.map_append] at hcc
  simp only [nmD, List.map_append] at h1 h2 hcc s1 s2 ⊢
  simp at s1 s2
  cases w with
  | scr _ => simp [plD] at hw
  | dct _ => simp [plD] at hw
  | obj _ _ => simp [plD] at hw
  | ob _ _ => simp [plD] at hw
  | tup xs =>
    have q := h3 xs rfl
    by_cases q1 : 1 ≤ xs.length
    · have q1' : (1 : Int) ≤ (xs.length : Int) := by omega
      have q2' : ¬ (xs.length : Int) ≤ 5 := by omega
      simp [F_is_book, b_is_book, h1, h2, len, hcc, hb, ha, s1, s2, q1', q2']
    · have q1' : ¬ (1 : Int) ≤ (xs.length : Int) := by omega
      simp [F_is_book, b_is_book, h1, h2, len, hcc, hb, ha, s1, s2, q1']
  | _ => simp [F_is_book, b_is_book, h1, h2, len, hcc, hb, ha, s1, s2]
theorem book_bad4 {xs : List D} (hm : onceL (l1 ++ l2) = true) (hc : plD c = true) (hu : plD u = true) (hw : plD (.tup xs) = true) (h : (areSay (l1 ++ l2) 3 c && areSay (l1 ++ l2) 3 u) = true) (h3 : 1 ≤ xs.length ∧ xs.length ≤ 5) (h4 : xs.all (isWi (l1 ++ l2)) = false) :
    F_is_book [(false, .tup [nmD l1, nmD l2, c, u, .tup xs])] = .ok (false, .bl false) [some (false, .tup [nmD l1, nmD l2, c, u, .tup xs])] := by
  have h1 := are_names_sp _ (plD_nm l1) (nm_short hn1)
  have h2 := are_names_sp _ (plD_nm l2) (nm_short hn2)
  rw [hn1] at h1
  rw [hn2] at h2
  have hcc := count_comp (l1 ++ l2) (.tup [nmD l1, nmD l2, c, u, .tup xs])
  have hb := blsD_mapB ((l1 ++ l2).map fun z => decide (((l1 ++ l2).countP fun y => y == z) = 1))
  have ha : ((l1 ++ l2).map fun z => decide (((l1 ++ l2).countP fun y => y == z) = 1)).all id = true := by rw [List.all_map]; exact hm
  generalize ((l1 ++ l2).map fun z => decide (((l1 ++ l2).countP fun y => y == z) = 1)) = bs at hcc hb ha
  have n1 := nm_len hn1
  have n2 := nm_len hn2
  have len : l1.length + l2.length ≤ 16777216 := by omega
  have len2 : (l1 ++ l2).length ≤ 1000 := by rw [List.length_append]; omega
  have s1 := are_sayings_sp (l1 ++ l2) len2 3 c hc
  have s2 := are_sayings_sp (l1 ++ l2) len2 3 u hu
  rw [Bool.and_eq_true] at h
  rw [h.1] at s1
  rw [h.2] at s2
  rw [List.map_append] at hcc
  have hwi := is_wish_sp (l1 ++ l2) len2
  have hp := plDs_all (by rw [plD] at hw; exact hw : plDs xs = true)
  simp only [nmD, List.map_append] at h1 h2 hcc s1 s2 hwi ⊢
  simp at s1 s2
  have q1' : (1 : Int) ≤ (xs.length : Int) := by omega
  have q2' : (xs.length : Int) ≤ 5 := by omega
  have hcomp : ∀ a : D, compL [3] (gN 3) cT (sCallF F_is_wish (sCons (sVar 3) (sCons (sVar 1) sNil))) xs [some (false, a), some (false, .tup (l1.map D.str ++ l2.map D.str)), none, none, none] = .ok (xs.map fun d => D.bl (isWi (l1 ++ l2) d)) [some (false, a), some (false, .tup (l1.map D.str ++ l2.map D.str)), none, none, none] := fun a =>
    compL_map (e := fun d => D.bl (isWi (l1 ++ l2) d)) rfl fun d hd' => ⟨false, by
      have := hwi d (hp d hd')
      simp [this]⟩
  have hb2 := blsD_map xs (isWi (l1 ++ l2))
  simp [F_is_book, b_is_book, h1, h2, len, hcc, hb, ha, s1, s2, q1', q2', hcomp, hb2, h4]
end
theorem isWi_wi {nm : List Str} {w : Nat × Say} (h1 : 1 ≤ w.1) (h2 : w.1 ≤ 99) (h3 : w.2.Over nm) (h4 : w.2.dep ≤ 8) : isWi nm (wiD w) = true := by
  show (betw 1 99 (.int w.1) && isSay nm 8 w.2.toD) = true
  rw [isSay_say nm w.2 8 h3, decide_eq_true h4, Bool.and_true]
  show (decide ((1 : Int) ≤ w.1) && decide ((w.1 : Int) ≤ 99)) = true
  rw [decide_eq_true (by omega), decide_eq_true (by omega)]
  rfl
theorem areSay_says {nm : List Str} {l : List Say} {m : Nat} (h : l.length ≤ m) (hk : ∀ s ∈ l, s.Over nm ∧ s.dep ≤ 8) : areSay nm m (saysT l) = true := by
  show (decide ((l.map Say.toD).length ≤ m) && (l.map Say.toD).all (isSay nm 8)) = true
  rw [List.length_map, decide_eq_true h, Bool.true_and, List.all_map]
  exact List.all_eq_true.mpr fun s hs => by
    show isSay nm 8 s.toD = true
    rw [isSay_say nm s 8 (hk s hs).1, decide_eq_true (hk s hs).2]
/-- a book of the right form: what the last tests tell -/
theorem is_book_form (b : Book) (hF : b.Form) : F_is_book [(false, b.toD)] = .ok (false, .bl (!(b.pro.any fun s => s.free b.fri) && decide (b.pieces.length ≤ 4))) [some (false, b.toD)] := by
  have hn1 := areNm_of hF.nf hF.f1 hF.f2
  have hn2 := areNm_of hF.nr hF.r1 hF.r2
  have h1 := are_names_sp _ (plD_nm b.foe) (nm_short hn1)
  have h2 := are_names_sp _ (plD_nm b.fri) (nm_short hn2)
  rw [hn1] at h1
  rw [hn2] at h2
  have hcc := count_comp (b.foe ++ b.fri) b.toD
  have hb := blsD_mapB ((b.foe ++ b.fri).map fun z => decide (((b.foe ++ b.fri).countP fun y => y == z) = 1))
  have ha : ((b.foe ++ b.fri).map fun z => decide (((b.foe ++ b.fri).countP fun y => y == z) = 1)).all id = true := by rw [List.all_map]; exact onceL_nodup hF.nd
  generalize ((b.foe ++ b.fri).map fun z => decide (((b.foe ++ b.fri).countP fun y => y == z) = 1)) = bs at hcc hb ha
  have n1 := nm_len hn1
  have n2 := nm_len hn2
  have len : b.foe.length + b.fri.length ≤ 16777216 := by omega
  have len2 : (b.foe ++ b.fri).length ≤ 1000 := by rw [List.length_append]; omega
  have s1 := are_sayings_sp (b.foe ++ b.fri) len2 3 _ (plD_says b.pro)
  have s2 := are_sayings_sp (b.foe ++ b.fri) len2 3 _ (plD_says b.mus)
  have a1 : areSay (b.foe ++ b.fri) 3 (saysT b.pro) = true := areSay_says hF.p3 hF.pk
  have a2 : areSay (b.foe ++ b.fri) 3 (saysT b.mus) = true := areSay_says hF.m3 hF.mq
  rw [a1] at s1
  rw [a2] at s2
  rw [List.map_append] at hcc
  have hwi := is_wish_sp (b.foe ++ b.fri) len2
  have hpw : ∀ w ∈ b.wis, plD (wiD w) = true := fun w _ => by
    show plD (.tup [.int w.1, w.2.toD]) = true
    simp [plD, plDs, Say.plD]
  have hps := pieces_of_sp b hF
  have q1' : (1 : Int) ≤ (b.wis.length : Int) := by have := hF.w1; omega
  have q2' : (b.wis.length : Int) ≤ 5 := by have := hF.w5; omega
  simp only [nmD, saysT, List.map_append] at s1 s2 hwi
  simp at s1 s2
  have hcomp : ∀ a : D, compL [3] (gN 3) cT (sCallF F_is_wish (sCons (sVar 3) (sCons (sVar 1) sNil))) (b.wis.map wiD) [some (false, a), some (false, .tup (b.foe.map D.str ++ b.fri.map D.str)), none, none, none] = .ok ((b.wis.map wiD).map fun d => D.bl true) [some (false, a), some (false, .tup (b.foe.map D.str ++ b.fri.map D.str)), none, none, none] := fun a =>
    compL_map (e := fun d => D.bl true) rfl fun d hd' => ⟨false, by
      obtain ⟨w, hw, rfl⟩ := List.mem_map.mp hd'
      have h := hwi (wiD w) (hpw w hw)
      have k := hF.wk w hw
      have e := isWi_wi k.1 k.2.1 k.2.2.1 k.2.2.2
      unfold Book.nm at e
      rw [e] at h
      simp [h]⟩
  have hb2 := blsD_map (b.wis.map wiD) (fun _ => true)
  have hall : (((b.wis.map wiD).map fun _ => true)).all id = true := by rw [List.all_map]; exact List.all_eq_true.mpr fun _ _ => rfl
  have hcomp2 : ∀ a : D, compL [4] (gN 4) cT (sCallF F_stands_free (sCons (sVar 4) (sCons (sBin opIx (sVar 0) (sC (.int 1))) sNil))) (b.pro.map Say.toD) [some (false, b.toD), some (false, a), none, none, none] = .ok ((b.pro.map fun s => s.free b.fri).map D.bl) [some (false, b.toD), some (false, a), none, none, none] := fun a => by
    have : compL [4] (gN 4) cT (sCallF F_stands_free (sCons (sVar 4) (sCons (sBin opIx (sVar 0) (sC (.int 1))) sNil))) (b.pro.map Say.toD) [some (false, b.toD), some (false, a), none, none, none] = .ok (b.pro.map fun s => D.bl (s.free b.fri)) [some (false, b.toD), some (false, a), none, none, none] := by
      have gen : ∀ l : List Say, (∀ s ∈ l, s.dep ≤ 8) → compL [4] (gN 4) cT (sCallF F_stands_free (sCons (sVar 4) (sCons (sBin opIx (sVar 0) (sC (.int 1))) sNil))) (l.map Say.toD) [some (false, b.toD), some (false, a), none, none, none] = .ok (l.map fun s => D.bl (s.free b.fri)) [some (false, b.toD), some (false, a), none, none, none] := by
        intro l
        induction l with
        | nil => intro _; rfl
        | cons s l ih =>
          intro hl
          have h1 : F_stands_free _ = _ := free_sp b.fri s 24 (by have := hl s List.mem_cons_self; omega)
          have ih' := ih fun t ht => hl t (List.mem_cons_of_mem _ ht)
          have ix1 : opIx b.toD (.int 1) = some (false, nmD b.fri) := rfl
          simp [h1, ih', ix1]
      exact gen b.pro fun s hs => (hF.pk s hs).2
    rw [this, List.map_map]
    rfl
  have hb3 := blsD_mapB (b.pro.map fun s => s.free b.fri)
  have hany : (b.pro.map fun s => s.free b.fri).any id = b.pro.any fun s => s.free b.fri := by rw [List.any_map]; rfl
  generalize hbt : b.toD = bd at hcc hcomp2 hps
  have ix0 : opIx bd (.int 0) = some (false, .tup (b.foe.map D.str)) := by rw [← hbt]; rfl
  have ix1 : opIx bd (.int 1) = some (false, .tup (b.fri.map D.str)) := by rw [← hbt]; rfl
  have ix2 : opIx bd (.int 2) = some (false, .tup (b.pro.map Say.toD)) := by rw [← hbt]; rfl
  have ix3 : opIx bd (.int 3) = some (false, .tup (b.mus.map Say.toD)) := by rw [← hbt]; rfl
  have ix4 : opIx bd (.int 4) = some (false, .tup (b.wis.map wiD)) := by rw [← hbt]; rfl
  have il : cfLen [bd] = some (false, .int 5) := by rw [← hbt]; rfl
  have it : isiD "tuple" bd = some (false, .bl true) := by rw [← hbt]; rfl
  simp only [nmD] at h1 h2 hcc
  generalize (b.pro.map fun s => s.free b.fri) = fb at hcomp2 hb3 hany
  rw [← hany]
  simp only [Lz.says] at hps
  simp only [List.map_map] at hcomp hb2 hall
  have hat : (b.wis.all fun _ => true) = true := List.all_eq_true.mpr fun _ _ => rfl
  cases hfa : fb.any id with
  | true => simp [F_is_book, b_is_book, it, il, ix0, ix1, ix2, ix3, ix4, h1, h2, len, hcc, hb, ha, s1, s2, q1', q2', hcomp, hb2, hall, hat, hcomp2, hb3, hfa]
  | false =>
    have e4 : ((b.pieces.length : Int) ≤ 4) ↔ b.pieces.length ≤ 4 := by omega
    simp [F_is_book, b_is_book, it, il, ix0, ix1, ix2, ix3, ix4, h1, h2, len, hcc, hb, ha, s1, s2, q1', q2', hcomp, hb2, hall, hat, hcomp2, hb3, hfa, hps, e4]
theorem is_book_ok (b : Book) (h : b.Ok) : F_is_book [(false, b.toD)] = .ok (false, .bl true) [some (false, b.toD)] := by
  rw [is_book_form b h.toForm]
  have e1 : (b.pro.any fun s => s.free b.fri) = false := by
    rw [List.any_eq_false]
    intro s hs
    rw [h.fr s hs]
    exact Bool.false_ne_true
  rw [e1, decide_eq_true h.pc]
  rfl
theorem checked_ok (b : Book) (h : b.Ok) : F_checked [(false, b.toD)] = .ok (false, b.toD) [some (false, b.toD)] := by
  simp [F_checked, b_checked, is_book_ok b h]
theorem checked_bad (d : D) (h : F_is_book [(false, d)] = .ok (false, .bl false) [some (false, d)]) : F_checked [(false, d)] = .exc "NoBook" := by
  simp [F_checked, b_checked, h]
end Lz
/-! books as a law draws them -/
namespace Lz
open PySem PySem.Spec PyProof.Rows L2
theorem Say.Over.mono {ns ms : List Str} (h : ∀ n ∈ ns, n ∈ ms) : ∀ {s : Say}, s.Over ns → s.Over ms
  | .lamp n, o => h n o
  | .cst _, _ => trivial
  | .un _ s, o => Say.Over.mono (s := s) h o
  | .bin _ s t, o => ⟨Say.Over.mono (s := s) h o.1, Say.Over.mono (s := t) h o.2⟩
theorem Say.free_of {ns ms : List Str} (h : ∀ n ∈ ns, n ∉ ms) : ∀ {s : Say}, s.Over ns → s.free ms = false
  | .lamp n, o => decide_eq_false (h n o)
  | .cst _, _ => rfl
  | .un o s, ov => by
    show (if o = .bf then false else s.free ms) = false
    rw [Say.free_of (s := s) h ov]
    split <;> rfl
  | .bin _ s t, o => by
    show (s.free ms || t.free ms) = false
    rw [Say.free_of (s := s) h o.1, Say.free_of (s := t) h o.2]
    rfl
theorem promise_sp (ns : List Int) (hl : ns.length ≤ 63) (foe fri : List Str) (hf : 1 ≤ foe.length ∧ foe.length ≤ 4) (hn : (foe ++ fri).length ≤ 4) (hnd : (foe ++ fri).Nodup) (m left : Nat) : ∃ (s : Say) (m' l' : Nat), s.Over (foe ++ fri) ∧ s.dep ≤ 4 ∧ s.npast + l' ≤ left ∧ s.free fri = false ∧
    F_l_promise [(false, .scr ns), (true, .lst [.int m]), (false, nmD foe), (false, nmD (foe ++ fri)), (true, .lst [.int left])] =
      .ok (false, s.toD) [some (false, .scr ns), some (true, .lst [.int m']), some (false, nmD foe), some (false, nmD (foe ++ fri)), some (true, .lst [.int l'])] := by
  have hne : foe ≠ [] := fun e => by rw [e] at hf; simp at hf
  have hne2 : foe ++ fri ≠ [] := fun e => hne (List.append_eq_nil_iff.mp e).1
  have dj : ∀ n ∈ foe, n ∉ fri := fun n h1 h2 => (List.nodup_append.mp hnd).2.2 n h1 n h2 rfl
  obtain ⟨s1, m1, l1, o1, d1, p1, h1⟩ := saying_sp ns hl foe hne (by omega) 1 m 0 24 (by decide)
  have h1' : F_l_saying _ = _ := h1
  have f1 := Say.free_of dj o1
  have o1' : s1.Over (foe ++ fri) := Say.Over.mono (fun n h => List.mem_append_left _ h) o1
  simp only [nmD] at h1'
  simp at h1'
  by_cases hL : 0 < left
  · have hL' : (0 : Int) < left := by omega
    have h2 := next_sp ns hl m1 2 (by decide)
    have l2 := mixed_lt ns (m1 + 1) 2 (by decide)
    generalize mixed ns (m1 + 1) 2 = k at h2 l2
    have hk : k = 0 ∨ k = 1 := by omega
    rcases hk with rfl | rfl
    · simp at h2
      refine ⟨s1, m1 + 1, left, o1', by omega, by omega, f1, ?_⟩
      simp [F_l_promise, b_l_promise, nmD, h1', hL', hL, h2]
    · simp at h2
      obtain ⟨s2, m2, l2, o2, d2, p2, h3⟩ := saying_sp ns hl (foe ++ fri) hne2 hn 1 (m1 + 1) 0 24 (by decide)
      have h3' : F_l_saying _ = _ := h3
      simp only [nmD] at h3'
      simp at h3'
      have h4 := next_sp ns hl m2 3 (by decide)
      have l4 := mixed_lt ns (m2 + 1) 3 (by decide)
      generalize mixed ns (m2 + 1) 3 = k at h4 l4
      have c1 : ((left - 1 : Nat) : Int) = (left : Int) - 1 := by omega
      have hk : k = 0 ∨ k = 1 ∨ k = 2 := by omega
      rcases hk with rfl | rfl | rfl
      · simp at h4
        refine ⟨.bin .th (.un .bf s2) s1, m2 + 1, left - 1, ⟨o2, o1'⟩, by simp only [Say.dep]; omega, by simp only [Say.npast, U1.past, U2.past]; omega, by simp [Say.free, f1], ?_⟩
        rw [c1]
        simp [F_l_promise, b_l_promise, nmD, h1', hL', hL, h2, h3', h4, Say.toD, U1.str, U2.str]
      · simp at h4
        refine ⟨.bin .or (.un .bf s2) s1, m2 + 1, left - 1, ⟨o2, o1'⟩, by simp only [Say.dep]; omega, by simp only [Say.npast, U1.past, U2.past]; omega, by simp [Say.free, f1], ?_⟩
        rw [c1]
        simp [F_l_promise, b_l_promise, nmD, h1', hL', hL, h2, h3', h4, Say.toD, U1.str, U2.str]
      · simp at h4
        refine ⟨.bin .sm (.un .bf s2) s1, m2 + 1, left - 1, ⟨o2, o1'⟩, by simp only [Say.dep]; omega, by simp only [Say.npast, U1.past, U2.past]; omega, by simp [Say.free, f1], ?_⟩
        rw [c1]
        simp [F_l_promise, b_l_promise, nmD, h1', hL', hL, h2, h3', h4, Say.toD, U1.str, U2.str]
  · have hL' : ¬ (0 : Int) < left := by omega
    refine ⟨s1, m1, left, o1', by omega, by omega, f1, ?_⟩
    simp [F_l_promise, b_l_promise, nmD, h1', hL', hL]
/-- a book as a law draws it -/
structure GB (pieces musts : Nat) (b : Book) : Prop where
  gn : GNm b.foe b.fri
  w1 : 1 ≤ b.wis.length
  w3 : b.wis.length ≤ 3
  wk : ∀ w ∈ b.wis, 1 ≤ w.1 ∧ w.1 ≤ 99 ∧ w.2.Over b.nm ∧ w.2.dep ≤ 3
  ml : b.mus.length ≤ musts
  mq : ∀ s ∈ b.mus, s.Over b.nm ∧ s.dep ≤ 3
  p1 : b.pro.length ≤ 1
  pk : ∀ s ∈ b.pro, s.Over b.nm ∧ s.dep ≤ 4 ∧ s.free b.fri = false
  pp : (b.says.map Say.npast).sum ≤ pieces
theorem rngL_cons {a : Int} {n : Nat} : rngL a 1 (n + 1) = .int a :: rngL (a + 1) 1 n := rfl
section
variable {ns : List Int} (hl : ns.length ≤ 63) {foe fri : List Str} (hn : (foe ++ fri).length ≤ 4) (hne : foe ++ fri ≠ [])
include hl hn hne
theorem wishes_loop (y1 y2 y3 y5 y6 : Option T) : ∀ (k : Nat) (a : Int) (m left : Nat) (done : List (Nat × Say)) (x1 x2 : Option T), done.length + k ≤ 100 → ∃ (m' l' : Nat) (made : List (Nat × Say)) (z1 z2 : Option T),
    made.length = k ∧ (∀ w ∈ made, 1 ≤ w.1 ∧ w.1 ≤ 99 ∧ w.2.Over (foe ++ fri) ∧ w.2.dep ≤ 3) ∧ (made.map fun w => w.2.npast).sum + l' ≤ left ∧
    forL (gN 10) (xSeq (xSt 11 (sBin opAdd (sC (.int 1)) (sCallF F_l_next (sCons (sVar 0) (sCons (sVar 4) (sCons (sBin opIx (sLst (sCons (sC (.int 3)) (sCons (sC (.int 9)) (sCons (sC (.int 99)) sNil)))) (sCallF F_l_next (sCons (sVar 0) (sCons (sVar 4) (sCons (sC (.int 3)) sNil))))) sNil)))))) (xSeq (xExpr (sMu opApp (sVar 9) (sCons (sTup (sCons (sVar 11) (sCons (sCallF F_l_saying (sCons (sVar 0) (sCons (sVar 4) (sCons (sVar 7) (sCons (sC (.int 2)) (sCons (sVar 8) sNil)))))) sNil))) sNil))) xNx))
      (rngL a 1 k) [some (false, .scr ns), y1, y2, y3, some (true, .lst [.int m]), y5, y6, some (false, .tup (foe.map D.str ++ fri.map D.str)), some (true, .lst [.int left]), some (true, .lst (done.map wiD)), x1, x2, none, none] =
      .ok .nx [some (false, .scr ns), y1, y2, y3, some (true, .lst [.int m']), y5, y6, some (false, .tup (foe.map D.str ++ fri.map D.str)), some (true, .lst [.int l']), some (true, .lst ((done ++ made).map wiD)), z1, z2, none, none] := by
  intro k
  induction k with
  | zero =>
    intro a m left done x1 x2 _
    exact ⟨m, left, [], x1, x2, rfl, by simp, by simp, by simp [rngL]⟩
  | succ k ih =>
    intro a m left done x1 x2 hz
    have h1 := next_sp ns hl m 3 (by decide)
    have l1 := mixed_lt ns (m + 1) 3 (by decide)
    generalize mixed ns (m + 1) 3 = c at h1 l1
    have hc : ∃ P : Nat, (atI [D.int 3, D.int 9, D.int 99] (c : Int) = some (.int P)) ∧ 0 < P ∧ P ≤ 99 := by
      have : c = 0 ∨ c = 1 ∨ c = 2 := by omega
      rcases this with rfl | rfl | rfl
      · exact ⟨3, rfl, by decide, by decide⟩
      · exact ⟨9, rfl, by decide, by decide⟩
      · exact ⟨99, rfl, by decide, by decide⟩
    obtain ⟨P, hP, hP0, hP99⟩ := hc
    have h2 := next_sp ns hl (m + 1) P hP0
    have l2 := mixed_lt ns (m + 1 + 1) P hP0
    generalize mixed ns (m + 1 + 1) P = c2 at h2 l2
    obtain ⟨s, m3, l3, o3, d3, p3, h3⟩ := saying_sp ns hl (foe ++ fri) hne hn 2 (m + 1 + 1) left 24 (by decide)
    have h3' : F_l_saying _ = _ := h3
    obtain ⟨m', l', made, z1, z2, e1, e2, e3, e4⟩ := ih (a + 1) m3 l3 (done ++ [(1 + c2, s)]) (some (false, .int a)) (some (false, .int (1 + c2 : Nat))) (by simp; omega)
    refine ⟨m', l', (1 + c2, s) :: made, z1, z2, by simp [e1], ?_, ?_, ?_⟩
    · simp only [List.forall_mem_cons]
      exact ⟨⟨by omega, by omega, o3, d3⟩, e2⟩
    · rw [List.map_cons, List.sum_cons]
      show s.npast + _ + l' ≤ left
      omega
    · simp only [nmD, List.map_append] at h3'
      simp at h1 h2 h3'
      have hd : done.length < 16777216 := by omega
      rw [List.append_assoc] at e4
      simp [wiD] at e4
      simp [rngL_cons, h1, hP, h2, h3', hd, wiD, e4]
theorem musts_loop (y1 y2 y3 y5 y6 y9 y11 y12 y13 : Option T) : ∀ (k : Nat) (a : Int) (m left : Nat), ∃ (m' l' : Nat) (made : List Say),
    made.length = k ∧ (∀ s ∈ made, s.Over (foe ++ fri) ∧ s.dep ≤ 3) ∧ (made.map Say.npast).sum + l' ≤ left ∧
    compL [10] (gN 10) cT (sCallF F_l_saying (sCons (sVar 0) (sCons (sVar 4) (sCons (sVar 7) (sCons (sC (.int 2)) (sCons (sVar 8) sNil))))))
      (rngL a 1 k) [some (false, .scr ns), y1, y2, y3, some (true, .lst [.int m]), y5, y6, some (false, .tup (foe.map D.str ++ fri.map D.str)), some (true, .lst [.int left]), y9, none, y11, y12, y13] =
      .ok (made.map Say.toD) [some (false, .scr ns), y1, y2, y3, some (true, .lst [.int m']), y5, y6, some (false, .tup (foe.map D.str ++ fri.map D.str)), some (true, .lst [.int l']), y9, none, y11, y12, y13] := by
  intro k
  induction k with
  | zero =>
    intro a m left
    exact ⟨m, left, [], rfl, by simp, by simp, by simp [rngL]⟩
  | succ k ih =>
    intro a m left
    obtain ⟨s, m3, l3, o3, d3, p3, h3⟩ := saying_sp ns hl (foe ++ fri) hne hn 2 m left 24 (by decide)
    have h3' : F_l_saying _ = _ := h3
    obtain ⟨m', l', made, e1, e2, e3, e4⟩ := ih (a + 1) m3 l3
    refine ⟨m', l', s :: made, by simp [e1], ?_, ?_, ?_⟩
    · simp only [List.forall_mem_cons]
      exact ⟨⟨o3, d3⟩, e2⟩
    · rw [List.map_cons, List.sum_cons]
      omega
    · simp only [nmD, List.map_append] at h3'
      simp at h3'
      simp [rngL_cons, h3', e4]
theorem promises_loop (hf : 1 ≤ foe.length) (hnd : (foe ++ fri).Nodup) (y1 y2 y3 y6 y9 y11 y12 y13 : Option T) : ∀ (k : Nat) (a : Int) (m left : Nat), ∃ (m' l' : Nat) (made : List Say),
    made.length = k ∧ (∀ s ∈ made, s.Over (foe ++ fri) ∧ s.dep ≤ 4 ∧ s.free fri = false) ∧ (made.map Say.npast).sum + l' ≤ left ∧
    compL [10] (gN 10) cT (sCallF F_l_promise (sCons (sVar 0) (sCons (sVar 4) (sCons (sVar 5) (sCons (sVar 7) (sCons (sVar 8) sNil))))))
      (rngL a 1 k) [some (false, .scr ns), y1, y2, y3, some (true, .lst [.int m]), some (false, .tup (foe.map D.str)), y6, some (false, .tup (foe.map D.str ++ fri.map D.str)), some (true, .lst [.int left]), y9, none, y11, y12, y13] =
      .ok (made.map Say.toD) [some (false, .scr ns), y1, y2, y3, some (true, .lst [.int m']), some (false, .tup (foe.map D.str)), y6, some (false, .tup (foe.map D.str ++ fri.map D.str)), some (true, .lst [.int l']), y9, none, y11, y12, y13] := by
  intro k
  induction k with
  | zero =>
    intro a m left
    exact ⟨m, left, [], rfl, by simp, by simp, by simp [rngL]⟩
  | succ k ih =>
    intro a m left
    obtain ⟨s, m3, l3, o3, d3, p3, f3, h3⟩ := promise_sp ns hl foe fri ⟨hf, by rw [List.length_append] at hn; omega⟩ hn hnd m left
    obtain ⟨m', l', made, e1, e2, e3, e4⟩ := ih (a + 1) m3 l3
    refine ⟨m', l', s :: made, by simp [e1], ?_, ?_, ?_⟩
    · simp only [List.forall_mem_cons]
      exact ⟨⟨o3, d3, f3⟩, e2⟩
    · rw [List.map_cons, List.sum_cons]
      omega
    · simp only [nmD, List.map_append] at h3
      simp [rngL_cons, h3, e4]
end
theorem nmS (g : Prop) : True := trivial
theorem GNm.names {foe fri : List Str} (g : GNm foe fri) : (∀ n ∈ foe, isNameS n = true) ∧ ∀ n ∈ fri, isNameS n = true := GNm.all (P := fun foe fri => (∀ n ∈ foe, isNameS n = true) ∧ ∀ n ∈ fri, isNameS n = true) (by decide +kernel) g
theorem addP_np (s : Say) (m : List Say) : (addP s m).length ≤ m.length + (if s.isP = true then 1 else 0) := by
  unfold addP
  by_cases h : s.isP = true ∧ s ∉ m
  · rw [if_pos h, if_pos h.1]; simp
  · rw [if_neg h]; omega
theorem gath_np : ∀ (s : Say) (m : List Say), (gath s m).length ≤ m.length + s.npast
  | .lamp n, m => by have := addP_np (.lamp n) m; simpa [gath, Say.npast, Say.isP] using this
  | .cst n, m => by have := addP_np (.cst n) m; simpa [gath, Say.npast, Say.isP] using this
  | .un o s, m => by
    have h1 := gath_np s (addP (.un o s) m)
    have h2 := addP_np (.un o s) m
    have h3 : (if (Say.un o s).isP = true then 1 else 0) = o.past := by cases o <;> rfl
    simp only [gath, Say.npast]
    omega
  | .bin o s t, m => by
    have h1 := gath_np s (addP (.bin o s t) m)
    have h2 := addP_np (.bin o s t) m
    have h4 := gath_np t (gath s (addP (.bin o s t) m))
    have h3 : (if (Say.bin o s t).isP = true then 1 else 0) = o.past := by cases o <;> rfl
    simp only [gath, Say.npast]
    omega
theorem foldl_gath_np : ∀ (l m : List Say), (l.foldl (fun m s => gath s m) m).length ≤ m.length + (l.map Say.npast).sum
  | [], m => by simp
  | s :: l, m => by
    rw [List.foldl_cons, List.map_cons, List.sum_cons]
    have h1 := foldl_gath_np l (gath s m)
    have h2 := gath_np s m
    omega
theorem GB.ok {pieces musts : Nat} {b : Book} (g : GB pieces musts b) (hp : pieces ≤ 4) (hm : musts ≤ 3) : b.Ok := by
  have n := g.gn.names
  have l := g.gn.len
  refine ⟨⟨n.1, n.2, l.1, l.2.1, l.2.2.1, l.2.2.2, g.gn.nodup, by have := g.p1; omega, fun s hs => ⟨(g.pk s hs).1, by have := (g.pk s hs).2.1; omega⟩, Nat.le_trans g.ml hm, fun s hs => ⟨(g.mq s hs).1, by have := (g.mq s hs).2; omega⟩, g.w1, by have := g.w3; omega, fun w hw => ⟨(g.wk w hw).1, (g.wk w hw).2.1, (g.wk w hw).2.2.1, by have := (g.wk w hw).2.2.2; omega⟩⟩, fun s hs => (g.pk s hs).2.2, ?_⟩
  have h1 := foldl_gath_np b.says []
  have h2 := g.pp
  unfold Book.pieces
  simp at h1
  omega
theorem book_sp (ns : List Int) (hl : ns.length ≤ 63) (at_ pieces musts : Nat) (hmu : musts ≤ 1000) : ∃ b : Book, GB pieces musts b ∧
    F_l_book [(false, .scr ns), (false, .int at_), (false, .int pieces), (false, .int musts)] = .ok (false, b.toD) [some (false, .scr ns), some (false, .int at_), some (false, .int pieces), some (false, .int musts)] := by
  obtain ⟨foe, fri, g, h1⟩ := names_sp ns hl at_
  have gl := g.len
  have hne : foe ++ fri ≠ [] := fun e => by have := congrArg List.length e; rw [List.length_append] at this; simp only [List.length_nil] at this; omega
  have hn4 : (foe ++ fri).length ≤ 4 := by rw [List.length_append]; omega
  have h2 := next_sp ns hl (at_ + 3) (pieces + 1) (by omega)
  have l2 := mixed_lt ns (at_ + 3 + 1) (pieces + 1) (by omega)
  generalize mixed ns (at_ + 3 + 1) (pieces + 1) = left at h2 l2
  have h3 := next_sp ns hl (at_ + 3 + 1) 3 (by omega)
  have l3 := mixed_lt ns (at_ + 3 + 1 + 1) 3 (by omega)
  generalize mixed ns (at_ + 3 + 1 + 1) 3 = kw at h3 l3
  obtain ⟨m4, l4, wis, z1, z2, e1, e2, e3, e4⟩ := wishes_loop hl hn4 hne (some (false, .int at_)) (some (false, .int pieces)) (some (false, .int musts)) (some (false, nmD foe)) (some (false, nmD fri)) (1 + kw) 0 (at_ + 3 + 1 + 1) left [] none none (by simp; omega)
  have h5 := next_sp ns hl m4 (musts + 1) (by omega)
  have l5 := mixed_lt ns (m4 + 1) (musts + 1) (by omega)
  generalize mixed ns (m4 + 1) (musts + 1) = km at h5 l5
  obtain ⟨m6, l6, mus, f1, f2, f3, f4⟩ := musts_loop hl hn4 hne (some (false, .int at_)) (some (false, .int pieces)) (some (false, .int musts)) (some (false, nmD foe)) (some (false, nmD fri)) (some (true, .lst (wis.map wiD))) z2 none none km 0 (m4 + 1) l4
  have h7 := next_sp ns hl m6 2 (by omega)
  have l7 := mixed_lt ns (m6 + 1) 2 (by omega)
  generalize mixed ns (m6 + 1) 2 = kp at h7 l7
  obtain ⟨m8, l8, pro, g1, g2, g3, g4⟩ := promises_loop hl hn4 hne gl.1 g.nodup (some (false, .int at_)) (some (false, .int pieces)) (some (false, .int musts)) (some (false, nmD fri)) (some (true, .lst (wis.map wiD))) z2 (some (true, .lst (mus.map Say.toD))) none kp 0 (m6 + 1) l6
  refine ⟨⟨foe, fri, pro, mus, wis⟩, ⟨g, ?_, ?_, e2, ?_, f2, ?_, g2, ?_⟩, ?_⟩
  · show 1 ≤ wis.length; omega
  · show wis.length ≤ 3; omega
  · show mus.length ≤ musts; omega
  · show pro.length ≤ 1; omega
  · show ((pro ++ mus ++ wis.map (·.2)).map Say.npast).sum ≤ pieces
    rw [List.map_append, List.map_append, List.sum_append, List.sum_append, List.map_map]
    have : (wis.map (Say.npast ∘ fun x => x.2)).sum = (wis.map fun w => w.2.npast).sum := rfl
    omega
  · have len : foe.length + fri.length ≤ 16777216 := by omega
    have c1 : ((1 + kw : Nat) : Int) = 1 + (kw : Int) := by omega
    have r1 : -4611686018427387904 ≤ (1 : Int) + (kw : Int) := by omega
    have r2 : (1 : Int) + (kw : Int) ≤ 16777216 := by omega
    have r3 : ((1 : Int) + (kw : Int)).toNat = 1 + kw := by omega
    have r4 : -4611686018427387904 ≤ (km : Int) := by omega
    have r5 : (km : Int) ≤ 16777216 := by omega
    have r6 : -4611686018427387904 ≤ (kp : Int) := by omega
    have r7 : (kp : Int) ≤ 16777216 := by omega
    simp only [nmD] at h1 e4 f4 g4
    simp at h1 h2 h3 h5 h7 e4
    push_cast at f4 g4
    simp only [Book.toD, nmD, saysT]
    have k1 : pro.length ≤ 16777216 := by omega
    have k2 : mus.length ≤ 16777216 := by omega
    have k3 : wis.length ≤ 16777216 := by omega
    cases z1 <;> simp [F_l_book, b_l_book, h1, h2, h3, h5, h7, len, r1, r2, r3, r4, r5, r6, r7, e4, f4, g4, k1, k2, k3]
end Lz
/-! plays: what a saying says at a turn -/
namespace Lz
open PySem PySem.Spec PyProof.Rows L2
/-! words apart -/
@[simp] theorem sne_lamp_yes : (("lamp" : Str) = "yes") = False := eq_false (by decide)
@[simp] theorem sne_lamp_no : (("lamp" : Str) = "no") = False := eq_false (by decide)
@[simp] theorem sne_lamp_not : (("lamp" : Str) = "not") = False := eq_false (by decide)
@[simp] theorem sne_lamp_and : (("lamp" : Str) = "and") = False := eq_false (by decide)
@[simp] theorem sne_lamp_or : (("lamp" : Str) = "or") = False := eq_false (by decide)
@[simp] theorem sne_lamp_then : (("lamp" : Str) = "then") = False := eq_false (by decide)
@[simp] theorem sne_lamp_same : (("lamp" : Str) = "same") = False := eq_false (by decide)
@[simp] theorem sne_lamp_before : (("lamp" : Str) = "before") = False := eq_false (by decide)
@[simp] theorem sne_lamp_once : (("lamp" : Str) = "once") = False := eq_false (by decide)
@[simp] theorem sne_lamp_sofar : (("lamp" : Str) = "sofar") = False := eq_false (by decide)
@[simp] theorem sne_lamp_since : (("lamp" : Str) = "since") = False := eq_false (by decide)
@[simp] theorem sne_yes_lamp : (("yes" : Str) = "lamp") = False := eq_false (by decide)
@[simp] theorem sne_yes_no : (("yes" : Str) = "no") = False := eq_false (by decide)
@[simp] theorem sne_yes_not : (("yes" : Str) = "not") = False := eq_false (by decide)
@[simp] theorem sne_yes_and : (("yes" : Str) = "and") = False := eq_false (by decide)
@[simp] theorem sne_yes_or : (("yes" : Str) = "or") = False := eq_false (by decide)
@[simp] theorem sne_yes_then : (("yes" : Str) = "then") = False := eq_false (by decide)
@[simp] theorem sne_yes_same : (("yes" : Str) = "same") = False := eq_false (by decide)
@[simp] theorem sne_yes_before : (("yes" : Str) = "before") = False := eq_false (by decide)
@[simp] theorem sne_yes_once : (("yes" : Str) = "once") = False := eq_false (by decide)
@[simp] theorem sne_yes_sofar : (("yes" : Str) = "sofar") = False := eq_false (by decide)
@[simp] theorem sne_yes_since : (("yes" : Str) = "since") = False := eq_false (by decide)
@[simp] theorem sne_no_lamp : (("no" : Str) = "lamp") = False := eq_false (by decide)
@[simp] theorem sne_no_yes : (("no" : Str) = "yes") = False := eq_false (by decide)
@[simp] theorem sne_no_not : (("no" : Str) = "not") = False := eq_false (by decide)
@[simp] theorem sne_no_and : (("no" : Str) = "and") = False := eq_false (by decide)
@[simp] theorem sne_no_or : (("no" : Str) = "or") = False := eq_false (by decide)
@[simp] theorem sne_no_then : (("no" : Str) = "then") = False := eq_false (by decide)
@[simp] theorem sne_no_same : (("no" : Str) = "same") = False := eq_false (by decide)
@[simp] theorem sne_no_before : (("no" : Str) = "before") = False := eq_false (by decide)
@[simp] theorem sne_no_once : (("no" : Str) = "once") = False := eq_false (by decide)
@[simp] theorem sne_no_sofar : (("no" : Str) = "sofar") = False := eq_false (by decide)
@[simp] theorem sne_no_since : (("no" : Str) = "since") = False := eq_false (by decide)
@[simp] theorem sne_not_lamp : (("not" : Str) = "lamp") = False := eq_false (by decide)
@[simp] theorem sne_not_yes : (("not" : Str) = "yes") = False := eq_false (by decide)
@[simp] theorem sne_not_no : (("not" : Str) = "no") = False := eq_false (by decide)
@[simp] theorem sne_not_and : (("not" : Str) = "and") = False := eq_false (by decide)
@[simp] theorem sne_not_or : (("not" : Str) = "or") = False := eq_false (by decide)
@[simp] theorem sne_not_then : (("not" : Str) = "then") = False := eq_false (by decide)
@[simp] theorem sne_not_same : (("not" : Str) = "same") = False := eq_false (by decide)
@[simp] theorem sne_not_before : (("not" : Str) = "before") = False := eq_false (by decide)
@[simp] theorem sne_not_once : (("not" : Str) = "once") = False := eq_false (by decide)
@[simp] theorem sne_not_sofar : (("not" : Str) = "sofar") = False := eq_false (by decide)
@[simp] theorem sne_not_since : (("not" : Str) = "since") = False := eq_false (by decide)
@[simp] theorem sne_and_lamp : (("and" : Str) = "lamp") = False := eq_false (by decide)
@[simp] theorem sne_and_yes : (("and" : Str) = "yes") = False := eq_false (by decide)
@[simp] theorem sne_and_no : (("and" : Str) = "no") = False := eq_false (by decide)
@[simp] theorem sne_and_not : (("and" : Str) = "not") = False := eq_false (by decide)
@[simp] theorem sne_and_or : (("and" : Str) = "or") = False := eq_false (by decide)
@[simp] theorem sne_and_then : (("and" : Str) = "then") = False := eq_false (by decide)
@[simp] theorem sne_and_same : (("and" : Str) = "same") = False := eq_false (by decide)
@[simp] theorem sne_and_before : (("and" : Str) = "before") = False := eq_false (by decide)
@[simp] theorem sne_and_once : (("and" : Str) = "once") = False := eq_false (by decide)
@[simp] theorem sne_and_sofar : (("and" : Str) = "sofar") = False := eq_false (by decide)
@[simp] theorem sne_and_since : (("and" : Str) = "since") = False := eq_false (by decide)
@[simp] theorem sne_or_lamp : (("or" : Str) = "lamp") = False := eq_false (by decide)
@[simp] theorem sne_or_yes : (("or" : Str) = "yes") = False := eq_false (by decide)
@[simp] theorem sne_or_no : (("or" : Str) = "no") = False := eq_false (by decide)
@[simp] theorem sne_or_not : (("or" : Str) = "not") = False := eq_false (by decide)
@[simp] theorem sne_or_and : (("or" : Str) = "and") = False := eq_false (by decide)
@[simp] theorem sne_or_then : (("or" : Str) = "then") = False := eq_false (by decide)
@[simp] theorem sne_or_same : (("or" : Str) = "same") = False := eq_false (by decide)
@[simp] theorem sne_or_before : (("or" : Str) = "before") = False := eq_false (by decide)
@[simp] theorem sne_or_once : (("or" : Str) = "once") = False := eq_false (by decide)
@[simp] theorem sne_or_sofar : (("or" : Str) = "sofar") = False := eq_false (by decide)
@[simp] theorem sne_or_since : (("or" : Str) = "since") = False := eq_false (by decide)
@[simp] theorem sne_then_lamp : (("then" : Str) = "lamp") = False := eq_false (by decide)
@[simp] theorem sne_then_yes : (("then" : Str) = "yes") = False := eq_false (by decide)
@[simp] theorem sne_then_no : (("then" : Str) = "no") = False := eq_false (by decide)
@[simp] theorem sne_then_not : (("then" : Str) = "not") = False := eq_false (by decide)
@[simp] theorem sne_then_and : (("then" : Str) = "and") = False := eq_false (by decide)
@[simp] theorem sne_then_or : (("then" : Str) = "or") = False := eq_false (by decide)
@[simp] theorem sne_then_same : (("then" : Str) = "same") = False := eq_false (by decide)
@[simp] theorem sne_then_before : (("then" : Str) = "before") = False := eq_false (by decide)
@[simp] theorem sne_then_once : (("then" : Str) = "once") = False := eq_false (by decide)
@[simp] theorem sne_then_sofar : (("then" : Str) = "sofar") = False := eq_false (by decide)
@[simp] theorem sne_then_since : (("then" : Str) = "since") = False := eq_false (by decide)
@[simp] theorem sne_same_lamp : (("same" : Str) = "lamp") = False := eq_false (by decide)
@[simp] theorem sne_same_yes : (("same" : Str) = "yes") = False := eq_false (by decide)
@[simp] theorem sne_same_no : (("same" : Str) = "no") = False := eq_false (by decide)
@[simp] theorem sne_same_not : (("same" : Str) = "not") = False := eq_false (by decide)
@[simp] theorem sne_same_and : (("same" : Str) = "and") = False := eq_false (by decide)
@[simp] theorem sne_same_or : (("same" : Str) = "or") = False := eq_false (by decide)
@[simp] theorem sne_same_then : (("same" : Str) = "then") = False := eq_false (by decide)
@[simp] theorem sne_same_before : (("same" : Str) = "before") = False := eq_false (by decide)
@[simp] theorem sne_same_once : (("same" : Str) = "once") = False := eq_false (by decide)
@[simp] theorem sne_same_sofar : (("same" : Str) = "sofar") = False := eq_false (by decide)
@[simp] theorem sne_same_since : (("same" : Str) = "since") = False := eq_false (by decide)
@[simp] theorem sne_before_lamp : (("before" : Str) = "lamp") = False := eq_false (by decide)
@[simp] theorem sne_before_yes : (("before" : Str) = "yes") = False := eq_false (by decide)
@[simp] theorem sne_before_no : (("before" : Str) = "no") = False := eq_false (by decide)
@[simp] theorem sne_before_not : (("before" : Str) = "not") = False := eq_false (by decide)
@[simp] theorem sne_before_and : (("before" : Str) = "and") = False := eq_false (by decide)
@[simp] theorem sne_before_or : (("before" : Str) = "or") = False := eq_false (by decide)
@[simp] theorem sne_before_then : (("before" : Str) = "then") = False := eq_false (by decide)
@[simp] theorem sne_before_same : (("before" : Str) = "same") = False := eq_false (by decide)
@[simp] theorem sne_before_once : (("before" : Str) = "once") = False := eq_false (by decide)
@[simp] theorem sne_before_sofar : (("before" : Str) = "sofar") = False := eq_false (by decide)
@[simp] theorem sne_before_since : (("before" : Str) = "since") = False := eq_false (by decide)
@[simp] theorem sne_once_lamp : (("once" : Str) = "lamp") = False := eq_false (by decide)
@[simp] theorem sne_once_yes : (("once" : Str) = "yes") = False := eq_false (by decide)
@[simp] theorem sne_once_no : (("once" : Str) = "no") = False := eq_false (by decide)
@[simp] theorem sne_once_not : (("once" : Str) = "not") = False := eq_false (by decide)
@[simp] theorem sne_once_and : (("once" : Str) = "and") = False := eq_false (by decide)
@[simp] theorem sne_once_or : (("once" : Str) = "or") = False := eq_false (by decide)
@[simp] theorem sne_once_then : (("once" : Str) = "then") = False := eq_false (by decide)
@[simp] theorem sne_once_same : (("once" : Str) = "same") = False := eq_false (by decide)
@[simp] theorem sne_once_before : (("once" : Str) = "before") = False := eq_false (by decide)
@[simp] theorem sne_once_sofar : (("once" : Str) = "sofar") = False := eq_false (by decide)
@[simp] theorem sne_once_since : (("once" : Str) = "since") = False := eq_false (by decide)
@[simp] theorem sne_sofar_lamp : (("sofar" : Str) = "lamp") = False := eq_false (by decide)
@[simp] theorem sne_sofar_yes : (("sofar" : Str) = "yes") = False := eq_false (by decide)
@[simp] theorem sne_sofar_no : (("sofar" : Str) = "no") = False := eq_false (by decide)
@[simp] theorem sne_sofar_not : (("sofar" : Str) = "not") = False := eq_false (by decide)
@[simp] theorem sne_sofar_and : (("sofar" : Str) = "and") = False := eq_false (by decide)
@[simp] theorem sne_sofar_or : (("sofar" : Str) = "or") = False := eq_false (by decide)
@[simp] theorem sne_sofar_then : (("sofar" : Str) = "then") = False := eq_false (by decide)
@[simp] theorem sne_sofar_same : (("sofar" : Str) = "same") = False := eq_false (by decide)
@[simp] theorem sne_sofar_before : (("sofar" : Str) = "before") = False := eq_false (by decide)
@[simp] theorem sne_sofar_once : (("sofar" : Str) = "once") = False := eq_false (by decide)
@[simp] theorem sne_sofar_since : (("sofar" : Str) = "since") = False := eq_false (by decide)
@[simp] theorem sne_since_lamp : (("since" : Str) = "lamp") = False := eq_false (by decide)
@[simp] theorem sne_since_yes : (("since" : Str) = "yes") = False := eq_false (by decide)
@[simp] theorem sne_since_no : (("since" : Str) = "no") = False := eq_false (by decide)
@[simp] theorem sne_since_not : (("since" : Str) = "not") = False := eq_false (by decide)
@[simp] theorem sne_since_and : (("since" : Str) = "and") = False := eq_false (by decide)
@[simp] theorem sne_since_or : (("since" : Str) = "or") = False := eq_false (by decide)
@[simp] theorem sne_since_then : (("since" : Str) = "then") = False := eq_false (by decide)
@[simp] theorem sne_since_same : (("since" : Str) = "same") = False := eq_false (by decide)
@[simp] theorem sne_since_before : (("since" : Str) = "before") = False := eq_false (by decide)
@[simp] theorem sne_since_once : (("since" : Str) = "once") = False := eq_false (by decide)
@[simp] theorem sne_since_sofar : (("since" : Str) = "sofar") = False := eq_false (by decide)
def setD (s : List Bool) : D := .tup (s.map D.bl)
def playD (p : List (List Bool)) : D := .lst (p.map setD)
def acc (f : Nat → Bool → Bool) (b : Bool) : Nat → Bool
  | 0 => b
  | k + 1 => f k (acc f b k)
def U2.op : U2 → Bool → Bool → Bool
  | .an, a, b => a && b
  | .or, a, b => a || b
  | .th, a, b => b || !a
  | .sm, a, b => decide (a = b)
  | .sn, _, _ => false
def iX (nm : List Str) (n : Str) : Nat := (fstAt n nm 0).getD 0
/-- what a saying says at turn k of a play -/
def tvS (nm : List Str) (p : List (List Bool)) : Say → Nat → Bool
  | .lamp n, k => (p.getD k []).getD (iX nm n) false
  | .cst b, _ => b
  | .un .nt s, k => !tvS nm p s k
  | .un .bf s, k => decide (0 < k) && tvS nm p s (k - 1)
  | .un .on s, k => acc (fun j a => tvS nm p s j || a) false (k + 1)
  | .un .sf s, k => acc (fun j a => tvS nm p s j && a) true (k + 1)
  | .bin .sn s t, k => acc (fun j a => tvS nm p t j || (tvS nm p s j && a)) false (k + 1)
  | .bin .an s t, k => tvS nm p s k && tvS nm p t k
  | .bin .or s t, k => tvS nm p s k || tvS nm p t k
  | .bin .th s t, k => tvS nm p t k || !tvS nm p s k
  | .bin .sm s t, k => decide (tvS nm p s k = tvS nm p t k)
theorem acc_congr {f g : Nat → Bool → Bool} {b : Bool} : ∀ {n : Nat}, (∀ k, k < n → ∀ a, f k a = g k a) → acc f b n = acc g b n
  | 0, _ => rfl
  | n + 1, h => by
    show f n (acc f b n) = g n (acc g b n)
    rw [acc_congr (n := n) fun k hk a => h k (by omega) a, h n (by omega)]
/-- only the turns up to k count -/
theorem tvS_take (nm : List Str) (p : List (List Bool)) : ∀ (s : Say) (n k : Nat), k < n → tvS nm (p.take n) s k = tvS nm p s k
  | .lamp m, n, k, h => by
    simp only [tvS, List.getD_eq_getElem?_getD, List.getElem?_take, if_pos h]
  | .cst b, n, k, h => rfl
  | .un .nt s, n, k, h => by simp only [tvS]; rw [tvS_take nm p s n k h]
  | .un .bf s, n, k, h => by simp only [tvS]; rw [tvS_take nm p s n (k - 1) (by omega)]
  | .un .on s, n, k, h => acc_congr fun j hj a => by rw [tvS_take nm p s n j (by omega)]
  | .un .sf s, n, k, h => acc_congr fun j hj a => by rw [tvS_take nm p s n j (by omega)]
  | .bin .sn s t, n, k, h => acc_congr fun j hj a => by rw [tvS_take nm p s n j (by omega), tvS_take nm p t n j (by omega)]
  | .bin .an s t, n, k, h => by simp only [tvS]; rw [tvS_take nm p s n k h, tvS_take nm p t n k h]
  | .bin .or s t, n, k, h => by simp only [tvS]; rw [tvS_take nm p s n k h, tvS_take nm p t n k h]
  | .bin .th s t, n, k, h => by simp only [tvS]; rw [tvS_take nm p s n k h, tvS_take nm p t n k h]
  | .bin .sm s t, n, k, h => by simp only [tvS]; rw [tvS_take nm p s n k h, tvS_take nm p t n k h]
def rowD (n : Nat) (f : Nat → Bool) : D := .lst ((List.range n).map fun k => .bl (f k))
theorem rowD_at {n k : Nat} {f : Nat → Bool} (h : k < n) : opIx (rowD n f) (.int k) = some (false, .bl (f k)) := by
  unfold rowD
  rw [opIx_lst, atI_lt (by simpa using h)]
  simp
theorem joined_not {n k : Nat} {f : Nat → Bool} (h : k < n) : F_joined [(false, .str "not"), (true, .lst [rowD n f]), (false, .int k)] = .ok (false, .bl (!f k)) [some (false, .str "not"), some (true, .lst [rowD n f]), some (false, .int k)] := by
  have e := rowD_at (f := f) h
  simp [F_joined, b_joined, e]
theorem joined_bin {n k : Nat} {f g : Nat → Bool} (o : U2) (ho : o ≠ .sn) (h : k < n) : F_joined [(false, .str o.str), (true, .lst [rowD n f, rowD n g]), (false, .int k)] = .ok (false, .bl (o.op (f k) (g k))) [some (false, .str o.str), some (true, .lst [rowD n f, rowD n g]), some (false, .int k)] := by
  have e := rowD_at (f := f) h
  have e2 := rowD_at (f := g) h
  cases o with
  | sn => exact absurd rfl ho
  | an =>
    cases hf : f k <;> cases hg : g k <;> rw [hf] at e <;> rw [hg] at e2 <;> simp [F_joined, b_joined, e, e2, U2.str, U2.op]
  | or =>
    cases hf : f k <;> cases hg : g k <;> rw [hf] at e <;> rw [hg] at e2 <;> simp [F_joined, b_joined, e, e2, U2.str, U2.op]
  | th =>
    cases hf : f k <;> cases hg : g k <;> rw [hf] at e <;> rw [hg] at e2 <;> simp [F_joined, b_joined, e, e2, U2.str, U2.op]
  | sm =>
    cases hf : f k <;> cases hg : g k <;> rw [hf] at e <;> rw [hg] at e2 <;> simp [F_joined, b_joined, e, e2, U2.str, U2.op]
theorem atI_last {α : Type} {l : List α} {x : α} : atI (l ++ [x]) (-1) = some x := by
  unfold atI
  have e : ixN (l ++ [x]).length (-1) = some l.length := by
    unfold ixN
    simp
    omega
  rw [e]
  simp
theorem accRow {f : Nat → Bool → Bool} {b : Bool} (n : Nat) : D.bl b :: (List.range n).map (fun j => D.bl (acc f b (j + 1))) = (List.range n).map (fun j => D.bl (acc f b j)) ++ [.bl (acc f b n)] := by
  have h : D.bl b :: (List.range n).map (fun j => D.bl (acc f b (j + 1))) = (List.range (n + 1)).map (fun j => D.bl (acc f b j)) := by
    rw [List.range_succ_eq_map]
    simp [acc]
  rw [h, List.range_succ]
  simp
theorem accNext {f : Nat → Bool → Bool} {b : Bool} (n : Nat) : (List.range n).map (fun j => D.bl (acc f b (j + 1))) ++ [.bl (f n (acc f b n))] = (List.range (n + 1)).map (fun j => D.bl (acc f b (j + 1))) := by
  rw [List.range_succ]
  simp [acc]
/-- a loop over turns that adds to a row -/
theorem row_loop {F : Env → R Fl} {h : Str} {rows : D} {n : Nat} {f : Nat → Bool → Bool} {b : Bool}
    (step : ∀ k, k < n → ∀ x4, ∃ y4, F [some (false, .str h), some (true, rows), some (true, .lst ((List.range k).map fun j => D.bl (acc f b (j + 1)))), some (false, .int k), x4] = .ok .nx [some (false, .str h), some (true, rows), some (true, .lst ((List.range (k + 1)).map fun j => D.bl (acc f b (j + 1)))), some (false, .int k), y4]) :
    ∀ (m k : Nat) (x3 x4 : Option T), k + m = n → ∃ y3 y4, forL (gN 3) F (rngL k 1 m) [some (false, .str h), some (true, rows), some (true, .lst ((List.range k).map fun j => D.bl (acc f b (j + 1)))), x3, x4] = .ok .nx [some (false, .str h), some (true, rows), some (true, .lst ((List.range n).map fun j => D.bl (acc f b (j + 1)))), y3, y4]
  | 0, k, x3, x4, hk => by
    have : k = n := by omega
    subst this
    exact ⟨x3, x4, by simp [rngL]⟩
  | m + 1, k, x3, x4, hk => by
    obtain ⟨z4, h1⟩ := step k (by omega) x4
    obtain ⟨y3, y4, h2⟩ := row_loop step m (k + 1) (some (false, .int k)) z4 (by omega)
    simp only [Int.natCast_add, Int.natCast_one] at h2
    exact ⟨y3, y4, by rw [rngL_cons]; simp [h1, h2]⟩
def pastB : Env → R Fl := (xSeq (xSt 4 (sBin opAdd (sLst (sCons (sBin opEq (sVar 0) (sC (.str "sofar"))) sNil)) (sVar 2))) (xSeq (xIf (sB (sBin opEq (sVar 0) (sC (.str "once")))) (xSeq (xExpr (sMu opApp (sVar 2) (sCons (sOr (sB (sBin opIx (sBin opIx (sVar 1) (sC (.int 0))) (sVar 3))) (sBin opIx (sVar 4) (sUn opNeg (sC (.int 1))))) sNil))) xNx) (xSeq (xIf (sB (sBin opEq (sVar 0) (sC (.str "sofar")))) (xSeq (xExpr (sMu opApp (sVar 2) (sCons (sAnd (sB (sBin opIx (sBin opIx (sVar 1) (sC (.int 0))) (sVar 3))) (sBin opIx (sVar 4) (sUn opNeg (sC (.int 1))))) sNil))) xNx) (xSeq (xExpr (sMu opApp (sVar 2) (sCons (sOr (sB (sBin opIx (sBin opIx (sVar 1) (sC (.int 1))) (sVar 3))) (sAnd (sB (sBin opIx (sBin opIx (sVar 1) (sC (.int 0))) (sVar 3))) (sBin opIx (sVar 4) (sUn opNeg (sC (.int 1)))))) sNil))) xNx)) xNx)) xNx))
theorem past_before {n : Nat} {f : Nat → Bool} (hn : n ≤ 10000) : ∃ o, F_past_row [(false, .str "before"), (true, .lst [rowD n f])] = .ok (o, .lst (.bl false :: ((List.range n).map fun k => D.bl (f k)).dropLast)) [some (false, .str "before"), some (true, .lst [rowD n f])] := by
  refine ⟨true, ?_⟩
  have q : 1 + (n - 1) ≤ 16777216 := by omega
  simp [F_past_row, b_past_row, rowD, cut_back, q]
theorem past_once_step {n : Nat} {f : Nat → Bool} (hn : n ≤ 10000) : ∀ k, k < n → ∀ x4, ∃ y4, pastB [some (false, .str "once"), some (true, .lst [rowD n f]), some (true, .lst ((List.range k).map fun j => D.bl (acc (fun j a => f j || a) false (j + 1)))), some (false, .int k), x4] = .ok .nx [some (false, .str "once"), some (true, .lst [rowD n f]), some (true, .lst ((List.range (k + 1)).map fun j => D.bl (acc (fun j a => f j || a) false (j + 1)))), some (false, .int k), y4] := by
    intro k hk x4
    have e0 := rowD_at (f := f) hk
    have q : 1 + k ≤ 16777216 := by omega
    have q2 : k < 16777216 := by omega
    have nx := accNext (f := fun j a => f j || a) (b := false) k
    have ro := accRow (f := fun j a => f j || a) (b := false) k
    refine ⟨some (true, .lst (D.bl false :: (List.range k).map fun j => D.bl (acc (fun j a => f j || a) false (j + 1)))), ?_⟩
    rw [← nx]
    cases h0 : f k <;> rw [h0] at e0 <;> simp [pastB, q, q2, ro, atI_last, e0, h0]
theorem past_once {n : Nat} {f : Nat → Bool} (hn : n ≤ 10000) : F_past_row [(false, .str "once"), (true, .lst [rowD n f])] = .ok (true, rowD n fun k => acc (fun j a => f j || a) false (k + 1)) [some (false, .str "once"), some (true, .lst [rowD n f])] := by
  obtain ⟨y3, y4, h⟩ := row_loop (past_once_step (f := f) hn) n 0 none none (by omega)
  have q1 : n ≤ 16777216 := by omega
  have hl : opIx (.lst [rowD n f]) (.int 0) = some (false, .lst ((List.range n).map fun k => .bl (f k))) := rfl
  simp at h

  unfold pastB at h
  have q3 : (n : Int) ≤ 16777216 := by omega
  simp [F_past_row, b_past_row, q1, q3, rowD]
  simp only [rowD] at h
  rw [h]
  simp
theorem past_sofar_step {n : Nat} {f : Nat → Bool} (hn : n ≤ 10000) : ∀ k, k < n → ∀ x4, ∃ y4, pastB [some (false, .str "sofar"), some (true, .lst [rowD n f]), some (true, .lst ((List.range k).map fun j => D.bl (acc (fun j a => f j && a) true (j + 1)))), some (false, .int k), x4] = .ok .nx [some (false, .str "sofar"), some (true, .lst [rowD n f]), some (true, .lst ((List.range (k + 1)).map fun j => D.bl (acc (fun j a => f j && a) true (j + 1)))), some (false, .int k), y4] := by
    intro k hk x4
    have e0 := rowD_at (f := f) hk
    have q : 1 + k ≤ 16777216 := by omega
    have q2 : k < 16777216 := by omega
    have nx := accNext (f := fun j a => f j && a) (b := true) k
    have ro := accRow (f := fun j a => f j && a) (b := true) k
    refine ⟨some (true, .lst (D.bl true :: (List.range k).map fun j => D.bl (acc (fun j a => f j && a) true (j + 1)))), ?_⟩
    rw [← nx]
    cases h0 : f k <;> rw [h0] at e0 <;> simp [pastB, q, q2, ro, atI_last, e0, h0]
theorem past_sofar {n : Nat} {f : Nat → Bool} (hn : n ≤ 10000) : F_past_row [(false, .str "sofar"), (true, .lst [rowD n f])] = .ok (true, rowD n fun k => acc (fun j a => f j && a) true (k + 1)) [some (false, .str "sofar"), some (true, .lst [rowD n f])] := by
  obtain ⟨y3, y4, h⟩ := row_loop (past_sofar_step (f := f) hn) n 0 none none (by omega)
  have q1 : n ≤ 16777216 := by omega
  have hl : opIx (.lst [rowD n f]) (.int 0) = some (false, .lst ((List.range n).map fun k => .bl (f k))) := rfl
  simp at h

  unfold pastB at h
  have q3 : (n : Int) ≤ 16777216 := by omega
  simp [F_past_row, b_past_row, q1, q3, rowD]
  simp only [rowD] at h
  rw [h]
  simp
theorem past_since_step {n : Nat} {f g : Nat → Bool} (hn : n ≤ 10000) : ∀ k, k < n → ∀ x4, ∃ y4, pastB [some (false, .str "since"), some (true, .lst [rowD n f, rowD n g]), some (true, .lst ((List.range k).map fun j => D.bl (acc (fun j a => g j || (f j && a)) false (j + 1)))), some (false, .int k), x4] = .ok .nx [some (false, .str "since"), some (true, .lst [rowD n f, rowD n g]), some (true, .lst ((List.range (k + 1)).map fun j => D.bl (acc (fun j a => g j || (f j && a)) false (j + 1)))), some (false, .int k), y4] := by
    intro k hk x4
    have e0 := rowD_at (f := f) hk
    have e1 := rowD_at (f := g) hk
    have q : 1 + k ≤ 16777216 := by omega
    have q2 : k < 16777216 := by omega
    have nx := accNext (f := fun j a => g j || (f j && a)) (b := false) k
    have ro := accRow (f := fun j a => g j || (f j && a)) (b := false) k
    refine ⟨some (true, .lst (D.bl false :: (List.range k).map fun j => D.bl (acc (fun j a => g j || (f j && a)) false (j + 1)))), ?_⟩
    rw [← nx]
    cases h0 : f k <;> cases h1 : g k <;> rw [h0] at e0 <;> rw [h1] at e1 <;> simp [pastB, q, q2, ro, atI_last, e0, h0, e1, h1]
theorem past_since {n : Nat} {f g : Nat → Bool} (hn : n ≤ 10000) : F_past_row [(false, .str "since"), (true, .lst [rowD n f, rowD n g])] = .ok (true, rowD n fun k => acc (fun j a => g j || (f j && a)) false (k + 1)) [some (false, .str "since"), some (true, .lst [rowD n f, rowD n g])] := by
  obtain ⟨y3, y4, h⟩ := row_loop (past_since_step (f := f) (g := g) hn) n 0 none none (by omega)
  have q1 : n ≤ 16777216 := by omega
  have hl : opIx (.lst [rowD n f, rowD n g]) (.int 0) = some (false, .lst ((List.range n).map fun k => .bl (f k))) := rfl
  simp at h

  unfold pastB at h
  have q3 : (n : Int) ≤ 16777216 := by omega
  simp [F_past_row, b_past_row, q1, q3, rowD]
  simp only [rowD] at h
  rw [h]
  simp
end Lz
namespace Lz
open PySem PySem.Spec PyProof.Rows L2
theorem fstAt_mem {z : Str} : ∀ {ys : List Str} (n : Nat), z ∈ ys → ∃ j, fstAt z ys n = some (n + j) ∧ j < ys.length ∧ ys[j]? = some z
  | y :: ys, n, h => by
    unfold fstAt
    by_cases e : y = z
    · exact ⟨0, by simp [e], by simp, by simp [e]⟩
    · rw [if_neg e]
      have hm : z ∈ ys := by
        rcases List.mem_cons.mp h with h | h
        · exact absurd h.symm e
        · exact h
      obtain ⟨j, h1, h2, h3⟩ := fstAt_mem (ys := ys) (n + 1) hm
      exact ⟨j + 1, by rw [h1]; congr 1; omega, by simpa using h2, by simpa using h3⟩
theorem iX_ok {nm : List Str} {n : Str} (h : n ∈ nm) : fstAt n nm 0 = some (iX nm n) ∧ iX nm n < nm.length := by
  obtain ⟨j, h1, h2, h3⟩ := fstAt_mem 0 h
  have e : iX nm n = j := by unfold iX; rw [h1]; simp
  rw [e]
  exact ⟨by rw [h1]; simp, h2⟩
theorem mfIndex_nm {nm : List Str} {n : Str} (h : n ∈ nm) : mfIndex (nmD nm) [.str n] = some (false, .int (iX nm n)) := by
  show (strsD (nm.map D.str)).bind _ = _
  rw [strsD_map, Option.bind_some, (iX_ok h).1]
  rfl
@[simp] theorem isTy_nm {nm : List Str} : isTy "tuple" (nmD nm) = true := rfl
theorem setD_at {s : List Bool} {k : Nat} (h : k < s.length) : opIx (setD s) (.int k) = some (false, .bl (s.getD k false)) := by
  unfold setD
  rw [opIx_tup, atI_lt (by simpa using h)]
  simp [List.getD_eq_getElem?_getD, List.getElem?_eq_getElem h]
def PlayOk (n : Nat) (p : List (List Bool)) : Prop := (∀ s ∈ p, s.length = n) ∧ p.length ≤ 1000
theorem rowD_map {α : Type} (p : List α) (g : α → Bool) (f : Nat → Bool) (h : ∀ k (hk : k < p.length), f k = g p[k]) : rowD p.length f = .lst (p.map fun x => .bl (g x)) := by
  unfold rowD
  congr 1
  refine List.ext_getElem (by simp) fun k h1 h2 => ?_
  simp only [List.getElem_map, List.getElem_range]
  rw [h k (by simpa using h1)]
theorem compL_rng {i : Nat} {f : Env → R XV} {ρ : Env} {e : Nat → D} (h0 : gt ρ i = none) : ∀ (m a : Nat), (∀ k, a ≤ k → k < a + m → ∃ o, f (pt ρ i (some (false, .int k))) = .ok (.v o (e k)) (pt ρ i (some (false, .int k)))) → compL [i] (gN i) cT f (rngL a 1 m) ρ = .ok ((List.range m).map fun k => e (a + k)) ρ
  | 0, a, _ => rfl
  | m + 1, a, h => by
    obtain ⟨o, h1⟩ := h a (Nat.le_refl _) (by omega)
    have ih := compL_rng (e := e) h0 m (a + 1) fun k h1 h2 => h k (by omega) (by omega)
    have e2 : pt (pt ρ i (some (false, .int a))) i none = ρ := by rw [pt_pt, pt_none ρ i h0]
    rw [rngL_cons]
    simp only [Int.natCast_add, Int.natCast_one] at ih
    rw [List.range_succ_eq_map]
    have e3 : (fun k => e (a + (k + 1))) = fun k => e (a + 1 + k) := funext fun k => by congr 1; omega
    simp [h1, e2, ih, Function.comp_def]
    intro k hk
    exact (congrFun e3 k).symm
theorem take_row {n : Nat} {f : Nat → D} : ((List.range n).map f).take n = (List.range n).map f := List.take_of_length_le (by simp)
theorem truth_row_sp (nm : List Str) : ∀ (s : Say) (fuel : Nat) (p : List (List Bool)) (o : Bool), s.dep ≤ fuel → s.Over nm → PlayOk nm.length p →
    R_truth_row fuel [(false, nmD nm), (false, s.toD), (o, playD p)] = .ok (true, rowD p.length (tvS nm p s)) [some (false, nmD nm), some (false, s.toD), some (o, playD p)] := by
  intro s
  induction s with
  | lamp n =>
    intro fuel p o hf ho hp
    obtain ⟨fuel, rfl⟩ : ∃ f, fuel = f + 1 := ⟨fuel - 1, by simp only [Say.dep] at hf; omega⟩
    have hi := mfIndex_nm ho
    have hx := (iX_ok ho).2
    have e : rowD p.length (tvS nm p (.lamp n)) = .lst (p.map fun x => .bl (x.getD (iX nm n) false)) := rowD_map p _ _ fun k hk => by
      simp only [tvS, List.getD_eq_getElem?_getD, List.getElem?_eq_getElem hk, Option.getD_some]
    have hc : ∀ y2 : Option T, compL [3] (gN 3) cT (sBin opIx (sVar 3) (sMt "tuple" mfIndex (sVar 0) (sCons (sBin opIx (sVar 1) (sC (.int 1))) sNil))) (p.map setD) [some (false, nmD nm), some (false, .tup [.str "lamp", .str n]), y2, none, none, none, none]
        = .ok ((p.map setD).map fun d => (opIx d (.int (iX nm n))).elim .non (·.2)) [some (false, nmD nm), some (false, .tup [.str "lamp", .str n]), y2, none, none, none, none] := fun y2 => compL_map (by simp) fun d hd => by
      obtain ⟨x, hx2, rfl⟩ := List.mem_map.mp hd
      have q := setD_at (s := x) (k := iX nm n) (by rw [hp.1 x hx2]; exact hx)
      exact ⟨false, by simp [hi, q]⟩
    have hm : (p.map setD).map (fun d => (opIx d (.int (iX nm n))).elim .non (·.2)) = p.map fun x => .bl (x.getD (iX nm n) false) := by
      rw [List.map_map]
      refine List.map_congr_left fun x hx2 => ?_
      have q := setD_at (s := x) (k := iX nm n) (by rw [hp.1 x hx2]; exact hx)
      simp [q]
    rw [hm] at hc
    rw [e]
    simp only [playD] at hc ⊢
    cases o <;> simp [R_truth_row, b_truth_row, Say.toD, hc]
  | cst b =>
    intro fuel p o hf ho hp
    obtain ⟨fuel, rfl⟩ : ∃ f, fuel = f + 1 := ⟨fuel - 1, by simp only [Say.dep] at hf; omega⟩
    have e : rowD p.length (tvS nm p (.cst b)) = .lst (p.map fun x => .bl b) := rowD_map p (fun _ => b) _ fun k hk => rfl
    have hc : ∀ y2 : Option T, compL [3] (gN 3) cT (sBin opEq (sBin opIx (sVar 1) (sC (.int 0))) (sC (.str "yes"))) (p.map setD) [some (false, nmD nm), some (false, Say.toD (.cst b)), y2, none, none, none, none]
        = .ok ((p.map setD).map fun d => .bl b) [some (false, nmD nm), some (false, Say.toD (.cst b)), y2, none, none, none, none] := fun y2 => compL_map (by simp) fun d hd => by
      cases b <;> exact ⟨false, by simp [Say.toD]⟩
    have hm : (p.map setD).map (fun d => D.bl b) = p.map fun x => .bl b := by rw [List.map_map]; rfl
    rw [hm] at hc
    rw [e]
    simp only [playD, Say.toD] at hc ⊢
    cases b <;> simp at hc <;> cases o <;> simp [R_truth_row, b_truth_row, Say.toD, hc]
  | un op s ih =>
    intro fuel p o hf ho hp
    obtain ⟨fuel, rfl⟩ : ∃ f, fuel = f + 1 := ⟨fuel - 1, by simp only [Say.dep] at hf; omega⟩
    have hp1 := hp.2
    have h1 := ih fuel p o (by simp only [Say.dep] at hf; omega) ho hp
    have hpa := parts_sp (.un op s)
    have hix := opIx_say (.un op s)
    have hh := Say.head_past (.un op s)
    have hl : p.length ≤ 10000 := by omega
    have hl2 : (p.length : Int) ≤ 16777216 := by omega
    simp only [Say.parts, List.map_cons, List.map_nil] at hpa
    cases op with
    | nt =>
      simp only [Say.head, U1.str, Say.isP] at hh
      have hc : compL [6] (gN 6) cT (sCallF F_joined (sCons (sBin opIx (sVar 1) (sC (.int 0))) (sCons (sVar 4) (sCons (sVar 6) sNil)))) (rngL ((0 : Nat) : Int) 1 p.length) [some (false, nmD nm), some (false, Say.toD (.un .nt s)), some (o, playD p), none, some (true, .lst [rowD p.length (tvS nm p s)]), none, none] = .ok ((List.range p.length).map fun k => .bl (!tvS nm p s (0 + k))) _ := compL_rng (e := fun k => .bl (!tvS nm p s k)) (by simp) p.length 0 fun k _ hk => by
        have q := joined_not (f := tvS nm p s) (n := p.length) (k := k) (by omega)
        exact ⟨false, by simp [hix, Say.head, U1.str, q]⟩
      simp only [playD, rowD] at hc h1 ⊢
      simp at hc
      cases o <;> simp [R_truth_row, b_truth_row, hix, hh, hpa, h1, Say.head, U1.str, Say.isP, hl2, hc, tvS]
    | bf =>
      simp only [Say.head, U1.str, Say.isP] at hh
      obtain ⟨o2, q⟩ := past_before (f := tvS nm p s) hl
      have e : (D.bl false :: ((List.range p.length).map fun k => D.bl (tvS nm p s k)).dropLast).take p.length = (List.range p.length).map fun k => D.bl (tvS nm p (.un .bf s) k) := by
        cases hn : p.length with
        | zero => rfl
        | succ n =>
          have r : (List.range (n + 1)).map (fun k => D.bl (tvS nm p (.un .bf s) k)) = .bl false :: (List.range n).map fun k => D.bl (tvS nm p s k) := by
            rw [List.range_succ_eq_map]
            simp [tvS, Function.comp_def]
          rw [r, List.range_succ]
          simp only [List.map_append, List.map_cons, List.map_nil, List.dropLast_concat, List.take_succ_cons]
          rw [List.take_of_length_le (by simp)]
      simp only [playD, rowD] at h1 q ⊢
      cases o <;> simp [R_truth_row, b_truth_row, hix, hh, hpa, h1, Say.head, U1.str, Say.isP, q, cut_to, e]
    | on =>
      simp only [Say.head, U1.str, Say.isP] at hh
      have q := past_once (f := tvS nm p s) hl
      have e : tvS nm p (.un .on s) = fun k => acc (fun j a => tvS nm p s j || a) false (k + 1) := rfl
      rw [← e] at q
      simp only [playD, rowD] at h1 q ⊢
      cases o <;> simp [R_truth_row, b_truth_row, hix, hh, hpa, h1, Say.head, U1.str, Say.isP, q, cut_to, take_row]
    | sf =>
      simp only [Say.head, U1.str, Say.isP] at hh
      have q := past_sofar (f := tvS nm p s) hl
      have e : tvS nm p (.un .sf s) = fun k => acc (fun j a => tvS nm p s j && a) true (k + 1) := rfl
      rw [← e] at q
      simp only [playD, rowD] at h1 q ⊢
      cases o <;> simp [R_truth_row, b_truth_row, hix, hh, hpa, h1, Say.head, U1.str, Say.isP, q, cut_to, take_row]
  | bin op s t ih1 ih2 =>
    intro fuel p o hf ho hp
    obtain ⟨fuel, rfl⟩ : ∃ f, fuel = f + 1 := ⟨fuel - 1, by simp only [Say.dep] at hf; omega⟩
    have hp1 := hp.2
    simp only [Say.dep] at hf
    have h1 := ih1 fuel p o (by omega) ho.1 hp
    have h2 := ih2 fuel p o (by omega) ho.2 hp
    have hpa := parts_sp (.bin op s t)
    have hix := opIx_say (.bin op s t)
    have hh := Say.head_past (.bin op s t)
    have hl : p.length ≤ 10000 := by omega
    have hl2 : (p.length : Int) ≤ 16777216 := by omega
    simp only [Say.parts, List.map_cons, List.map_nil] at hpa
    by_cases hsn : op = .sn
    · subst hsn
      simp only [Say.head, U2.str, Say.isP] at hh
      have q := past_since (f := tvS nm p s) (g := tvS nm p t) hl
      have e : tvS nm p (.bin .sn s t) = fun k => acc (fun j a => tvS nm p t j || (tvS nm p s j && a)) false (k + 1) := rfl
      rw [← e] at q
      simp only [playD, rowD] at h1 h2 q ⊢
      cases o <;> simp [R_truth_row, b_truth_row, hix, hh, hpa, h1, h2, Say.head, U2.str, Say.isP, q, cut_to, take_row]
    · have hP : (Say.bin op s t).isP = false := by cases op <;> first | rfl | exact absurd rfl hsn
      have e : tvS nm p (.bin op s t) = fun k => op.op (tvS nm p s k) (tvS nm p t k) := by cases op <;> first | rfl | exact absurd rfl hsn
      have ny : op.str ≠ "yes" := op.ne_yes
      have nn : op.str ≠ "no" := op.ne_no
      have nl : op.str ≠ "lamp" := op.ne_lamp
      rw [hP] at hh
      simp only [Say.head] at hh hix
      have hc : compL [6] (gN 6) cT (sCallF F_joined (sCons (sBin opIx (sVar 1) (sC (.int 0))) (sCons (sVar 4) (sCons (sVar 6) sNil)))) (rngL ((0 : Nat) : Int) 1 p.length) [some (false, nmD nm), some (false, Say.toD (.bin op s t)), some (o, playD p), none, some (true, .lst [rowD p.length (tvS nm p s), rowD p.length (tvS nm p t)]), none, none] = .ok ((List.range p.length).map fun k => .bl (op.op (tvS nm p s (0 + k)) (tvS nm p t (0 + k)))) _ := compL_rng (e := fun k => .bl (op.op (tvS nm p s k) (tvS nm p t k))) (by simp) p.length 0 fun k _ hk => by
        have q := joined_bin (f := tvS nm p s) (g := tvS nm p t) (n := p.length) (k := k) op hsn (by omega)
        exact ⟨false, by simp [hix, q]⟩
      rw [e]
      simp only [playD, rowD] at hc h1 h2 ⊢
      simp at hc
      cases o <;> simp [R_truth_row, b_truth_row, hix, hh, hpa, h1, h2, hl2, hc, ny, nn, nl]
end Lz
namespace Lz
open PySem PySem.Spec PyProof.Rows L2
theorem blsD_tt {α : Type} : ∀ (l : List α), blsD (l.map fun _ => D.bl true) = some (l.map fun _ => true)
  | [] => rfl
  | x :: l => by
    show (blsD (l.map fun _ => D.bl true)).map (true :: ·) = _
    rw [blsD_tt l]
    rfl
theorem all_tt {α : Type} : ∀ (l : List α), (l.map fun _ => true).all id = true := fun l => by simp
theorem is_setting_sp (s : List Bool) : F_is_setting [(false, setD s), (false, .int (s.length : Nat))] = .ok (false, .bl true) [some (false, setD s), some (false, .int (s.length : Nat))] := by
  have hc : compL [2] (gN 2) cT (sUn (isiD "bool") (sVar 2)) (s.map D.bl) [some (false, .tup (s.map D.bl)), some (false, .int (s.length : Nat)), none] = .ok ((s.map D.bl).map fun _ => .bl true) [some (false, .tup (s.map D.bl)), some (false, .int (s.length : Nat)), none] := compL_map (by simp) fun d hd => by
    obtain ⟨x, hx2, rfl⟩ := List.mem_map.mp hd
    exact ⟨false, by simp⟩
  have e := blsD_tt (s.map D.bl)
  have e2 := all_tt (s.map D.bl)
  unfold setD
  simp [F_is_setting, b_is_setting, hc, e, e2, -List.map_map]
theorem need_play_sp (b : Book) (hb : b.nm.length ≤ 1000) (p : List (List Bool)) (o : Bool) (hp : PlayOk b.nm.length p) : F_need_play [(false, b.toD), (o, playD p)] = .ok (false, .non) [some (false, b.toD), some (o, playD p)] := by
  have hl : b.nm.length = b.foe.length + b.fri.length := by unfold Book.nm; rw [List.length_append]
  have hc : ∀ y1 : Option T, compL [3] (gN 3) cT (sCallF F_is_setting (sCons (sVar 3) (sCons (sVar 2) sNil))) (p.map setD) [some (false, b.toD), y1, some (false, .int ((b.foe.length : Int) + b.fri.length)), none] = .ok ((p.map setD).map fun _ => .bl true) [some (false, b.toD), y1, some (false, .int ((b.foe.length : Int) + b.fri.length)), none] := fun y1 => compL_map (by simp) fun d hd => by
    obtain ⟨x, hx2, rfl⟩ := List.mem_map.mp hd
    have q := is_setting_sp x
    rw [hp.1 x hx2, hl, Int.natCast_add] at q
    exact ⟨false, by simp [q]⟩
  have e := blsD_tt (p.map setD)
  have e2 := all_tt (p.map setD)
  simp only [Book.toD, playD, nmD] at hc ⊢
  cases o <;> simp [F_need_play, b_need_play, hc, e, e2, -List.map_map]
theorem eqD_lnil {n : Nat} {xs : List D} (h : okN n (.lst xs)) (hn : n ≤ 64) : eqD (.lst xs) (.lst []) = some (decide (xs = [])) := by
  have h2 : okN 1 (.lst []) := okN_lst (n := 0) fun x hx => by cases hx
  cases xs with
  | nil => exact eqD_t h h2 hn (by decide) rfl
  | cons x xs => exact eqD_f h h2 hn (by decide) (by simp [nrm, nrms])
theorem playD_ok (p : List (List Bool)) : okN 2 (playD p) := okN_lst fun x hx => by
  obtain ⟨s, hs, rfl⟩ := List.mem_map.mp hx
  exact okN_tup fun y hy => by
    obtain ⟨b, hb, rfl⟩ := List.mem_map.mp hy
    exact okN_bl
theorem holds_sp (b : Book) (hb : b.Ok) (s : Say) (hs : s.Over b.nm) (hd : s.dep ≤ 8) (p : List (List Bool)) (o : Bool) (hp : PlayOk b.nm.length p) (h0 : p ≠ []) :
    F_holds [(false, b.toD), (false, s.toD), (o, playD p)] = .ok (false, .bl (tvS b.nm p s (p.length - 1))) [some (false, b.toD), some (false, s.toD), some (o, playD p)] := by
  have h1 := checked_ok b hb
  have hnl : b.nm.length ≤ 1000 := by
    have := hb.toForm.f2
    have := hb.toForm.r2
    unfold Book.nm
    rw [List.length_append]
    omega
  have hl : b.nm.length = b.foe.length + b.fri.length := by unfold Book.nm; rw [List.length_append]
  have h2 := checked_saying_t b.nm hnl s.toD s.plD (by rw [isSay_say b.nm s 8 hs]; exact decide_eq_true hd)
  have h3 := need_play_sp b hnl p o hp
  have h4 : F_truth_row _ = _ := truth_row_sp b.nm s 24 p o (by omega) hs hp
  have hm : p.map setD ≠ [] := by simpa using h0
  have e : atI ((List.range p.length).map fun k => D.bl (tvS b.nm p s k)) (-1) = some (.bl (tvS b.nm p s (p.length - 1))) := by
    have : p.length = (p.length - 1) + 1 := by have := List.length_pos_iff.mpr h0; omega
    rw [this, List.range_succ, List.map_append]
    exact atI_last
  have en : opAdd (nmD b.foe) (nmD b.fri) = some (false, nmD b.nm) := by
    unfold nmD Book.nm
    rw [opAdd_tup, if_pos (by simp; omega), List.map_append]
  have eix0 : opIx b.toD (.int 0) = some (false, nmD b.foe) := by unfold Book.toD; simp
  have eix1 : opIx b.toD (.int 1) = some (false, nmD b.fri) := by unfold Book.toD; simp
  have en2 := eqD_lnil (playD_ok p) (by decide)
  simp only [playD, rowD] at h3 h4 ⊢
  cases o <;> simp [F_holds, b_holds, h1, h2, h3, h4, en2, h0, e, eix0, eix1, en]
/-! ### the law's own reading -/
theorem acc_or {f : Nat → Bool} : ∀ n, acc (fun j a => f j || a) false n = true ↔ ∃ k, k < n ∧ f k = true
  | 0 => by simp [acc]
  | n + 1 => by
    show (f n || acc (fun j a => f j || a) false n) = true ↔ _
    rw [Bool.or_eq_true, acc_or n]
    constructor
    · rintro (h | ⟨k, hk, h⟩)
      · exact ⟨n, by omega, h⟩
      · exact ⟨k, by omega, h⟩
    · rintro ⟨k, hk, h⟩
      by_cases e : k = n
      · subst e; exact .inl h
      · exact .inr ⟨k, by omega, h⟩
theorem acc_and {f : Nat → Bool} : ∀ n, acc (fun j a => f j && a) true n = true ↔ ∀ k, k < n → f k = true
  | 0 => by simp [acc]
  | n + 1 => by
    show (f n && acc (fun j a => f j && a) true n) = true ↔ _
    rw [Bool.and_eq_true, acc_and n]
    constructor
    · rintro ⟨h1, h2⟩ k hk
      by_cases e : k = n
      · subst e; exact h1
      · exact h2 k (by omega)
    · intro h
      exact ⟨h n (by omega), fun k hk => h k (by omega)⟩
theorem okN_cons1 {i : Int} {l : List D} (h : ∀ x ∈ l, okN 0 x) : ∀ x ∈ D.int i :: l, okN 0 x := fun x hx => by
  rcases List.mem_cons.mp hx with rfl | hx
  · exact okN_int
  · exact h x hx
theorem compL_flt {i : Nat} {c : Env → R Bool} {ρ : Env} {q : Nat → Bool} (h0 : gt ρ i = none) (hi : i < ρ.length) : ∀ (m a : Nat), (∀ k, a ≤ k → k < a + m → c (pt ρ i (some (false, .int k))) = .ok (q k) (pt ρ i (some (false, .int k)))) →
    ∃ l, compL [i] (gN i) c (sVar i) (rngL a 1 m) ρ = .ok l ρ ∧ (∀ x ∈ l, okN 0 x) ∧ (l = [] ↔ ∀ k, a ≤ k → k < a + m → q k = false)
  | 0, a, _ => ⟨[], rfl, fun x hx => (by cases hx), by simp; intro k h1 h2; omega⟩
  | m + 1, a, h => by
    have h1 := h a (Nat.le_refl _) (by omega)
    obtain ⟨l, ih, hk0, hl⟩ := compL_flt h0 hi m (a + 1) fun k h1 h2 => h k (by omega) (by omega)
    have e2 : pt (pt ρ i (some (false, .int a))) i none = ρ := by rw [pt_pt, pt_none ρ i h0]
    have g : gt (pt ρ i (some (false, .int a))) i = some (false, .int a) := gt_pt_same _ _ _ hi
    simp only [Int.natCast_add, Int.natCast_one] at ih
    cases hq : q a with
    | true =>
      rw [hq] at h1
      refine ⟨.int a :: l, ?_, okN_cons1 hk0, ?_⟩
      · rw [rngL_cons]
        simp [h1, e2, ih, g]
      · simp
        exact ⟨a, by omega, by omega, hq⟩
    | false =>
      rw [hq] at h1
      refine ⟨l, ?_, hk0, ?_⟩
      · rw [rngL_cons]
        simp [h1, e2, ih]
      · rw [hl]
        constructor
        · intro w k hk1 hk2
          by_cases e : k = a
          · subst e; exact hq
          · exact w k (by omega) (by omega)
        · intro w k hk1 hk2
          exact w k (by omega) (by omega)
def sinB (r : List T → FR) : Env → R Fl := (xSeq (xIf (sB (sCallF r (sCons (sVar 0) (sCons (sBin opIx (sVar 1) (sC (.int 2))) (sCons (sVar 2) (sCons (sVar 5) sNil)))))) (xSeq (xRet 4 (sC (.bl true))) xNx) xNx) (xSeq (xIf (bNot (sB (sCallF r (sCons (sVar 0) (sCons (sBin opIx (sVar 1) (sC (.int 1))) (sCons (sVar 2) (sCons (sVar 5) sNil))))))) (xSeq (xRet 4 (sC (.bl false))) xNx) xNx) xNx))
theorem rngL_back {a : Int} {n : Nat} : rngL a (-1) (n + 1) = .int a :: rngL (a + -1) (-1) n := rfl
theorem since_loop {r : List T → FR} {N P : D} {o : Bool} {s t : Say} {f g : Nat → Bool} {y4 y6 y7 : Option T} : ∀ (k : Nat) (x3 x5 : Option T), (∀ j, j ≤ k → r [(false, N), (false, s.toD), (o, P), (false, .int j)] = .ok (false, .bl (f j)) [some (false, N), some (false, s.toD), some (o, P), some (false, .int j)]) →
    (∀ j, j ≤ k → r [(false, N), (false, t.toD), (o, P), (false, .int j)] = .ok (false, .bl (g j)) [some (false, N), some (false, t.toD), some (o, P), some (false, .int j)]) →
    (∃ y5, forL (gN 5) (sinB r) (rngL k (-1) (k + 1)) [some (false, N), some (false, .tup [.str "since", s.toD, t.toD]), some (o, P), x3, y4, x5, y6, y7] = .ok (.rt (false, .bl (acc (fun j a => g j || (f j && a)) false (k + 1)))) [some (false, N), some (false, .tup [.str "since", s.toD, t.toD]), some (o, P), x3, y4, y5, y6, y7]) ∨
    (acc (fun j a => g j || (f j && a)) false (k + 1) = false ∧ ∃ y5, forL (gN 5) (sinB r) (rngL k (-1) (k + 1)) [some (false, N), some (false, .tup [.str "since", s.toD, t.toD]), some (o, P), x3, y4, x5, y6, y7] = .ok .nx [some (false, N), some (false, .tup [.str "since", s.toD, t.toD]), some (o, P), x3, y4, y5, y6, y7]) := by
  intro k
  induction k with
  | zero =>
    intro x3 x5 hf hg
    have h1 := hf 0 (Nat.le_refl _)
    have h2 := hg 0 (Nat.le_refl _)
    simp at h1 h2
    rw [rngL_back]
    cases eg : g 0 with
    | true =>
      rw [eg] at h2
      refine .inl ⟨some (false, .int 0), ?_⟩
      cases o <;> simp [sinB, h2, acc, eg]
    | false =>
      rw [eg] at h2
      cases ef : f 0 with
      | true =>
        rw [ef] at h1
        refine .inr ⟨by simp [acc, eg], some (false, .int 0), ?_⟩
        cases o <;> simp [sinB, h1, h2, rngL]
      | false =>
        rw [ef] at h1
        refine .inl ⟨some (false, .int 0), ?_⟩
        cases o <;> simp [sinB, h1, h2, acc, eg, ef]
  | succ k ih =>
    intro x3 x5 hf hg
    have h1 := hf (k + 1) (Nat.le_refl _)
    have h2 := hg (k + 1) (Nat.le_refl _)
    have e1 : (k : Int) + 1 + -1 = k := by omega
    simp at h1 h2
    rw [rngL_back]
    have ac : acc (fun j a => g j || (f j && a)) false (k + 1 + 1) = (g (k + 1) || (f (k + 1) && acc (fun j a => g j || (f j && a)) false (k + 1))) := rfl
    rw [ac]
    cases eg : g (k + 1) with
    | true =>
      rw [eg] at h2
      refine .inl ⟨some (false, .int (k + 1)), ?_⟩
      cases o <;> simp [sinB, h2]
    | false =>
      rw [eg] at h2
      cases ef : f (k + 1) with
      | true =>
        rw [ef] at h1
        simp only [Bool.false_or, Bool.true_and]
        rcases ih x3 (some (false, .int (k + 1))) (fun j hj => hf j (by omega)) (fun j hj => hg j (by omega)) with ⟨y5, q⟩ | ⟨q0, y5, q⟩
        · refine .inl ⟨y5, ?_⟩
          simp only [sinB] at q
          cases o <;> simp [sinB, h1, h2, e1, q]
        · refine .inr ⟨q0, y5, ?_⟩
          simp only [sinB] at q
          cases o <;> simp [sinB, h1, h2, e1, q]
      | false =>
        rw [ef] at h1
        refine .inl ⟨some (false, .int (k + 1)), ?_⟩
        cases o <;> simp [sinB, h1, h2]
end Lz
/-! plays as a law draws them; the law's own reading -/
namespace Lz
open PySem PySem.Spec PyProof.Rows L2
noncomputable def playB : Env → R Fl := (xSeq (xSt 7 (sBin opMod (sBin opMul (sBin opAdd (sBin opAdd (sVar 4) (sBin opMul (sBin opMul (sC (.int 104729)) (sVar 6)) (sVar 6))) (sBin opMul (sC (.int 7919)) (sVar 6))) (sC (.int 48271))) (sC (.int 2147483647)))) (xSeq (xExpr (sMu opApp (sVar 5) (sCons (sCl cfTuple (sCons (sComp [8] (sRng (sCons (sVar 2) sNil)) (gN 8) cT (sBin opEq (sBin opMod (sBin opFdv (sVar 7) (sBin opIx (sLst (sCons (sC (.int 13)) (sCons (sC (.int 26)) (sCons (sC (.int 52)) (sCons (sC (.int 104)) sNil))))) (sVar 8))) (sC (.int 2))) (sC (.int 1)))) sNil)) sNil))) xNx))
theorem tens_at {k : Nat} (h : k < 4) : ∃ w : Nat, 0 < w ∧ w < 1000 ∧ atI [D.int 13, D.int 26, D.int 52, D.int 104] (k : Int) = some (.int w) := by
  match k, h with
  | 0, _ => exact ⟨13, by decide, by decide, rfl⟩
  | 1, _ => exact ⟨26, by decide, by decide, rfl⟩
  | 2, _ => exact ⟨52, by decide, by decide, rfl⟩
  | 3, _ => exact ⟨104, by decide, by decide, rfl⟩
theorem play_loop {ns : List Int} {y1 y3 : Option T} {lamps seed : Nat} (hs : seed < 10 ^ 9) (h4 : lamps ≤ 4) : ∀ (m : Nat) (a : Int) (done : List (List Bool)) (x6 x7 : Option T), 0 ≤ a → a + m ≤ 1000 → (∀ s ∈ done, s.length = lamps) → done.length + m ≤ 1000 →
    ∃ (p : List (List Bool)) (y6 y7 : Option T), (∀ s ∈ p, s.length = lamps) ∧ p.length = done.length + m ∧ forL (gN 6) playB (rngL a 1 m) [some (false, .scr ns), y1, some (false, .int lamps), y3, some (false, .int seed), some (true, playD done), x6, x7, none] = .ok .nx [some (false, .scr ns), y1, some (false, .int lamps), y3, some (false, .int seed), some (true, playD p), y6, y7, none] := by
  intro m
  induction m with
  | zero => exact fun a done x6 x7 _ _ hd _ => ⟨done, x6, x7, hd, rfl, rfl⟩
  | succ m ih =>
    intro a done x6 x7 h0 ha hd hl
    generalize hr : ((seed : Int) + 104729 * a * a + 7919 * a) * 48271 = v
    have e1 : v.fmod 2147483647 = v % 2147483647 := fmod_pos v 2147483647
    have e2 : 0 ≤ v % 2147483647 := Int.emod_nonneg _ (by decide)
    obtain ⟨u, hu⟩ : ∃ u : Nat, (u : Int) = v % 2147483647 := ⟨(v % 2147483647).toNat, Int.toNat_of_nonneg e2⟩
    have e3 : v.fmod 2147483647 = u := by rw [e1, hu]
    have hw : ∀ k, k < lamps → ∃ (w : Nat) (b : Bool), 0 < w ∧ w < 1000 ∧ atI [D.int 13, D.int 26, D.int 52, D.int 104] (k : Int) = some (.int w) ∧ eqD (.int (((u : Int).fdiv w).fmod 2)) (.int 1) = some b := fun k hk => by
      obtain ⟨w, h1, h2, h3⟩ := tens_at (k := k) (by omega)
      exact ⟨w, _, h1, h2, h3, rfl⟩
    have hw2 : ∀ k, ∃ b : Bool, k < lamps → ∃ w : Nat, 0 < w ∧ w < 1000 ∧ atI [D.int 13, D.int 26, D.int 52, D.int 104] (k : Int) = some (.int w) ∧ eqD (.int (((u : Int).fdiv w).fmod 2)) (.int 1) = some b := fun k => by
      by_cases hk : k < lamps
      · obtain ⟨w, b, h⟩ := hw k hk
        exact ⟨b, fun _ => ⟨w, h⟩⟩
      · exact ⟨false, fun h => absurd h hk⟩
    have hw3 := Classical.axiomOfChoice hw2
    obtain ⟨f, hf⟩ := hw3
    let s : List Bool := (List.range lamps).map f
    have hsl : s.length = lamps := by simp [s]
    have hc : compL [8] (gN 8) cT (sBin opEq (sBin opMod (sBin opFdv (sVar 7) (sBin opIx (sLst (sCons (sC (.int 13)) (sCons (sC (.int 26)) (sCons (sC (.int 52)) (sCons (sC (.int 104)) sNil))))) (sVar 8))) (sC (.int 2))) (sC (.int 1))) (rngL ((0 : Nat) : Int) 1 lamps)
        [some (false, .scr ns), y1, some (false, .int lamps), y3, some (false, .int seed), some (true, playD done), some (false, .int a), some (false, .int u), none] = .ok ((List.range lamps).map fun k => .bl (f (0 + k))) _ := compL_rng (e := fun k => .bl (f k)) (by simp) lamps 0 fun k _ hk => by
      obtain ⟨w, h1, h2, h3, h5⟩ := hf k (by omega)
      have g1 : (w : Int) ≠ 0 := by omega
      have g1' : w ≠ 0 := by omega
      have g2 : w < 1073741824 := by omega
      exact ⟨false, by simp [h3, g1, g1', g2, h5]⟩
    simp at hc
    have hs3 : (List.range lamps).map (fun k => D.bl (f k)) = s.map D.bl := by simp [s]
    rw [hs3] at hc
    obtain ⟨p, y6, y7, q1, q2, q3⟩ := ih (a + 1) (done ++ [s]) (some (false, .int a)) (some (false, .int u)) (by omega) (by omega) (fun t ht => by
      rcases List.mem_append.mp ht with ht | ht
      · exact hd t ht
      · rw [List.mem_singleton.mp ht]; exact hsl) (by simp; omega)
    refine ⟨p, y6, y7, q1, by rw [q2]; simp; omega, ?_⟩
    rw [rngL_cons]
    have b1 : -18446744073709551616 < 104729 * a := by omega
    have b2 : 104729 * a < 18446744073709551616 := by omega
    have b3 : a < 18446744073709551616 := by omega
    have b4 : -18446744073709551616 < a := by omega
    have l1 : -4611686018427387904 ≤ (lamps : Int) := by omega
    have l2 : (lamps : Int) ≤ 16777216 := by omega
    have l3 : done.length < 16777216 := by omega
    have hpd : playD (done ++ [s]) = .lst (done.map setD ++ [.tup (s.map D.bl)]) := by simp [playD, setD]
    rw [hpd] at q3
    simp only [playD, playB] at hc q3 ⊢
    simp [ hr, e3, hc, b1, b2, b3, b4, l1, l2, l3, q3]
theorem play_sp (ns : List Int) (hl : ns.length ≤ 63) (at_ lamps most : Nat) (h4 : lamps ≤ 4) (hm : most ≤ 900) : ∃ p : List (List Bool), PlayOk lamps p ∧ p.length ≤ most ∧
    F_l_play [(false, .scr ns), (false, .int at_), (false, .int lamps), (false, .int most)] = .ok (true, playD p) [some (false, .scr ns), some (false, .int at_), some (false, .int lamps), some (false, .int most)] := by
  have h1 := mixed_sp ns hl at_ (10 ^ 9) (by decide)
  have l1 := mixed_lt ns at_ (10 ^ 9) (by decide)
  generalize mixed ns at_ (10 ^ 9) = seed at h1 l1
  have h2 := mixed_sp ns hl (at_ + 1) (most + 1) (by omega)
  have l2 := mixed_lt ns (at_ + 1) (most + 1) (by omega)
  generalize mixed ns (at_ + 1) (most + 1) = k at h2 l2
  obtain ⟨p, y6, y7, q1, q2, q3⟩ := play_loop (ns := ns) (y1 := some (false, .int at_)) (y3 := some (false, .int most)) l1 h4 k 0 [] none none (by omega) (by omega) (fun s hs => by cases hs) (by simp; omega)
  refine ⟨p, ⟨q1, by simp at q2; omega⟩, by simp at q2; omega, ?_⟩
  simp at h1 h2 q3
  have r1 : -4611686018427387904 ≤ (k : Int) := by omega
  have r2 : (k : Int) ≤ 16777216 := by omega
  have e0 : playD [] = .lst [] := rfl
  rw [e0] at q3
  simp only [playB] at q3
  simp [F_l_play, b_l_play, h1, h2, r1, r2, q3]
end Lz
namespace Lz
open PySem PySem.Spec PyProof.Rows L2
theorem lh_lamp (nm : List Str) (p : List (List Bool)) (o : Bool) (hp : PlayOk nm.length p) (fuel k : Nat) (hk : k < p.length) (n : Str) (ho : n ∈ nm) : R_l_holds (fuel + 1) [(false, nmD nm), (false, Say.toD (.lamp n)), (o, playD p), (false, .int k)] = .ok (false, .bl (tvS nm p (.lamp n) k)) [some (false, nmD nm), some (false, Say.toD (.lamp n)), some (o, playD p), some (false, .int k)] := by
  have hi := mfIndex_nm ho
  have hx := (iX_ok ho).2
  have e : atI (p.map setD) (k : Int) = some (setD p[k]) := by rw [atI_lt (by simpa using hk)]; simp
  have q := setD_at (s := p[k]) (k := iX nm n) (by rw [hp.1 _ (List.getElem_mem _)]; exact hx)
  have e2 : tvS nm p (.lamp n) k = p[k].getD (iX nm n) false := by simp only [tvS, List.getD_eq_getElem?_getD, List.getElem?_eq_getElem hk, Option.getD_some]
  rw [e2]
  simp only [playD]
  cases o <;> simp [R_l_holds, b_l_holds, Say.toD, e, hi, q]
theorem lh_cst (nm : List Str) (p : List (List Bool)) (o : Bool) (hp : PlayOk nm.length p) (fuel k : Nat) (hk : k < p.length) (b : Bool) : R_l_holds (fuel + 1) [(false, nmD nm), (false, Say.toD (.cst b)), (o, playD p), (false, .int k)] = .ok (false, .bl (tvS nm p (.cst b) k)) [some (false, nmD nm), some (false, Say.toD (.cst b)), some (o, playD p), some (false, .int k)] := by
  cases b <;> cases o <;> simp [R_l_holds, b_l_holds, Say.toD, tvS]
theorem lh_nt (nm : List Str) (p : List (List Bool)) (o : Bool) (hp : PlayOk nm.length p) (fuel k : Nat) (hk : k < p.length) (s : Say) (h1 : ∀ j, j < p.length → R_l_holds fuel [(false, nmD nm), (false, s.toD), (o, playD p), (false, .int j)] = .ok (false, .bl (tvS nm p s j)) [some (false, nmD nm), some (false, s.toD), some (o, playD p), some (false, .int j)]) : R_l_holds (fuel + 1) [(false, nmD nm), (false, Say.toD (.un .nt s)), (o, playD p), (false, .int k)] = .ok (false, .bl (tvS nm p (.un .nt s) k)) [some (false, nmD nm), some (false, Say.toD (.un .nt s)), some (o, playD p), some (false, .int k)] := by
  have hp1 := hp.2
  have g1 : -4611686018427387904 ≤ (k : Int) + 1 := by omega
  have g2 : (k : Int) + 1 ≤ 16777216 := by omega
  have g3 : ((k : Int) + 1).toNat = k + 1 := by omega
  have h2 := h1 k hk
  cases o <;> simp [R_l_holds, b_l_holds, Say.toD, U1.str, tvS, h2]
theorem lh_bf (nm : List Str) (p : List (List Bool)) (o : Bool) (hp : PlayOk nm.length p) (fuel k : Nat) (hk : k < p.length) (s : Say) (h1 : ∀ j, j < p.length → R_l_holds fuel [(false, nmD nm), (false, s.toD), (o, playD p), (false, .int j)] = .ok (false, .bl (tvS nm p s j)) [some (false, nmD nm), some (false, s.toD), some (o, playD p), some (false, .int j)]) : R_l_holds (fuel + 1) [(false, nmD nm), (false, Say.toD (.un .bf s)), (o, playD p), (false, .int k)] = .ok (false, .bl (tvS nm p (.un .bf s) k)) [some (false, nmD nm), some (false, Say.toD (.un .bf s)), some (o, playD p), some (false, .int k)] := by
  have hp1 := hp.2
  have g1 : -4611686018427387904 ≤ (k : Int) + 1 := by omega
  have g2 : (k : Int) + 1 ≤ 16777216 := by omega
  have g3 : ((k : Int) + 1).toNat = k + 1 := by omega
  by_cases h0 : k = 0
  · subst h0
    cases o <;> simp [R_l_holds, b_l_holds, Say.toD, U1.str, tvS]
  · have h2 := h1 (k - 1) (by omega)
    have e : ((k - 1 : Nat) : Int) = (k : Int) - 1 := by omega
    rw [e] at h2
    have e3 : (0 : Int) < k := by omega
    have e4 : 0 < k := by omega
    cases o <;> simp [R_l_holds, b_l_holds, Say.toD, U1.str, tvS, h2, e3, e4]
theorem lh_on (nm : List Str) (p : List (List Bool)) (o : Bool) (hp : PlayOk nm.length p) (fuel k : Nat) (hk : k < p.length) (s : Say) (h1 : ∀ j, j < p.length → R_l_holds fuel [(false, nmD nm), (false, s.toD), (o, playD p), (false, .int j)] = .ok (false, .bl (tvS nm p s j)) [some (false, nmD nm), some (false, s.toD), some (o, playD p), some (false, .int j)]) : R_l_holds (fuel + 1) [(false, nmD nm), (false, Say.toD (.un .on s)), (o, playD p), (false, .int k)] = .ok (false, .bl (tvS nm p (.un .on s) k)) [some (false, nmD nm), some (false, Say.toD (.un .on s)), some (o, playD p), some (false, .int k)] := by
  have hp1 := hp.2
  obtain ⟨K, hK⟩ : ∃ K : Int, (k : Int) = K := ⟨_, rfl⟩
  rw [hK]
  have g1 : -4611686018427387904 ≤ K + 1 := by omega
  have g2 : K + 1 ≤ 16777216 := by omega
  have g3 : (K + 1).toNat = k + 1 := by omega
  obtain ⟨l, hc, hk0, hl⟩ := compL_flt (i := 5) (c := sB (sCallF (R_l_holds fuel) (sCons (sVar 0) (sCons (sBin opIx (sVar 1) (sC (.int 1))) (sCons (sVar 2) (sCons (sVar 5) sNil)))))) (ρ := [some (false, nmD nm), some (false, Say.toD (.un .on s)), some (o, playD p), some (false, .int K), some (false, .str "once"), none, none, none]) (q := tvS nm p s) (by simp) (by simp) (k + 1) 0 (fun j _ hj => by
    have h2 := h1 j (by omega)
    cases o <;> simp [Say.toD, h2])
  have e := eqD_lnil (okN_lst hk0) (by decide)
  have e2 : tvS nm p (.un .on s) k = !decide (l = []) := by
    have e3 : tvS nm p (.un .on s) k = true ↔ ¬ l = [] := by
      show acc (fun j a => tvS nm p s j || a) false (k + 1) = true ↔ _
      rw [acc_or, hl]
      constructor
      · rintro ⟨j, hj, h⟩ w
        have := w j (by omega) (by omega)
        rw [h] at this
        cases this
      · intro w
        by_cases hx : ∃ j, j < k + 1 ∧ tvS nm p s j = true
        · exact hx
        · refine absurd (fun j _ hj => ?_) w
          cases hy : tvS nm p s j with
          | false => rfl
          | true => exact absurd ⟨j, by omega, hy⟩ hx
    by_cases hl0 : l = []
    · rw [decide_eq_true hl0]
      cases hy : tvS nm p (.un .on s) k with
      | false => rfl
      | true => exact absurd hl0 (e3.mp hy)
    · rw [decide_eq_false hl0]
      exact e3.mpr hl0
  rw [e2]
  simp only [Say.toD, U1.str] at hc
  simp at hc
  cases o <;> simp [R_l_holds, b_l_holds, Say.toD, U1.str, g1, g2, g3, hc, e]
theorem lh_sf (nm : List Str) (p : List (List Bool)) (o : Bool) (hp : PlayOk nm.length p) (fuel k : Nat) (hk : k < p.length) (s : Say) (h1 : ∀ j, j < p.length → R_l_holds fuel [(false, nmD nm), (false, s.toD), (o, playD p), (false, .int j)] = .ok (false, .bl (tvS nm p s j)) [some (false, nmD nm), some (false, s.toD), some (o, playD p), some (false, .int j)]) : R_l_holds (fuel + 1) [(false, nmD nm), (false, Say.toD (.un .sf s)), (o, playD p), (false, .int k)] = .ok (false, .bl (tvS nm p (.un .sf s) k)) [some (false, nmD nm), some (false, Say.toD (.un .sf s)), some (o, playD p), some (false, .int k)] := by
  have hp1 := hp.2
  obtain ⟨K, hK⟩ : ∃ K : Int, (k : Int) = K := ⟨_, rfl⟩
  rw [hK]
  have g1 : -4611686018427387904 ≤ K + 1 := by omega
  have g2 : K + 1 ≤ 16777216 := by omega
  have g3 : (K + 1).toNat = k + 1 := by omega
  obtain ⟨l, hc, hk0, hl⟩ := compL_flt (i := 5) (c := bNot (sB (sCallF (R_l_holds fuel) (sCons (sVar 0) (sCons (sBin opIx (sVar 1) (sC (.int 1))) (sCons (sVar 2) (sCons (sVar 5) sNil))))))) (ρ := [some (false, nmD nm), some (false, Say.toD (.un .sf s)), some (o, playD p), some (false, .int K), some (false, .str "sofar"), none, none, none]) (q := fun j => !tvS nm p s j) (by simp) (by simp) (k + 1) 0 (fun j _ hj => by
    have h2 := h1 j (by omega)
    cases o <;> simp [Say.toD, h2])
  have e := eqD_lnil (okN_lst hk0) (by decide)
  have e2 : tvS nm p (.un .sf s) k = decide (l = []) := by
    have e3 : tvS nm p (.un .sf s) k = true ↔ l = [] := by
      show acc (fun j a => tvS nm p s j && a) true (k + 1) = true ↔ _
      rw [acc_and, hl]
      constructor
      · intro w j _ hj
        rw [w j (by omega)]; rfl
      · intro w j hj
        have := w j (by omega) (by omega)
        simpa using this
    by_cases hl0 : l = []
    · rw [decide_eq_true hl0]
      exact e3.mpr hl0
    · rw [decide_eq_false hl0]
      cases hy : tvS nm p (.un .sf s) k with
      | false => rfl
      | true => exact absurd (e3.mp hy) hl0
  rw [e2]
  simp only [Say.toD, U1.str] at hc
  simp at hc
  cases o <;> simp [R_l_holds, b_l_holds, Say.toD, U1.str, g1, g2, g3, hc, e]
theorem lh_sn (nm : List Str) (p : List (List Bool)) (o : Bool) (hp : PlayOk nm.length p) (fuel k : Nat) (hk : k < p.length) (s t : Say) (h1 : ∀ j, j < p.length → R_l_holds fuel [(false, nmD nm), (false, s.toD), (o, playD p), (false, .int j)] = .ok (false, .bl (tvS nm p s j)) [some (false, nmD nm), some (false, s.toD), some (o, playD p), some (false, .int j)]) (h2 : ∀ j, j < p.length → R_l_holds fuel [(false, nmD nm), (false, t.toD), (o, playD p), (false, .int j)] = .ok (false, .bl (tvS nm p t j)) [some (false, nmD nm), some (false, t.toD), some (o, playD p), some (false, .int j)]) : R_l_holds (fuel + 1) [(false, nmD nm), (false, Say.toD (.bin .sn s t)), (o, playD p), (false, .int k)] = .ok (false, .bl (tvS nm p (.bin .sn s t) k)) [some (false, nmD nm), some (false, Say.toD (.bin .sn s t)), some (o, playD p), some (false, .int k)] := by
  have hp1 := hp.2
  obtain ⟨K, hK⟩ : ∃ K : Int, (k : Int) = K := ⟨_, rfl⟩
  have g1 : -4611686018427387904 ≤ K := by omega
  have g2 : K < 4611686018427387904 := by omega
  have g3 : K + 1 ≤ 16777216 := by omega
  have g4 : (K + 1).toNat = k + 1 := by omega
  have q := since_loop (r := R_l_holds fuel) (N := nmD nm) (P := playD p) (o := o) (s := s) (t := t) (f := tvS nm p s) (g := tvS nm p t) (y4 := some (false, .str "since")) (y6 := none) (y7 := none) k (some (false, .int k)) none (fun j hj => h1 j (by omega)) (fun j hj => h2 j (by omega))
  have e : tvS nm p (.bin .sn s t) k = acc (fun j a => tvS nm p t j || (tvS nm p s j && a)) false (k + 1) := rfl
  rw [e]
  rw [hK] at q ⊢
  simp only [sinB] at q
  rcases q with ⟨y5, q⟩ | ⟨q0, y5, q⟩
  · cases o <;> simp [R_l_holds, b_l_holds, Say.toD, U2.str, g1, g2, g3, g4, q]
  · rw [q0]
    cases o <;> simp [R_l_holds, b_l_holds, Say.toD, U2.str, g1, g2, g3, g4, q]
theorem lh_an (nm : List Str) (p : List (List Bool)) (o : Bool) (hp : PlayOk nm.length p) (fuel k : Nat) (hk : k < p.length) (s t : Say) (h1 : ∀ j, j < p.length → R_l_holds fuel [(false, nmD nm), (false, s.toD), (o, playD p), (false, .int j)] = .ok (false, .bl (tvS nm p s j)) [some (false, nmD nm), some (false, s.toD), some (o, playD p), some (false, .int j)]) (h2 : ∀ j, j < p.length → R_l_holds fuel [(false, nmD nm), (false, t.toD), (o, playD p), (false, .int j)] = .ok (false, .bl (tvS nm p t j)) [some (false, nmD nm), some (false, t.toD), some (o, playD p), some (false, .int j)]) : R_l_holds (fuel + 1) [(false, nmD nm), (false, Say.toD (.bin .an s t)), (o, playD p), (false, .int k)] = .ok (false, .bl (tvS nm p (.bin .an s t) k)) [some (false, nmD nm), some (false, Say.toD (.bin .an s t)), some (o, playD p), some (false, .int k)] := by
  have e1 := h1 k hk
  have e2 := h2 k hk
  cases hx : tvS nm p s k <;> cases hy : tvS nm p t k <;> rw [hx] at e1 <;> rw [hy] at e2 <;> cases o <;> simp [R_l_holds, b_l_holds, Say.toD, U2.str, tvS, e1, e2, hx, hy]
theorem lh_or (nm : List Str) (p : List (List Bool)) (o : Bool) (hp : PlayOk nm.length p) (fuel k : Nat) (hk : k < p.length) (s t : Say) (h1 : ∀ j, j < p.length → R_l_holds fuel [(false, nmD nm), (false, s.toD), (o, playD p), (false, .int j)] = .ok (false, .bl (tvS nm p s j)) [some (false, nmD nm), some (false, s.toD), some (o, playD p), some (false, .int j)]) (h2 : ∀ j, j < p.length → R_l_holds fuel [(false, nmD nm), (false, t.toD), (o, playD p), (false, .int j)] = .ok (false, .bl (tvS nm p t j)) [some (false, nmD nm), some (false, t.toD), some (o, playD p), some (false, .int j)]) : R_l_holds (fuel + 1) [(false, nmD nm), (false, Say.toD (.bin .or s t)), (o, playD p), (false, .int k)] = .ok (false, .bl (tvS nm p (.bin .or s t) k)) [some (false, nmD nm), some (false, Say.toD (.bin .or s t)), some (o, playD p), some (false, .int k)] := by
  have e1 := h1 k hk
  have e2 := h2 k hk
  cases hx : tvS nm p s k <;> cases hy : tvS nm p t k <;> rw [hx] at e1 <;> rw [hy] at e2 <;> cases o <;> simp [R_l_holds, b_l_holds, Say.toD, U2.str, tvS, e1, e2, hx, hy]
theorem lh_th (nm : List Str) (p : List (List Bool)) (o : Bool) (hp : PlayOk nm.length p) (fuel k : Nat) (hk : k < p.length) (s t : Say) (h1 : ∀ j, j < p.length → R_l_holds fuel [(false, nmD nm), (false, s.toD), (o, playD p), (false, .int j)] = .ok (false, .bl (tvS nm p s j)) [some (false, nmD nm), some (false, s.toD), some (o, playD p), some (false, .int j)]) (h2 : ∀ j, j < p.length → R_l_holds fuel [(false, nmD nm), (false, t.toD), (o, playD p), (false, .int j)] = .ok (false, .bl (tvS nm p t j)) [some (false, nmD nm), some (false, t.toD), some (o, playD p), some (false, .int j)]) : R_l_holds (fuel + 1) [(false, nmD nm), (false, Say.toD (.bin .th s t)), (o, playD p), (false, .int k)] = .ok (false, .bl (tvS nm p (.bin .th s t) k)) [some (false, nmD nm), some (false, Say.toD (.bin .th s t)), some (o, playD p), some (false, .int k)] := by
  have e1 := h1 k hk
  have e2 := h2 k hk
  cases hx : tvS nm p s k <;> cases hy : tvS nm p t k <;> rw [hx] at e1 <;> rw [hy] at e2 <;> cases o <;> simp [R_l_holds, b_l_holds, Say.toD, U2.str, tvS, e1, e2, hx, hy]
theorem lh_sm (nm : List Str) (p : List (List Bool)) (o : Bool) (hp : PlayOk nm.length p) (fuel k : Nat) (hk : k < p.length) (s t : Say) (h1 : ∀ j, j < p.length → R_l_holds fuel [(false, nmD nm), (false, s.toD), (o, playD p), (false, .int j)] = .ok (false, .bl (tvS nm p s j)) [some (false, nmD nm), some (false, s.toD), some (o, playD p), some (false, .int j)]) (h2 : ∀ j, j < p.length → R_l_holds fuel [(false, nmD nm), (false, t.toD), (o, playD p), (false, .int j)] = .ok (false, .bl (tvS nm p t j)) [some (false, nmD nm), some (false, t.toD), some (o, playD p), some (false, .int j)]) : R_l_holds (fuel + 1) [(false, nmD nm), (false, Say.toD (.bin .sm s t)), (o, playD p), (false, .int k)] = .ok (false, .bl (tvS nm p (.bin .sm s t) k)) [some (false, nmD nm), some (false, Say.toD (.bin .sm s t)), some (o, playD p), some (false, .int k)] := by
  have e1 := h1 k hk
  have e2 := h2 k hk
  cases hx : tvS nm p s k <;> cases hy : tvS nm p t k <;> rw [hx] at e1 <;> rw [hy] at e2 <;> cases o <;> simp [R_l_holds, b_l_holds, Say.toD, U2.str, tvS, e1, e2, hx, hy]
theorem l_holds_sp (nm : List Str) (p : List (List Bool)) (o : Bool) (hp : PlayOk nm.length p) : ∀ (s : Say) (fuel k : Nat), s.dep ≤ fuel → s.Over nm → k < p.length →
    R_l_holds fuel [(false, nmD nm), (false, s.toD), (o, playD p), (false, .int k)] = .ok (false, .bl (tvS nm p s k)) [some (false, nmD nm), some (false, s.toD), some (o, playD p), some (false, .int k)]
  | s, 0, k, hf, ho, hk => absurd s.dep_pos (by omega)
  | .lamp n, fuel + 1, k, hf, ho, hk => lh_lamp nm p o hp fuel k hk n ho
  | .cst b, fuel + 1, k, hf, ho, hk => lh_cst nm p o hp fuel k hk b
  | .un .nt s, fuel + 1, k, hf, ho, hk => lh_nt nm p o hp fuel k hk s fun j hj => l_holds_sp nm p o hp s fuel j (by simp only [Say.dep] at hf; omega) ho hj
  | .un .bf s, fuel + 1, k, hf, ho, hk => lh_bf nm p o hp fuel k hk s fun j hj => l_holds_sp nm p o hp s fuel j (by simp only [Say.dep] at hf; omega) ho hj
  | .un .on s, fuel + 1, k, hf, ho, hk => lh_on nm p o hp fuel k hk s fun j hj => l_holds_sp nm p o hp s fuel j (by simp only [Say.dep] at hf; omega) ho hj
  | .un .sf s, fuel + 1, k, hf, ho, hk => lh_sf nm p o hp fuel k hk s fun j hj => l_holds_sp nm p o hp s fuel j (by simp only [Say.dep] at hf; omega) ho hj
  | .bin .sn s t, fuel + 1, k, hf, ho, hk => lh_sn nm p o hp fuel k hk s t (fun j hj => l_holds_sp nm p o hp s fuel j (by simp only [Say.dep] at hf; omega) ho.1 hj) (fun j hj => l_holds_sp nm p o hp t fuel j (by simp only [Say.dep] at hf; omega) ho.2 hj)
  | .bin .an s t, fuel + 1, k, hf, ho, hk => lh_an nm p o hp fuel k hk s t (fun j hj => l_holds_sp nm p o hp s fuel j (by simp only [Say.dep] at hf; omega) ho.1 hj) (fun j hj => l_holds_sp nm p o hp t fuel j (by simp only [Say.dep] at hf; omega) ho.2 hj)
  | .bin .or s t, fuel + 1, k, hf, ho, hk => lh_or nm p o hp fuel k hk s t (fun j hj => l_holds_sp nm p o hp s fuel j (by simp only [Say.dep] at hf; omega) ho.1 hj) (fun j hj => l_holds_sp nm p o hp t fuel j (by simp only [Say.dep] at hf; omega) ho.2 hj)
  | .bin .th s t, fuel + 1, k, hf, ho, hk => lh_th nm p o hp fuel k hk s t (fun j hj => l_holds_sp nm p o hp s fuel j (by simp only [Say.dep] at hf; omega) ho.1 hj) (fun j hj => l_holds_sp nm p o hp t fuel j (by simp only [Say.dep] at hf; omega) ho.2 hj)
  | .bin .sm s t, fuel + 1, k, hf, ho, hk => lh_sm nm p o hp fuel k hk s t (fun j hj => l_holds_sp nm p o hp s fuel j (by simp only [Say.dep] at hf; omega) ho.1 hj) (fun j hj => l_holds_sp nm p o hp t fuel j (by simp only [Say.dep] at hf; omega) ho.2 hj)
end Lz
namespace Lz
open PySem PySem.Spec PyProof.Rows L2
/-- the book without promises and musts, of one wish for yes -/
def plainB (foe fri : List Str) : Book := ⟨foe, fri, [], [], [(1, .cst true)]⟩
theorem plainB_ok {foe fri : List Str} (g : GNm foe fri) : (plainB foe fri).Ok := by
  have n := g.names
  have l := g.len
  refine ⟨⟨n.1, n.2, l.1, l.2.1, l.2.2.1, l.2.2.2, g.nodup, by simp [plainB], fun s hs => (by cases hs), by simp [plainB], fun s hs => (by cases hs), by simp [plainB], by simp [plainB], fun w hw => ?_⟩, fun s hs => (by cases hs), ?_⟩
  · have e : w = (1, .cst true) := List.mem_singleton.mp hw
    subst e
    exact ⟨by decide, by decide, trivial, by simp [Say.dep]⟩
  · simp [plainB, Book.pieces, Book.says, gath, addP, Say.isP]
theorem plainB_D (foe fri : List Str) : (plainB foe fri).toD = .tup [nmD foe, nmD fri, .tup [], .tup [], .tup [.tup [.int 1, .tup [.str "yes"]]]] := rfl
theorem take_pl {n k : Nat} {p : List (List Bool)} (h : PlayOk n p) : PlayOk n (p.take k) := ⟨fun s hs => h.1 s (List.mem_of_mem_take hs), by rw [List.length_take]; have := h.2; omega⟩
/-- holds of a play's beginning -/
theorem holds_at (b : Book) (hb : b.Ok) (s : Say) (hs : s.Over b.nm) (hd : s.dep ≤ 8) (p : List (List Bool)) (o : Bool) (hp : PlayOk b.nm.length p) (k : Nat) (hk : k < p.length) :
    F_holds [(false, b.toD), (false, s.toD), (o, .lst ((p.take (k + 1)).map setD))] = .ok (false, .bl (tvS b.nm p s k)) [some (false, b.toD), some (false, s.toD), some (o, .lst ((p.take (k + 1)).map setD))] := by
  have h := holds_sp b hb s hs hd (p.take (k + 1)) o (take_pl hp) (by intro e; have := congrArg List.length e; rw [List.length_take, List.length_nil] at this; omega)
  have e : (p.take (k + 1)).length - 1 = k := by rw [List.length_take]; omega
  rw [e, tvS_take b.nm p s (k + 1) k (by omega)] at h
  exact h
theorem cut_k {α : Type} {xs : List α} {K : Int} {k : Nat} (h : (k : Int) = K) : cut xs none (some (K + 1)) = xs.take (k + 1) := by
  rw [← h]
  have e : (k : Int) + 1 = ((k + 1 : Nat) : Int) := by omega
  rw [e]
  exact cut_to
noncomputable def k03B : Env → R Fl := (xSeq (xSt 9 (sCallF F_holds (sCons (sVar 7) (sCons (sVar 5) (sCons (sSl opSl (sVar 6) none (some (sBin opAdd (sVar 8) (sC (.int 1))))) sNil))))) (xSeq (xIf (bOr (bNot (sB (sUn (isiD "bool") (sVar 9)))) (sB (sBin opNe (sVar 9) (sCallF F_l_holds (sCons (sVar 4) (sCons (sVar 5) (sCons (sVar 6) (sCons (sVar 8) sNil)))))))) (xSeq (xRet 1 (sC (.bl false))) xNx) xNx) xNx))
theorem k03_loop {foe fri : List Str} (g : GNm foe fri) {s : Say} (hs : s.Over (foe ++ fri)) (hd : s.dep ≤ 8) {p : List (List Bool)} (hp : PlayOk (foe ++ fri).length p) {y0 y1 y2 y3 : Option T} : ∀ (m a : Nat) (x8 x9 : Option T), a + m = p.length →
    ∃ y8 y9, forL (gN 8) k03B (rngL a 1 m) [y0, y1, y2, y3, some (false, nmD (foe ++ fri)), some (false, s.toD), some (true, playD p), some (false, (plainB foe fri).toD), x8, x9] = .ok .nx [y0, y1, y2, y3, some (false, nmD (foe ++ fri)), some (false, s.toD), some (true, playD p), some (false, (plainB foe fri).toD), y8, y9] := by
  intro m
  induction m with
  | zero => exact fun a x8 x9 _ => ⟨x8, x9, rfl⟩
  | succ m ih =>
    intro a x8 x9 ha
    obtain ⟨y8, y9, h⟩ := ih (a + 1) (some (false, .int a)) (some (false, .bl (tvS (foe ++ fri) p s a))) (by omega)
    refine ⟨y8, y9, ?_⟩
    have h1 := holds_at (plainB foe fri) (plainB_ok g) s hs hd p true hp a (by omega)
    have h2 : F_l_holds _ = _ := l_holds_sp (foe ++ fri) p true hp s 24 a (by omega) hs (by omega)
    have e1 : (plainB foe fri).nm = foe ++ fri := rfl
    rw [e1] at h1
    obtain ⟨A, hA⟩ : ∃ A : Int, (a : Int) = A := ⟨_, rfl⟩
    rw [Int.natCast_add, Int.natCast_one, hA] at h
    rw [hA] at h2
    have c := cut_k (xs := p.map setD) hA
    rw [rngL_cons, hA]
    simp only [playD, k03B] at h h2 ⊢
    rw [List.map_take] at h1
    simp [h1, h2, c, eqD_bl, h]
theorem law_k03 (ns : List Int) (hl : ns.length ≤ 63) : ∃ outs, F_law_k03 [(false, .scr ns)] = .ok (false, .bl true) outs := by
  obtain ⟨foe, fri, g, h1⟩ := names_sp ns hl 4
  have gl := g.len
  have hne : foe ++ fri ≠ [] := fun e => by have := congrArg List.length e; rw [List.length_append] at this; simp only [List.length_nil] at this; omega
  have hlen : (foe ++ fri).length = foe.length + fri.length := List.length_append
  obtain ⟨s, m1, l1, o1, d1, p1, h2⟩ := saying_sp ns hl (foe ++ fri) hne (by omega) 3 7 4 24 (by decide)
  have h2' : F_l_saying _ = _ := h2
  obtain ⟨q1, pk1, pl1, h3⟩ := play_sp ns hl 0 (foe.length + fri.length) 5 (by omega) (by omega)
  obtain ⟨q2, pk2, pl2, h4⟩ := play_sp ns hl 2 (foe.length + fri.length) 1 (by omega) (by omega)
  have hp : PlayOk (foe ++ fri).length (q1 ++ q2) := ⟨fun t ht => by
    rw [hlen]
    rcases List.mem_append.mp ht with ht | ht
    · exact pk1.1 t ht
    · exact pk2.1 t ht, by simp; omega⟩
  obtain ⟨y8, y9, h5⟩ := k03_loop g o1 (by omega) hp (y0 := some (false, .scr ns)) (y1 := some (true, .lst [.int m1])) (y2 := some (false, nmD foe)) (y3 := some (false, nmD fri)) (q1 ++ q2).length 0 none none (by omega)
  have b0 : foe.length + fri.length ≤ 16777216 := by omega
  have b1 : q1.length + q2.length ≤ 16777216 := by omega
  obtain ⟨L, hL⟩ : ∃ L : Int, (q1.length : Int) + q2.length = L := ⟨_, rfl⟩
  have b2 : -4611686018427387904 ≤ L := by omega
  have b3 : L ≤ 16777216 := by omega
  have b4 : L.toNat = q1.length + q2.length := by omega
  obtain ⟨N, hN⟩ : ∃ N : Int, ((foe.length : Int) + fri.length) = N := ⟨_, rfl⟩
  refine ⟨[some (false, .scr ns)], ?_⟩
  rw [Int.natCast_add, hN] at h3 h4
  rw [plainB_D] at h5
  simp only [nmD, playD, k03B] at h1 h2' h3 h4 h5
  simp at h1 h2' h3 h4 h5
  simp [F_law_k03, b_law_k03, h1, h2', h3, h4, hN, b0, b1, hL, b2, b3, b4, h5]
end Lz
/-! losses, first breaks -/
namespace Lz
open PySem PySem.Spec PyProof.Rows L2
/-- the first of a row of numbers -/
def fstB (q : Nat → Bool) : Nat → Nat → Option Nat
  | _, 0 => none
  | a, m + 1 => if q a = true then some a else fstB q (a + 1) m
def optI : Option Nat → D
  | some k => .int k
  | none => .non
theorem fstB_head {q : Nat → Bool} : ∀ (m a : Nat), fstB q a m = ((List.range' a m).filter q).head?
  | 0, _ => rfl
  | m + 1, a => by
    unfold fstB
    rw [List.range'_succ, List.filter_cons]
    split
    · rfl
    · exact fstB_head m (a + 1)
def brk (nm : List Str) (p : List (List Bool)) (l : List Say) (k : Nat) : Bool := l.any fun s => !tvS nm p s k
theorem not_all {l : List Say} {f : Say → Bool} : (l.map f).all id = !(l.any fun s => !f s) := by
  induction l with
  | nil => rfl
  | cons a l ih => rw [List.map_cons, List.all_cons, ih, List.any_cons]; cases f a <;> simp
theorem row_comp {nm : List Str} {p : List (List Bool)} {l : List Say} {k : Nat} (hk : k < p.length) {y0 y1 y2 y4 : Option T} :
    compL [6] (gN 6) cT (sBin opIx (sVar 6) (sVar 5)) (l.map fun s => rowD p.length (tvS nm p s)) [y0, y1, y2, none, y4, some (false, .int k), none] =
      .ok (l.map fun s => D.bl (tvS nm p s k)) [y0, y1, y2, none, y4, some (false, .int k), none] :=
  compL_m fun s hs => ⟨_, false, rfl, rfl, by simp [rowD_at (f := tvS nm p s) hk]⟩
theorem first_loop {nm : List Str} {p : List (List Bool)} {l : List Say} {y0 y1 y2 : Option T} (hp : p.length ≤ 1000) : ∀ (m a : Nat) (x5 : Option T), a + m = p.length →
    ∃ y5, forL (gN 5) b_first_without_L1 (rngL a 1 m) [y0, y1, y2, some (true, .lst (l.map fun s => rowD p.length (tvS nm p s))), none, x5, none] =
      (match fstB (brk nm p l) a m with | some k => R.ok (.rt (false, .int k)) [y0, y1, y2, some (true, .lst (l.map fun s => rowD p.length (tvS nm p s))), none, y5, none] | none => .ok .nx [y0, y1, y2, some (true, .lst (l.map fun s => rowD p.length (tvS nm p s))), none, y5, none]) := by
  intro m
  induction m with
  | zero => exact fun a x5 _ => ⟨x5, rfl⟩
  | succ m ih =>
    intro a x5 ha
    have hc := row_comp (nm := nm) (p := p) (l := l) (k := a) (by omega) (y0 := y0) (y1 := y1) (y2 := y2) (y4 := none)
    have e : blsD (l.map fun s => D.bl (tvS nm p s a)) = some (l.map fun s => tvS nm p s a) := blsD_gen _ l
    have e2 : (l.map fun s => tvS nm p s a).all id = !(brk nm p l a) := not_all
    obtain ⟨y5, h⟩ := ih (a + 1) (some (false, .int a)) (by omega)
    rw [rngL_cons]
    unfold fstB
    cases hb : brk nm p l a with
    | true =>
      rw [hb] at e2
      exact ⟨some (false, .int a), by simp [b_first_without_L1, hc, e, e2, -List.map_map]⟩
    | false =>
      rw [hb] at e2
      refine ⟨y5, ?_⟩
      rw [Int.natCast_add, Int.natCast_one] at h
      simp [b_first_without_L1, hc, e, e2, -List.map_map]
      simp only [b_first_without_L1] at h
      exact h
theorem first_without_sp (nm : List Str) (l : List Say) (p : List (List Bool)) (o : Bool) (hp : PlayOk nm.length p) (hl : ∀ s ∈ l, s.Over nm ∧ s.dep ≤ 24) (hll : l.length ≤ 1000) :
    F_first_without [(false, nmD nm), (false, saysT l), (o, playD p)] = .ok (false, optI (fstB (brk nm p l) 0 p.length)) [some (false, nmD nm), some (false, saysT l), some (o, playD p)] := by
  have hp1 := hp.2
  have hc : compL [4] (gN 4) cT b_first_without_C1 (l.map Say.toD) [some (false, nmD nm), some (false, saysT l), some (o, playD p), none, none, none, none] = .ok (l.map fun s => rowD p.length (tvS nm p s)) [some (false, nmD nm), some (false, saysT l), some (o, playD p), none, none, none, none] :=
    compL_m fun s hs => by
      have h : F_truth_row _ = _ := truth_row_sp nm s 24 p o (hl s hs).2 (hl s hs).1 hp
      refine ⟨_, true, rfl, rfl, ?_⟩
      cases o <;> simp [b_first_without_C1, h]
  obtain ⟨y5, h⟩ := first_loop (nm := nm) (p := p) (l := l) (y0 := some (false, nmD nm)) (y1 := some (false, saysT l)) (y2 := some (o, playD p)) hp1 p.length 0 none (by omega)
  have r1 : (p.length : Int) ≤ 16777216 := by omega
  simp only [saysT, playD] at hc h ⊢
  simp at h
  cases e : fstB (brk nm p l) 0 p.length with
  | none =>
    rw [e] at h
    dsimp only at h
    cases o <;> simp [F_first_without, b_first_without, hc, r1, h, optI]
  | some k =>
    rw [e] at h
    dsimp only at h
    cases o <;> simp [F_first_without, b_first_without, hc, r1, h, optI]
theorem Book.ix (b : Book) : opIx b.toD (.int 0) = some (false, nmD b.foe) ∧ opIx b.toD (.int 1) = some (false, nmD b.fri) ∧ opIx b.toD (.int 2) = some (false, saysT b.pro) ∧ opIx b.toD (.int 3) = some (false, saysT b.mus) ∧ opIx b.toD (.int 4) = some (false, .tup (b.wis.map wiD)) := by
  unfold Book.toD
  simp
theorem nm_add (a b : List Str) (h : a.length + b.length ≤ 16777216) : opAdd (nmD a) (nmD b) = some (false, nmD (a ++ b)) := by
  unfold nmD
  rw [opAdd_tup, if_pos (by simpa using h), List.map_append]
theorem Book.Form.nl {b : Book} (h : b.Form) : b.foe.length + b.fri.length ≤ 16777216 ∧ b.nm.length ≤ 1000 ∧ b.nm.length = b.foe.length + b.fri.length := by
  have := h.f2
  have := h.r2
  have e : b.nm.length = b.foe.length + b.fri.length := by unfold Book.nm; rw [List.length_append]
  exact ⟨by omega, by omega, e⟩
theorem first_breaks_sp (b : Book) (hb : b.Ok) (p : List (List Bool)) (o : Bool) (hp : PlayOk b.nm.length p) :
    F_first_breaks [(false, b.toD), (o, playD p)] = .ok (false, .tup [optI (fstB (brk b.nm p b.pro) 0 p.length), optI (fstB (brk b.nm p b.mus) 0 p.length)]) [some (false, b.toD), some (o, playD p)] := by
  have h1 := checked_ok b hb
  have nl := hb.toForm.nl
  have h2 := need_play_sp b nl.2.1 p o hp
  have h3 := first_without_sp b.nm b.pro p o hp (fun s hs => ⟨(hb.pk s hs).1, by have := (hb.pk s hs).2; omega⟩) (by have := hb.p3; omega)
  have h4 := first_without_sp b.nm b.mus p o hp (fun s hs => ⟨(hb.mq s hs).1, by have := (hb.mq s hs).2; omega⟩) (by have := hb.m3; omega)
  obtain ⟨i0, i1, i2, i3, i4⟩ := b.ix
  have ia := nm_add b.foe b.fri nl.1
  have en : b.foe ++ b.fri = b.nm := rfl
  rw [en] at ia
  simp only [playD] at h2 h3 h4 ⊢
  cases o <;> simp [F_first_breaks, b_first_breaks, h1, h2, i0, i1, i2, i3, ia, h3, h4]
/-! losses -/
def lossA (nm : List Str) (p : List (List Bool)) (w : List (Nat × Say)) (k : Nat) : Int := ((w.filter fun x => !tvS nm p x.2 k).map fun x => (x.1 : Int)).sum
def wrow (nm : List Str) (p : List (List Bool)) (x : Nat × Say) : D := .tup [.int x.1, rowD p.length (tvS nm p x.2)]
theorem loss_comp {nm : List Str} {p : List (List Bool)} {w : List (Nat × Say)} {k : Nat} (hk : k < p.length) {y0 y1 y4 y5 : Option T} :
    compL [3, 7] (gTp 2 (gCn (gN 3) (gCn (gN 7) gNl))) (bNot (sB (sBin opIx (sVar 7) (sVar 6)))) (sVar 3) (w.map (wrow nm p)) [y0, y1, none, none, y4, y5, some (false, .int k), none] =
      .ok ((w.filter fun x => !tvS nm p x.2 k).map fun x => D.int x.1) [y0, y1, none, none, y4, y5, some (false, .int k), none] :=
  compL_mf (α := Nat × Say) (w := wrow nm p) (q := fun x => !tvS nm p x.2 k) (e := fun x => D.int x.1) fun x hx => by
    have q := rowD_at (f := tvS nm p x.2) hk
    refine ⟨[y0, y1, none, some (false, .int x.1), y4, y5, some (false, .int k), some (false, rowD p.length (tvS nm p x.2))], by simp [wrow], rfl, by simp [q], fun _ => ⟨false, by simp⟩⟩
theorem loss_loop {nm : List Str} {p : List (List Bool)} {w : List (Nat × Say)} {y0 y1 : Option T} (hp : p.length ≤ 1000) : ∀ (m a : Nat) (x6 : Option T), a + m = p.length →
    ∃ y6, forL (gN 6) b_losses_L1 (rngL a 1 m) [y0, y1, some (true, .lst (w.map (wrow nm p))), none, none, some (true, .lst ((List.range a).map fun k => .int (lossA nm p w k))), x6, none] =
      .ok .nx [y0, y1, some (true, .lst (w.map (wrow nm p))), none, none, some (true, .lst ((List.range p.length).map fun k => .int (lossA nm p w k))), y6, none] := by
  intro m
  induction m with
  | zero => exact fun a x6 ha => ⟨x6, by rw [show a = p.length by omega]; rfl⟩
  | succ m ih =>
    intro a x6 ha
    have hc := loss_comp (nm := nm) (p := p) (w := w) (k := a) (by omega) (y0 := y0) (y1 := y1) (y4 := none) (y5 := some (true, .lst ((List.range a).map fun k => .int (lossA nm p w k))))
    have e : intsD ((w.filter fun x => !tvS nm p x.2 a).map fun x => D.int x.1) = some ((w.filter fun x => !tvS nm p x.2 a).map fun x => (x.1 : Int)) := intsD_gen _ _
    obtain ⟨y6, h⟩ := ih (a + 1) (some (false, .int a)) (by omega)
    refine ⟨y6, ?_⟩
    have e3 : (List.range (a + 1)).map (fun k => D.int (lossA nm p w k)) = (List.range a).map (fun k => D.int (lossA nm p w k)) ++ [.int (lossA nm p w a)] := by rw [List.range_succ]; simp
    have e4 : ((w.filter fun x => !tvS nm p x.2 a).map fun x => (x.1 : Int)).sum = lossA nm p w a := rfl
    rw [e3, Int.natCast_add, Int.natCast_one] at h
    have hz : a < 16777216 := by omega
    rw [rngL_cons]
    simp [b_losses_L1, hc, e, e4, hz, -List.map_map]
    simp only [b_losses_L1] at h
    exact h
theorem losses_sp (b : Book) (hb : b.Ok) (p : List (List Bool)) (o : Bool) (hp : PlayOk b.nm.length p) :
    F_losses [(false, b.toD), (o, playD p)] = .ok (true, .lst ((List.range p.length).map fun k => .int (lossA b.nm p b.wis k))) [some (false, b.toD), some (o, playD p)] := by
  have h1 := checked_ok b hb
  have nl := hb.toForm.nl
  have hp1 := hp.2
  have h2 := need_play_sp b nl.2.1 p o hp
  obtain ⟨i0, i1, i2, i3, i4⟩ := b.ix
  have ia := nm_add b.foe b.fri nl.1
  have en : b.foe ++ b.fri = b.nm := rfl
  rw [en] at ia
  have hc : ∀ y2 : Option T, compL [3, 4] (gTp 2 (gCn (gN 3) (gCn (gN 4) gNl))) cT b_losses_C1 (b.wis.map wiD) [some (false, b.toD), some (o, playD p), y2, none, none, none, none, none] = .ok (b.wis.map (wrow b.nm p)) [some (false, b.toD), some (o, playD p), y2, none, none, none, none, none] := fun y2 =>
    compL_m fun x hx => by
      have q := hb.wk x hx
      have h : F_truth_row _ = _ := truth_row_sp b.nm x.2 24 p o (by have := q.2.2.2; omega) q.2.2.1 hp
      refine ⟨[some (false, b.toD), some (o, playD p), y2, some (false, .int x.1), some (false, x.2.toD), none, none, none], false, by simp [wiD], rfl, ?_⟩
      simp only [playD] at h ⊢
      cases o <;> simp [b_losses_C1, i0, i1, ia, h, wrow]
  obtain ⟨y6, h⟩ := loss_loop (nm := b.nm) (p := p) (w := b.wis) (y0 := some (false, b.toD)) (y1 := some (o, playD p)) hp1 p.length 0 none (by omega)
  have r1 : (p.length : Int) ≤ 16777216 := by omega
  simp only [playD] at h2 hc h ⊢
  simp at h
  cases o <;> simp [F_losses, b_losses, h1, h2, i4, hc, r1, h]
/-! the law's own -/
theorem l_kept_sp (nm : List Str) (l : List Say) (hn : ∀ n ∈ nm, okStr n) (hl : ∀ s ∈ l, s.Over nm ∧ s.dep ≤ 24) (p : List (List Bool)) (o : Bool) (hp : PlayOk nm.length p) (k : Nat) (hk : k + 1 = p.length) :
    F_l_kept [(false, nmD nm), (false, saysT l), (o, playD p)] = .ok (false, .bl (!brk nm p l k)) [some (false, nmD nm), some (false, saysT l), some (o, playD p)] := by
  have hc : compL [3] (gN 3) b_l_kept_D1 (sVar 3) (l.map Say.toD) [some (false, nmD nm), some (false, saysT l), some (o, playD p), none] = .ok ((l.filter fun s => !tvS nm p s k).map Say.toD) [some (false, nmD nm), some (false, saysT l), some (o, playD p), none] :=
    compL_mf fun s hs => by
      have h : F_l_holds _ = _ := l_holds_sp nm p o hp s 24 k (hl s hs).2 (hl s hs).1 (by omega)
      have e : (p.length : Int) - 1 = k := by omega
      refine ⟨_, rfl, rfl, ?_, fun _ => ⟨false, by simp⟩⟩
      simp only [playD] at h ⊢
      cases o <;> simp [b_l_kept_D1, h, e]
  have e : eqD (.lst ((l.filter fun s => !tvS nm p s k).map Say.toD)) (.lst []) = some (!brk nm p l k) := by
    rw [eqD_lnil (n := 25) (okN_lst fun x hx => ?_) (by decide)]
    · congr 1
      rw [Bool.eq_iff_iff]
      unfold brk
      simp
    · obtain ⟨s, hs, rfl⟩ := List.mem_map.mp hx
      have hs2 := (List.mem_filter.mp hs).1
      exact okN_mono (Say.okN hn s (hl s hs2).1) (hl s hs2).2
  simp only [saysT] at hc ⊢
  simp [F_l_kept, b_l_kept, hc, e]
theorem l_loss_sp (b : Book) (hb : b.Form) (p : List (List Bool)) (o : Bool) (hp : PlayOk b.nm.length p) (k : Nat) (hk : k + 1 = p.length) :
    F_l_loss [(false, b.toD), (o, playD p)] = .ok (false, .int (lossA b.nm p b.wis k)) [some (false, b.toD), some (o, playD p)] := by
  have nl := hb.nl
  obtain ⟨i0, i1, i2, i3, i4⟩ := b.ix
  have ia := nm_add b.foe b.fri nl.1
  have en : b.foe ++ b.fri = b.nm := rfl
  rw [en] at ia
  have hc : compL [3] (gN 3) b_l_loss_D1 (sBin opIx (sVar 3) (sC (.int 0))) (b.wis.map wiD) [some (false, b.toD), some (o, playD p), some (false, nmD b.nm), none] = .ok ((b.wis.filter fun x => !tvS b.nm p x.2 k).map fun x => D.int x.1) [some (false, b.toD), some (o, playD p), some (false, nmD b.nm), none] :=
    compL_mf fun x hx => by
      have q := hb.wk x hx
      have h : F_l_holds _ = _ := l_holds_sp b.nm p o hp x.2 24 k (by have := q.2.2.2; omega) q.2.2.1 (by omega)
      have e : (p.length : Int) - 1 = k := by omega
      refine ⟨_, rfl, rfl, ?_, fun _ => ⟨false, by simp [wiD]⟩⟩
      simp only [playD] at h ⊢
      cases o <;> simp [b_l_loss_D1, h, e, wiD]
  have e : intsD ((b.wis.filter fun x => !tvS b.nm p x.2 k).map fun x => D.int x.1) = some ((b.wis.filter fun x => !tvS b.nm p x.2 k).map fun x => (x.1 : Int)) := intsD_gen _ _
  have e4 : ((b.wis.filter fun x => !tvS b.nm p x.2 k).map fun x => (x.1 : Int)).sum = lossA b.nm p b.wis k := rfl
  simp [F_l_loss, b_l_loss, i0, i1, ia, i4, hc, e, e4]
end Lz
/-! settings, machines -/
namespace Lz
open PySem PySem.Spec PyProof.Rows L2
def setL : Nat → List (List Bool)
  | 0 => [[]]
  | n + 1 => (setL n).flatMap fun s => [s ++ [false], s ++ [true]]
theorem setL_mem : ∀ (n : Nat) (s : List Bool), s ∈ setL n ↔ s.length = n
  | 0, s => by simp [setL, List.length_eq_zero_iff]
  | n + 1, s => by
    simp only [setL, List.mem_flatMap, List.mem_cons, List.not_mem_nil, or_false]
    constructor
    · rintro ⟨t, ht, rfl | rfl⟩ <;> simp [(setL_mem n t).mp ht]
    · intro h
      have hne : s ≠ [] := by intro e; subst e; simp at h
      refine ⟨s.dropLast, (setL_mem n _).mpr (by rw [List.length_dropLast]; omega), ?_⟩
      have e : s.dropLast ++ [s.getLast hne] = s := List.dropLast_concat_getLast hne
      cases hb : s.getLast hne with
      | false => left; rw [hb] at e; exact e.symm
      | true => right; rw [hb] at e; exact e.symm
theorem setL_len : ∀ n, (setL n).length = 2 ^ n
  | 0 => rfl
  | n + 1 => by
    have : ((setL n).flatMap fun s => [s ++ [false], s ++ [true]]).length = 2 * (setL n).length := by
      induction setL n with
      | nil => rfl
      | cons a l ih => rw [List.flatMap_cons, List.length_append, ih]; simp; omega
    rw [setL, this, setL_len n, Nat.pow_succ]
    omega
theorem setD_app (s : List Bool) (b : Bool) : setD (s ++ [b]) = .tup (s.map D.bl ++ [.bl b]) := by simp [setD]
theorem set_inner {y0 y1 y2 : Option T} {k : Nat} (hk : k ≤ 1000) : ∀ (l acc : List (List Bool)) (x4 : Option T), (∀ s ∈ l, s.length ≤ k) → acc.length + 2 * l.length ≤ 16777216 →
    ∃ y4, forL (gN 4) b_settings_of_L1 (l.map setD) [y0, y1, y2, some (true, .lst (acc.map setD)), x4] = .ok .nx [y0, y1, y2, some (true, .lst ((acc ++ l.flatMap fun s => [s ++ [false], s ++ [true]]).map setD)), y4] := by
  intro l
  induction l with
  | nil => intro acc x4 _ _; exact ⟨x4, by simp⟩
  | cons s l ih =>
    intro acc x4 hl ha
    simp only [List.length_cons] at ha
    obtain ⟨y4, h⟩ := ih (acc ++ [s ++ [false], s ++ [true]]) (some (false, setD s)) (fun t ht => hl t (List.mem_cons_of_mem _ ht)) (by simp; omega)
    refine ⟨y4, ?_⟩
    have e1 : ∀ b, opAdd (setD s) (.tup [.bl b]) = some (false, setD (s ++ [b])) := fun b => by
      have hs := hl s List.mem_cons_self
      unfold setD
      rw [opAdd_tup, if_pos (by simp; omega), List.map_append]
      rfl
    have e3 : acc.length + 2 ≤ 16777216 := by omega
    have e4 : (acc ++ (s :: l).flatMap fun s => [s ++ [false], s ++ [true]]) = acc ++ [s ++ [false], s ++ [true]] ++ l.flatMap fun s => [s ++ [false], s ++ [true]] := by simp
    rw [e4, ← h]
    simp [b_settings_of_L1, e1, e3]
theorem set_outer {y0 : Option T} {n : Nat} (hn : n ≤ 10) : ∀ (m a : Nat) (o : Bool) (x2 x3 x4 : Option T), a + m = n → (0 < a → o = false) →
    ∃ o2 y2 y3 y4, (0 < n → o2 = false) ∧ forL (gN 2) b_settings_of_L2 (rngL a 1 m) [y0, some (o, .lst ((setL a).map setD)), x2, x3, x4] = .ok .nx [y0, some (o2, .lst ((setL n).map setD)), y2, y3, y4] := by
  intro m
  induction m with
  | zero => intro a o x2 x3 x4 ha ho; have : a = n := by omega
            subst this; exact ⟨o, x2, x3, x4, ho, rfl⟩
  | succ m ih =>
    intro a o x2 x3 x4 ha ho
    have hp : 2 ^ a ≤ 2 ^ 10 := Nat.pow_le_pow_right (by decide) (by omega)
    have hlen := setL_len a
    have hq := fun y1 => set_inner (y0 := y0) (y1 := y1) (y2 := some (false, .int a)) (k := a) (by omega) (setL a) [] x4 (fun s hs => Nat.le_of_eq ((setL_mem a s).mp hs)) (by simp; omega)
    have e1 : ([] ++ (setL a).flatMap fun s => [s ++ [false], s ++ [true]]) = setL (a + 1) := rfl
    cases o with
    | true =>
      obtain ⟨z4, h1⟩ := hq none
      obtain ⟨o2, y2, y3, y4, ho2, h⟩ := ih (a + 1) false (some (false, .int a)) (some (false, .lst ((setL (a + 1)).map setD))) z4 (by omega) (fun _ => rfl)
      refine ⟨o2, y2, y3, y4, ho2, ?_⟩
      rw [e1] at h1
      rw [Int.natCast_add, Int.natCast_one] at h
      rw [rngL_cons, ← h]
      simp only [List.map_nil] at h1
      simp [b_settings_of_L2, h1]
    | false =>
      obtain ⟨z4, h1⟩ := hq (some (false, .lst ((setL a).map setD)))
      obtain ⟨o2, y2, y3, y4, ho2, h⟩ := ih (a + 1) false (some (false, .int a)) (some (false, .lst ((setL (a + 1)).map setD))) z4 (by omega) (fun _ => rfl)
      refine ⟨o2, y2, y3, y4, ho2, ?_⟩
      rw [e1] at h1
      rw [Int.natCast_add, Int.natCast_one] at h
      rw [rngL_cons, ← h]
      simp only [List.map_nil] at h1
      simp [b_settings_of_L2, h1]
theorem settings_of_sp (n : Nat) (h0 : 0 < n) (hn : n ≤ 10) : F_settings_of [(false, .int n)] = .ok (false, .lst ((setL n).map setD)) [some (false, .int n)] := by
  obtain ⟨o2, y2, y3, y4, ho2, h⟩ := set_outer (y0 := some (false, .int n)) hn n 0 true none none none (by omega) (fun h => absurd h (by decide))
  have r1 : (n : Int) ≤ 16777216 := by omega
  rw [ho2 h0] at h
  have e : (setL 0).map setD = [.tup []] := rfl
  rw [e] at h
  simp at h
  simp [F_settings_of, b_settings_of, r1, h]
theorem l_settings_eq : F_l_settings = F_settings_of := rfl
end Lz
namespace Lz
open PySem PySem.Spec PyProof.Rows L2
abbrev Mach := List (List (List Bool × Nat))
def pairD (pr : List Bool × Nat) : D := .tup [setD pr.1, .int pr.2]
def standD (st : List (List Bool × Nat)) : D := .tup (st.map pairD)
def machD (m : Mach) : D := .tup (m.map standD)
theorem ptSet : PT setD 1 := PT.bl.tup
theorem ptPlay : PT playD 2 := ptSet.lst
theorem ptPair : PT pairD 2 := ptSet.pair (PT.nat.mono (by decide))
theorem ptStand : PT standD 3 := ptPair.tup
theorem ptMach : PT machD 4 := ptStand.tup
structure MOk (f r : Nat) (m : Mach) : Prop where
  m1 : 1 ≤ m.length
  m64 : m.length ≤ 64
  sl : ∀ st ∈ m, st.length = 2 ^ f
  pl : ∀ st ∈ m, ∀ pr ∈ st, pr.1.length = r ∧ pr.2 < m.length
theorem stand_loop {b : Book} {st : List (List Bool × Nat)} {many : Nat} {y1 : Option T} (h : ∀ pr ∈ st, pr.1.length = b.fri.length ∧ pr.2 < many) (x3 : Option T) :
    ∃ y3, forL (gN 3) b_is_stand_L1 (st.map pairD) [some (false, b.toD), y1, some (false, .int many), x3] = .ok .nx [some (false, b.toD), y1, some (false, .int many), y3] := by
  have q := forL_fold (g := gN 3) (f := b_is_stand_L1) (fun x3 : Option T => [some (false, b.toD), y1, some (false, .int many), x3]) (fun _ d => some (false, d)) (fun _ => True) (st.map pairD) x3 trivial fun a d hd _ => by
    obtain ⟨pr, hpr, rfl⟩ := List.mem_map.mp hd
    obtain ⟨h1, h2⟩ := h pr hpr
    have q1 := is_setting_sp pr.1
    have q2 := between_sp (.int pr.2) 0 ((many : Int) - 1) rfl
    have q3 : betw 0 ((many : Int) - 1) (.int pr.2) = true := by simp only [betw, Bool.and_eq_true, decide_eq_true_eq]; omega
    rw [q3] at q2
    rw [h1] at q1
    obtain ⟨i0, i1, i2, i3, i4⟩ := b.ix
    have hlen : cfLen [nmD b.fri] = some (false, .int b.fri.length) := by unfold nmD; simp
    refine ⟨_, rfl, ?_, trivial⟩
    simp [b_is_stand_L1, pairD, i1, hlen, q1, q2]
  exact ⟨_, q.1⟩
theorem is_stand_sp (b : Book) (hb : b.Form) (st : List (List Bool × Nat)) (many : Nat) (hl : st.length = 2 ^ b.foe.length) (h : ∀ pr ∈ st, pr.1.length = b.fri.length ∧ pr.2 < many) :
    F_is_stand [(false, b.toD), (false, standD st), (false, .int many)] = .ok (false, .bl true) [some (false, b.toD), some (false, standD st), some (false, .int many)] := by
  obtain ⟨y3, q⟩ := stand_loop (y1 := some (false, standD st)) h none
  obtain ⟨i0, i1, i2, i3, i4⟩ := b.ix
  have hlen : cfLen [nmD b.foe] = some (false, .int b.foe.length) := by unfold nmD; simp
  have f1 := hb.f1
  have f2 := hb.f2
  have s := settings_of_sp b.foe.length (by omega) (by omega)
  have sl := setL_len b.foe.length
  simp only [standD] at q ⊢
  simp [F_is_stand, b_is_stand, i0, hlen, s, sl, hl, q]
theorem is_machine_sp (b : Book) (hb : b.Form) (m : Mach) (h : MOk b.foe.length b.fri.length m) : F_is_machine [(false, b.toD), (false, machD m)] = .ok (false, .bl true) [some (false, b.toD), some (false, machD m)] := by
  have hc : compL [2] (gN 2) cT b_is_machine_C1 (m.map standD) [some (false, b.toD), some (false, machD m), none] = .ok (m.map fun _ => .bl true) [some (false, b.toD), some (false, machD m), none] :=
    compL_m fun st hs => by
      have q := is_stand_sp b hb st m.length (h.sl st hs) (h.pl st hs)
      have hlen : cfLen [machD m] = some (false, .int m.length) := by unfold machD; simp
      exact ⟨_, false, rfl, rfl, by simp [b_is_machine_C1, hlen, q]⟩
  have e := blsD_tt m
  have e2 := all_tt m
  have m1 : 1 ≤ (m.length : Int) := by have := h.m1; omega
  have m2 : (m.length : Int) ≤ 64 := by have := h.m64; omega
  simp only [machD] at hc ⊢
  simp [F_is_machine, b_is_machine, m1, m2, hc, e, e2, -List.map_map]
theorem checked_machine_sp (b : Book) (hb : b.Ok) (m : Mach) (h : MOk b.foe.length b.fri.length m) : F_checked_machine [(false, b.toD), (false, machD m)] = .ok (false, machD m) [some (false, b.toD), some (false, machD m)] := by
  have h1 := is_machine_sp b hb.toForm m h
  have h2 := checked_ok b hb
  have h3 : F_need_machine [(false, b.toD), (false, machD m)] = .ok (false, .non) [some (false, b.toD), some (false, machD m)] := by
    simp [F_need_machine, b_need_machine, h1]
  simp [F_checked_machine, b_checked_machine, h2, h3]
/-! running -/
def stepM (f : Nat) (m : Mach) (st : Nat) (x : List Bool) : List Bool × Nat := (m.getD st []).getD (ixOf x (setL f)) ([], 0)
def runP (f : Nat) (m : Mach) : List (List Bool) → Nat → List (List Bool)
  | [], _ => []
  | x :: xs, st => (x ++ (stepM f m st x).1) :: runP f m xs (stepM f m st x).2
theorem idx_lt {f : Nat} {x : List Bool} (h : x.length = f) : ixOf x (setL f) < 2 ^ f := by
  rw [← setL_len f]
  exact ixOf_lt ((setL_mem f x).mpr h)
theorem stepM_ok {f r : Nat} {m : Mach} (h : MOk f r m) {st : Nat} {x : List Bool} (hs : st < m.length) (hx : x.length = f) :
    opIx (machD m) (.int st) = some (false, standD m[st]) ∧ opIx (standD m[st]) (.int (ixOf x (setL f) : Nat)) = some (false, pairD (stepM f m st x)) ∧ (stepM f m st x).1.length = r ∧ (stepM f m st x).2 < m.length := by
  have h1 := h.sl m[st] (List.getElem_mem _)
  have h2 := idx_lt hx
  have e : stepM f m st x = m[st][ixOf x (setL f)]'(by omega) := by
    unfold stepM
    simp only [List.getD_eq_getElem?_getD, List.getElem?_eq_getElem hs, Option.getD_some]
    rw [List.getElem?_eq_getElem (by omega), Option.getD_some]
  refine ⟨?_, ?_, ?_⟩
  · unfold machD
    rw [opIx_tup, atI_lt (by simpa using hs)]
    simp
  · unfold standD
    rw [opIx_tup, atI_lt (by rw [List.length_map]; omega)]
    simp [e]
  · rw [e]
    exact h.pl m[st] (List.getElem_mem _) _ (List.getElem_mem _)
theorem set_add (a b : List Bool) (h : a.length + b.length ≤ 16777216) : opAdd (setD a) (setD b) = some (false, setD (a ++ b)) := by
  unfold setD
  rw [opAdd_tup, if_pos (by simpa using h), List.map_append]
theorem run_loop {f r : Nat} {m : Mach} (h : MOk f r m) (hf : f ≤ 2) (hr : r ≤ 2) {y0 y2 : Option T} : ∀ (xs : List (List Bool)) (st : Nat) (acc : List (List Bool)) (x3 x7 : Option T), (∀ x ∈ xs, x.length = f) → st < m.length → acc.length + xs.length ≤ 10000 →
    ∃ y3 st2 y7, forL (gN 3) b_run_L1 (xs.map setD) [y0, some (false, machD m), y2, x3, some (false, .lst ((setL f).map setD)), some (false, .int st), some (true, .lst (acc.map setD)), x7] =
      .ok .nx [y0, some (false, machD m), y2, y3, some (false, .lst ((setL f).map setD)), some (false, .int (st2 : Nat)), some (true, .lst ((acc ++ runP f m xs st).map setD)), y7] := by
  intro xs
  induction xs with
  | nil => intro st acc x3 x7 _ _ _; exact ⟨x3, st, x7, by simp [runP]⟩
  | cons x xs ih =>
    intro st acc x3 x7 hx hs ha
    simp only [List.length_cons] at ha
    have hxl := hx x List.mem_cons_self
    obtain ⟨e1, e2, e3, e4⟩ := stepM_ok h hs hxl
    have e5 := ptSet.index (by decide) ((setL_mem f x).mpr hxl)
    have e6 := set_add x (stepM f m st x).1 (by omega)
    obtain ⟨y3, st2, y7, q⟩ := ih (stepM f m st x).2 (acc ++ [x ++ (stepM f m st x).1]) (some (false, setD x)) (some (false, setD (stepM f m st x).1)) (fun z hz => hx z (List.mem_cons_of_mem _ hz)) e4 (by simp; omega)
    refine ⟨y3, st2, y7, ?_⟩
    have e7 : acc ++ runP f m (x :: xs) st = acc ++ [x ++ (stepM f m st x).1] ++ runP f m xs (stepM f m st x).2 := by simp [runP]
    have hz : acc.length < 16777216 := by omega
    rw [e7, ← q]
    simp [b_run_L1, e1, e2, e5, pairD, e6, hz]
theorem runP_len (f : Nat) (m : Mach) : ∀ (xs : List (List Bool)) (st : Nat), (runP f m xs st).length = xs.length
  | [], _ => rfl
  | x :: xs, st => by simp [runP, runP_len f m xs]
theorem run_sp (b : Book) (hb : b.Ok) (m : Mach) (h : MOk b.foe.length b.fri.length m) (xs : List (List Bool)) (o : Bool) (hx : ∀ x ∈ xs, x.length = b.foe.length) (hl : xs.length ≤ 1000) :
    F_run [(false, b.toD), (false, machD m), (o, playD xs)] = .ok (true, playD (runP b.foe.length m xs 0)) [some (false, b.toD), some (false, machD m), some (o, playD xs)] := by
  have h1 := checked_machine_sp b hb m h
  obtain ⟨i0, i1, i2, i3, i4⟩ := b.ix
  have hlen : cfLen [nmD b.foe] = some (false, .int b.foe.length) := by unfold nmD; simp
  have f1 := hb.toForm.f1
  have f2 := hb.toForm.f2
  have r2 := hb.toForm.r2
  have hc : ∀ y2 : Option T, compL [3] (gN 3) cT b_run_C1 (xs.map setD) [some (false, b.toD), some (false, machD m), y2, none, none, none, none, none] = .ok (xs.map fun _ => .bl true) [some (false, b.toD), some (false, machD m), y2, none, none, none, none, none] := fun y2 =>
    compL_m fun x hx2 => by
      have q := is_setting_sp x
      rw [hx x hx2] at q
      exact ⟨_, false, rfl, rfl, by simp [b_run_C1, i0, hlen, q]⟩
  have e := blsD_tt xs
  have e2 := all_tt xs
  have s := settings_of_sp b.foe.length (by omega) (by omega)
  have hm := h.m1
  have lp := fun y2 => run_loop h (by omega) (by omega) (y0 := some (false, b.toD)) (y2 := y2) xs 0 [] none none hx (by omega) (by simp; omega)
  simp only [playD]
  cases o with
  | true =>
    obtain ⟨y3, st2, y7, q⟩ := lp none
    simp at q
    simp [F_run, b_run, h1, hc, e, e2, i0, hlen, s, q, -List.map_map]
  | false =>
    obtain ⟨y3, st2, y7, q⟩ := lp (some (false, .lst (xs.map setD)))
    simp at q
    simp [F_run, b_run, h1, hc, e, e2, i0, hlen, s, q, -List.map_map]
end Lz
/-! machines, settings as a law draws them -/
namespace Lz
open PySem PySem.Spec PyProof.Rows L2
theorem l_run_loop {f r : Nat} {m : Mach} (h : MOk f r m) (hf0 : 0 < f) (hf : f ≤ 2) (hr : r ≤ 2) {y1 : Option T} : ∀ (xs : List (List Bool)) (st : Nat) (acc : List (List Bool)) (x4 x5 : Option T), (∀ x ∈ xs, x.length = f) → st < m.length → acc.length + xs.length ≤ 10000 →
    ∃ st2 y4 y5, forL (gN 4) b_l_run_L1 (xs.map setD) [some (false, machD m), y1, some (false, .int st), some (true, .lst (acc.map setD)), x4, x5] =
      .ok .nx [some (false, machD m), y1, some (false, .int (st2 : Nat)), some (true, .lst ((acc ++ runP f m xs st).map setD)), y4, y5] := by
  intro xs
  induction xs with
  | nil => intro st acc x4 x5 _ _ _; exact ⟨st, x4, x5, by simp [runP]⟩
  | cons x xs ih =>
    intro st acc x4 x5 hx hs ha
    simp only [List.length_cons] at ha
    have hxl := hx x List.mem_cons_self
    obtain ⟨e1, e2, e3, e4⟩ := stepM_ok h hs hxl
    have e5 := ptSet.index (by decide) ((setL_mem f x).mpr hxl)
    have e6 := set_add x (stepM f m st x).1 (by omega)
    have e8 := settings_of_sp f hf0 (by omega)
    rw [← l_settings_eq] at e8
    have hlen : cfLen [setD x] = some (false, .int f) := by unfold setD; simp [hxl]
    obtain ⟨st2, y4, y5, q⟩ := ih (stepM f m st x).2 (acc ++ [x ++ (stepM f m st x).1]) (some (false, setD x)) (some (false, setD (stepM f m st x).1)) (fun z hz => hx z (List.mem_cons_of_mem _ hz)) e4 (by simp; omega)
    refine ⟨st2, y4, y5, ?_⟩
    have e7 : acc ++ runP f m (x :: xs) st = acc ++ [x ++ (stepM f m st x).1] ++ runP f m xs (stepM f m st x).2 := by simp [runP]
    have hz : acc.length < 16777216 := by omega
    rw [e7, ← q]
    simp [b_l_run_L1, e1, e2, e5, pairD, e6, hz, hlen, e8]
theorem l_run_sp {f r : Nat} {m : Mach} (h : MOk f r m) (hf0 : 0 < f) (hf : f ≤ 2) (hr : r ≤ 2) (xs : List (List Bool)) (o : Bool) (hx : ∀ x ∈ xs, x.length = f) (hl : xs.length ≤ 1000) :
    F_l_run [(false, machD m), (o, playD xs)] = .ok (true, playD (runP f m xs 0)) [some (false, machD m), some (o, playD xs)] := by
  have hm := h.m1
  have lp := fun y1 => l_run_loop h hf0 hf hr (y1 := y1) xs 0 [] none none hx (by omega) (by simp; omega)
  simp only [playD]
  cases o with
  | true =>
    obtain ⟨st2, y4, y5, q⟩ := lp none
    simp at q
    simp [F_l_run, b_l_run, q, -List.map_map]
  | false =>
    obtain ⟨st2, y4, y5, q⟩ := lp (some (false, .lst (xs.map setD)))
    simp at q
    simp [F_l_run, b_l_run, q, -List.map_map]
section
variable {ns : List Int} (hl : ns.length ≤ 63) {at_ f r many : Nat} (hm0 : 0 < many) (hm : many ≤ 64)
include hl hm0 hm
theorem mach_inner {y2 y3 y4 y7 : Option T} {k : Nat} (hr : r ≤ 2) : ∀ (m a : Nat) (row : List (List Bool × Nat)) (x10 x11 : Option T), (∀ pr ∈ row, pr.1.length = r ∧ pr.2 < many) → row.length + m ≤ 1000 →
    ∃ (row2 : List (List Bool × Nat)) (y10 y11 : Option T), (∀ pr ∈ row2, pr.1.length = r ∧ pr.2 < many) ∧ row2.length = row.length + m ∧
      forL (gN 10) b_l_machine_L1 (rngL a 1 m) [some (false, .scr ns), some (false, .int at_), y2, y3, y4, some (false, .int many), some (false, .lst ((setL r).map setD)), y7, some (false, .int k), some (true, .lst (row.map pairD)), x10, x11] =
        .ok .nx [some (false, .scr ns), some (false, .int at_), y2, y3, y4, some (false, .int many), some (false, .lst ((setL r).map setD)), y7, some (false, .int k), some (true, .lst (row2.map pairD)), y10, y11] := by
  intro m
  induction m with
  | zero => exact fun a row x10 x11 h _ => ⟨row, x10, x11, h, rfl, rfl⟩
  | succ m ih =>
    intro a row x10 x11 h ha
    have h1 := mixed_sp ns hl (at_ + 1 + 4 * k + a) (4 * many) (by omega)
    have l1 := mixed_lt ns (at_ + 1 + 4 * k + a) (4 * many) (by omega)
    generalize mixed ns (at_ + 1 + 4 * k + a) (4 * many) = c at h1 l1
    have sl := setL_len r
    have s0 : 0 < (setL r).length := by rw [sl]; exact Nat.two_pow_pos r
    have e1 : (c : Int).fmod 4 = ((c % 4 : Nat) : Int) := fmod_nat c 4
    have e2 : ((c % 4 : Nat) : Int).fmod (((setL r).length : Nat) : Int) = ((c % 4 % (setL r).length : Nat) : Int) := fmod_nat _ _
    have e3 : (c : Int).fdiv 4 = ((c / 4 : Nat) : Int) := fdiv_nat c 4
    have e4 : ¬ (((setL r).length : Nat) : Int) = 0 := by omega
    have hi : c % 4 % (setL r).length < (setL r).length := Nat.mod_lt _ s0
    have e5 : atI ((setL r).map setD) ((c % 4 % (setL r).length : Nat) : Int) = some (setD (setL r)[c % 4 % (setL r).length]) := by rw [atI_lt (by simpa using hi)]; simp
    generalize hgi : c % 4 % (setL r).length = ii at e2 hi e5
    obtain ⟨row2, y10, y11, q1, q2, q3⟩ := ih (a + 1) (row ++ [((setL r)[ii], c / 4)]) (some (false, .int a)) (some (false, .int c)) (fun pr hp => by
      rcases List.mem_append.mp hp with hp | hp
      · exact h pr hp
      · rw [List.mem_singleton.mp hp]
        exact ⟨(setL_mem r _).mp (List.getElem_mem _), by show c / 4 < many; omega⟩) (by simp; omega)
    refine ⟨row2, y10, y11, q1, by rw [q2]; simp; omega, ?_⟩
    rw [Int.natCast_add, Int.natCast_one] at q3
    simp at h1
    have hz : row.length < 16777216 := by omega
    have e6 : ¬ setL r = [] := by intro e; rw [e] at s0; simp at s0
    rw [rngL_cons, ← q3]
    simp only [Int.natCast_emod, Int.cast_ofNat_Int] at e1 e2
    simp [b_l_machine_L1, h1, e1, e2, e3, e4, e5, e6, hz, pairD]
end
theorem mach_outer {ns : List Int} (hl : ns.length ≤ 63) {at_ f r many : Nat} (hm0 : 0 < many) (hm : many ≤ 64) (hf0 : 0 < f) (hf : f ≤ 2) (hr : r ≤ 2) {y3 y4 : Option T} : ∀ (m a : Nat) (done : Mach) (x8 x9 x10 x11 : Option T), (∀ st ∈ done, st.length = 2 ^ f ∧ ∀ pr ∈ st, pr.1.length = r ∧ pr.2 < many) → done.length + m ≤ 1000 →
    ∃ (done2 : Mach) (y8 y9 y10 y11 : Option T), (∀ st ∈ done2, st.length = 2 ^ f ∧ ∀ pr ∈ st, pr.1.length = r ∧ pr.2 < many) ∧ done2.length = done.length + m ∧
      forL (gN 8) b_l_machine_L2 (rngL a 1 m) [some (false, .scr ns), some (false, .int at_), some (false, .int f), y3, y4, some (false, .int many), some (false, .lst ((setL r).map setD)), some (true, .lst (done.map standD)), x8, x9, x10, x11] =
        .ok .nx [some (false, .scr ns), some (false, .int at_), some (false, .int f), y3, y4, some (false, .int many), some (false, .lst ((setL r).map setD)), some (true, .lst (done2.map standD)), y8, y9, y10, y11] := by
  intro m
  induction m with
  | zero => exact fun a done x8 x9 x10 x11 h _ => ⟨done, x8, x9, x10, x11, h, rfl, rfl⟩
  | succ m ih =>
    intro a done x8 x9 x10 x11 h ha
    have p2 : 2 ^ f ≤ 2 ^ 2 := Nat.pow_le_pow_right (by decide) hf
    obtain ⟨row, z10, z11, r1, r2, r3⟩ := mach_inner hl hm0 hm (at_ := at_) (r := r) (y2 := some (false, .int f)) (y3 := y3) (y4 := y4) (y7 := some (true, .lst (done.map standD))) (k := a) hr (2 ^ f) 0 [] x10 x11 (fun pr hp => by cases hp) (by simp; omega)
    obtain ⟨done2, y8, y9, y10, y11, q1, q2, q3⟩ := ih (a + 1) (done ++ [row]) (some (false, .int a)) (some (true, .lst (row.map pairD))) z10 z11 (fun st hst => by
      rcases List.mem_append.mp hst with hst | hst
      · exact h st hst
      · rw [List.mem_singleton.mp hst]
        exact ⟨by simpa using r2, r1⟩) (by simp; omega)
    refine ⟨done2, y8, y9, y10, y11, q1, by rw [q2]; simp; omega, ?_⟩
    have e8 := settings_of_sp f hf0 (by omega)
    rw [← l_settings_eq] at e8
    have sl := setL_len f
    obtain ⟨L, hL⟩ : ∃ L : Nat, (setL f).length = L := ⟨_, rfl⟩
    have g1 : -4611686018427387904 ≤ (L : Int) := by omega
    have g2 : (L : Int) ≤ 16777216 := by omega
    have g3 : 2 ^ f = L := by omega
    rw [Int.natCast_add, Int.natCast_one] at q3
    rw [g3] at r3
    have hz : done.length < 16777216 := by omega
    rw [rngL_cons, ← q3]
    simp at r3
    simp [b_l_machine_L2, e8, hL, g1, g2, r3, hz, standD]
theorem l_machine_sp (ns : List Int) (hl : ns.length ≤ 63) (at_ f r most : Nat) (hf0 : 0 < f) (hf : f ≤ 2) (hr0 : 0 < r) (hr : r ≤ 2) (h0 : 0 < most) (hm : most ≤ 64) : ∃ m : Mach, MOk f r m ∧ m.length ≤ most ∧
    F_l_machine [(false, .scr ns), (false, .int at_), (false, .int f), (false, .int r), (false, .int most)] = .ok (false, machD m) [some (false, .scr ns), some (false, .int at_), some (false, .int f), some (false, .int r), some (false, .int most)] := by
  have h1 := mixed_sp ns hl at_ most h0
  have l1 := mixed_lt ns at_ most h0
  generalize mixed ns at_ most = c at h1 l1
  obtain ⟨m, y8, y9, y10, y11, q1, q2, q3⟩ := mach_outer hl (at_ := at_) (f := f) (r := r) (many := 1 + c) (by omega) (by omega) hf0 hf hr (y3 := some (false, .int r)) (y4 := some (false, .int most)) (1 + c) 0 [] none none none none (fun st h => by cases h) (by simp; omega)
  have hl2 : m.length = 1 + c := by simpa using q2
  refine ⟨m, ⟨by omega, by omega, fun st h => (q1 st h).1, fun st h pr hp => by rw [hl2]; exact (q1 st h).2 pr hp⟩, by omega, ?_⟩
  have e8 := settings_of_sp r hr0 (by omega)
  rw [← l_settings_eq] at e8
  have g1 : -4611686018427387904 ≤ (1 : Int) + c := by omega
  have g2 : (1 : Int) + c ≤ 16777216 := by omega
  have g3 : ((1 : Int) + c).toNat = 1 + c := by omega
  rw [Int.natCast_add, Int.natCast_one] at q3
  simp at q3
  simp [F_l_machine, b_l_machine, h1, e8, g1, g2, g3, q3, machD]
theorem sets_loop {ns : List Int} {y1 y2 y3 : Option T} {f seed : Nat} (hs : seed < 10 ^ 9) (hf : f ≤ 2) : ∀ (m : Nat) (a : Int) (done : List (List Bool)) (x7 x8 : Option T), 0 ≤ a → a + m ≤ 1000 → (∀ s ∈ done, s.length = f) → done.length + m ≤ 1000 →
    ∃ (p : List (List Bool)) (y7 y8 : Option T), (∀ s ∈ p, s.length = f) ∧ p.length = done.length + m ∧ forL (gN 7) b_l_sets_L1 (rngL a 1 m) [some (false, .scr ns), y1, y2, y3, some (false, .int seed), some (false, .lst ((setL f).map setD)), some (true, playD done), x7, x8] =
      .ok .nx [some (false, .scr ns), y1, y2, y3, some (false, .int seed), some (false, .lst ((setL f).map setD)), some (true, playD p), y7, y8] := by
  intro m
  induction m with
  | zero => exact fun a done x7 x8 _ _ hd _ => ⟨done, x7, x8, hd, rfl, rfl⟩
  | succ m ih =>
    intro a done x7 x8 h0 ha hd hl
    generalize hr : ((seed : Int) + 104729 * a * a + 7919 * a) * 48271 = v
    have e1 : v.fmod 2147483647 = v % 2147483647 := fmod_pos v 2147483647
    have e2 : 0 ≤ v % 2147483647 := Int.emod_nonneg _ (by decide)
    obtain ⟨u, hu⟩ : ∃ u : Nat, (u : Int) = v % 2147483647 := ⟨(v % 2147483647).toNat, Int.toNat_of_nonneg e2⟩
    have e3 : v.fmod 2147483647 = u := by rw [e1, hu]
    have sl := setL_len f
    have s0 : 0 < (setL f).length := by rw [sl]; exact Nat.two_pow_pos f
    have e4 : (u : Int).fdiv 13 = ((u / 13 : Nat) : Int) := fdiv_nat u 13
    have e5 : ((u / 13 : Nat) : Int).fmod (((setL f).length : Nat) : Int) = ((u / 13 % (setL f).length : Nat) : Int) := fmod_nat _ _
    have hi : u / 13 % (setL f).length < (setL f).length := Nat.mod_lt _ s0
    have e7 : atI ((setL f).map setD) ((u / 13 % (setL f).length : Nat) : Int) = some (setD (setL f)[u / 13 % (setL f).length]) := by rw [atI_lt (by simpa using hi)]; simp
    generalize hgi : u / 13 % (setL f).length = ii at e5 hi e7
    have e6 : ¬ setL f = [] := by intro e; rw [e] at s0; simp at s0
    obtain ⟨p, y7, y8, q1, q2, q3⟩ := ih (a + 1) (done ++ [(setL f)[ii]]) (some (false, .int a)) (some (false, .int u)) (by omega) (by omega) (fun t ht => by
      rcases List.mem_append.mp ht with ht | ht
      · exact hd t ht
      · rw [List.mem_singleton.mp ht]; exact (setL_mem f _).mp (List.getElem_mem _)) (by simp; omega)
    refine ⟨p, y7, y8, q1, by rw [q2]; simp; omega, ?_⟩
    have b1 : -18446744073709551616 < 104729 * a := by omega
    have b2 : 104729 * a < 18446744073709551616 := by omega
    have b3 : a < 18446744073709551616 := by omega
    have b4 : -18446744073709551616 < a := by omega
    have l3 : done.length < 16777216 := by omega
    have hpd : playD (done ++ [(setL f)[ii]]) = .lst (done.map setD ++ [setD (setL f)[ii]]) := by simp [playD]
    rw [hpd] at q3
    simp only [playD] at q3 ⊢
    rw [rngL_cons, ← q3]
    simp only [Int.natCast_ediv, Int.cast_ofNat_Int] at e4 e5
    simp [b_l_sets_L1, hr, e3, e4, e5, e6, e7, b1, b2, b3, b4, l3]
theorem sets_sp (ns : List Int) (hl : ns.length ≤ 63) (at_ f most : Nat) (hf0 : 0 < f) (hf : f ≤ 2) (hm : most ≤ 900) : ∃ p : List (List Bool), (∀ s ∈ p, s.length = f) ∧ p.length ≤ most ∧
    F_l_sets [(false, .scr ns), (false, .int at_), (false, .int f), (false, .int most)] = .ok (true, playD p) [some (false, .scr ns), some (false, .int at_), some (false, .int f), some (false, .int most)] := by
  have h1 := mixed_sp ns hl at_ (10 ^ 9) (by decide)
  have l1 := mixed_lt ns at_ (10 ^ 9) (by decide)
  generalize mixed ns at_ (10 ^ 9) = seed at h1 l1
  have h2 := mixed_sp ns hl (at_ + 1) (most + 1) (by omega)
  have l2 := mixed_lt ns (at_ + 1) (most + 1) (by omega)
  generalize mixed ns (at_ + 1) (most + 1) = k at h2 l2
  obtain ⟨p, y7, y8, q1, q2, q3⟩ := sets_loop (ns := ns) (y1 := some (false, .int at_)) (y2 := some (false, .int f)) (y3 := some (false, .int most)) l1 hf k 0 [] none none (by omega) (by omega) (fun s hs => by cases hs) (by simp; omega)
  refine ⟨p, q1, by simp at q2; omega, ?_⟩
  simp at h1 h2 q3
  have r1 : -4611686018427387904 ≤ (k : Int) := by omega
  have r2 : (k : Int) ≤ 16777216 := by omega
  have e0 : playD [] = .lst [] := rfl
  rw [e0] at q3
  have e8 := settings_of_sp f hf0 (by omega)
  rw [← l_settings_eq] at e8
  simp [F_l_sets, b_l_sets, h1, h2, r1, r2, e8, q3]
end Lz
/-! the teller -/
namespace Lz
open PySem PySem.Spec PyProof.Rows L2
theorem fstEq_mapM {α : Type} [DecidableEq α] {w : α → D} {x : α} (hx : (w x).toPy.canLay0 = true) : ∀ (l : List α) (k : Nat), (∀ y ∈ l, (w y).toPy.canLay0 = true ∧ (nrm (w y) = nrm (w x) → y = x)) → x ∈ l → fstEq (w x).toPy (D.toPys (l.map w)) k = some (k + ixOf x l)
  | [], _, _, h => by cases h
  | y :: l, k, hl, h => by
    have hy := hl y List.mem_cons_self
    have iff := eqv_iff hy.1 hx
    rw [List.map_cons, D.toPys]
    unfold fstEq ixOf
    by_cases e : y = x
    · subst e
      rw [if_pos (iff.mpr rfl), if_pos rfl]
      rfl
    · rw [if_neg fun q => e (hy.2 (iff.mp q)), if_neg e]
      have hm : x ∈ l := by
        rcases List.mem_cons.mp h with h | h
        · exact absurd h.symm e
        · exact h
      rw [fstEq_mapM hx l (k + 1) (fun z hz => hl z (List.mem_cons_of_mem _ hz)) hm]
      congr 1
      omega
theorem says_index {ns : List Str} (hn : ∀ n ∈ ns, okStr n) {l : List Say} (h : SaysOk ns 60 l) {s : Say} (hs : s ∈ l) : mfLIndex (says l) [s.toD] = some (false, .int (ixOf s l : Nat)) := by
  have h1 : okD (says l) = true := okD_of (n := 61) (okN_lst fun x hx => by
    obtain ⟨t, ht, rfl⟩ := List.mem_map.mp hx
    exact okN_mono (Say.okN hn t (h t ht).1) (h t ht).2) (by decide)
  have h2 : okD s.toD = true := okD_of (okN_mono (Say.okN hn s (h s hs).1) (h s hs).2) (by decide)
  show (if okD (says l) = true ∧ okD s.toD = true then (fstEq s.toD.toPy (D.toPys (l.map Say.toD)) 0).map fun j => ((false, D.int (j : Nat)) : T) else none) = _
  rw [if_pos ⟨h1, h2⟩, fstEq_mapM (Say.okN hn s (h s hs).1).1 l 0 (fun y hy => ⟨(Say.okN hn y (h y hy).1).1, fun e => by rw [Say.nrm_toD, Say.nrm_toD] at e; exact Say.toD_inj e⟩) hs, Nat.zero_add]
  rfl
def tellD (b : Book) : D := .ob "Teller" [("book", false, b.toD), ("names", false, nmD b.nm), ("pieces", false, says b.pieces)]
section
variable {b : Book} {ρ : Env} {o : Bool}
@[simp] theorem tell_book : fldK "Teller" "book" ρ (some (o, tellD b)) = .ok (.v false b.toD) ρ := by cases o <;> rfl
@[simp] theorem tell_names : fldK "Teller" "names" ρ (some (o, tellD b)) = .ok (.v false (nmD b.nm)) ρ := by cases o <;> rfl
@[simp] theorem tell_pieces : fldK "Teller" "pieces" ρ (some (o, tellD b)) = .ok (.v false (says b.pieces)) ρ := by cases o <;> rfl
@[simp] theorem tell_i1 : isObK "Teller" "holds" (some (o, tellD b)) = true := rfl
@[simp] theorem tell_i2 : isObK "Teller" "past" (some (o, tellD b)) = true := rfl
@[simp] theorem tell_i3 : isObK "Teller" "behind" (some (o, tellD b)) = true := rfl
@[simp] theorem tell_i4 : isObK "Teller" "first" (some (o, tellD b)) = true := rfl
@[simp] theorem tell_i5 : isObK "Teller" "keeps" (some (o, tellD b)) = true := rfl
@[simp] theorem tell_i6 : isObK "Teller" "loss" (some (o, tellD b)) = true := rfl
@[simp] theorem tell_j1 : isOb "Teller" "holds" (.v o (tellD b)) ρ = true := rfl
@[simp] theorem tell_j2 : isOb "Teller" "past" (.v o (tellD b)) ρ = true := rfl
@[simp] theorem tell_j3 : isOb "Teller" "behind" (.v o (tellD b)) ρ = true := rfl
@[simp] theorem tell_j4 : isOb "Teller" "first" (.v o (tellD b)) ρ = true := rfl
@[simp] theorem tell_j5 : isOb "Teller" "keeps" (.v o (tellD b)) ρ = true := rfl
@[simp] theorem tell_j6 : isOb "Teller" "loss" (.v o (tellD b)) ρ = true := rfl
end
theorem tell_init (b : Book) (hb : b.Form) : F_Teller___init__ [(true, .ob "Teller" []), (false, b.toD)] = .ok (false, .non) [some (true, tellD b), some (false, b.toD)] := by
  have nl := hb.nl
  obtain ⟨i0, i1, i2, i3, i4⟩ := b.ix
  have ia := nm_add b.foe b.fri nl.1
  have en : b.foe ++ b.fri = b.nm := rfl
  rw [en] at ia
  have h := pieces_of_sp b hb
  have n1 : ¬ ("book" : Str) = "names" := by decide
  have n2 : ¬ ("book" : Str) = "pieces" := by decide
  have n3 : ¬ ("names" : Str) = "pieces" := by decide
  simp [F_Teller___init__, b_Teller___init__, i0, i1, ia, h, n1, n2, n3, tellD]
def Say.isSf : Say → Bool
  | .un .sf _ => true
  | _ => false
theorem Say.head_sf (s : Say) : decide (s.head = "sofar") = s.isSf := by
  cases s with
  | lamp n => rfl
  | cst b => cases b <;> rfl
  | un o s => cases o <;> rfl
  | bin o s t => cases o <;> rfl
def mem0 (b : Book) : List Bool := b.pieces.map Say.isSf
theorem tell_first (b : Book) (o : Bool) : F_Teller_first [(o, tellD b)] = .ok (false, setD (mem0 b)) [some (o, tellD b)] := by
  have hc : compL [1] (gN 1) cT b_Teller_first_C1 (b.pieces.map Say.toD) [some (o, tellD b), none] = .ok (b.pieces.map fun s => .bl s.isSf) [some (o, tellD b), none] :=
    compL_m fun s hs => ⟨_, false, rfl, rfl, by
      have h := s.head_sf
      simp [b_Teller_first_C1, opIx_say]
      cases hs : s.isSf <;> rw [hs] at h <;> simp at h <;> simp [h]⟩
  have e : setD (mem0 b) = .tup (b.pieces.map fun s => .bl s.isSf) := by simp [setD, mem0]
  rw [e]
  cases o <;> simp [F_Teller_first, b_Teller_first, says, hc]
/-- what holds behind a memory -/
def hM (nm : List Str) (pc : List Say) (mem st : List Bool) : Say → Bool
  | .lamp n => st.getD (iX nm n) false
  | .cst b => b
  | .un .nt s => !hM nm pc mem st s
  | .un .bf s => mem.getD (ixOf (.un .bf s) pc) false
  | .un .on s => hM nm pc mem st s || mem.getD (ixOf (.un .on s) pc) false
  | .un .sf s => hM nm pc mem st s && mem.getD (ixOf (.un .sf s) pc) false
  | .bin .sn s t => hM nm pc mem st t || (hM nm pc mem st s && mem.getD (ixOf (.bin .sn s t) pc) false)
  | .bin .an s t => hM nm pc mem st s && hM nm pc mem st t
  | .bin .or s t => hM nm pc mem st s || hM nm pc mem st t
  | .bin .th s t => hM nm pc mem st t || !hM nm pc mem st s
  | .bin .sm s t => decide (hM nm pc mem st s = hM nm pc mem st t)
/-- all past pieces in a saying are among these -/
def PcIn (pc : List Say) : Say → Prop
  | .lamp _ => True
  | .cst _ => True
  | .un o s => ((Say.un o s).isP = true → Say.un o s ∈ pc) ∧ PcIn pc s
  | .bin o s t => ((Say.bin o s t).isP = true → Say.bin o s t ∈ pc) ∧ PcIn pc s ∧ PcIn pc t
structure MS (b : Book) (mem st : List Bool) : Prop where
  ml : mem.length = b.pieces.length
  sl : st.length = b.nm.length
theorem mem_at {mem : List Bool} {k : Nat} (h : k < mem.length) : opIx (setD mem) (.int k) = some (false, .bl (mem.getD k false)) := setD_at h
end Lz
namespace Lz
open PySem PySem.Spec PyProof.Rows L2
section
variable (b : Book) (hb : b.Ok) (mem st : List Bool) (ms : MS b mem st) (o : Bool)
include hb ms
theorem SaysOk_pieces : SaysOk b.nm 60 b.pieces := by
  have h := hb.toForm.sk
  unfold Book.pieces
  have key : ∀ (l m : List Say), SaysOk b.nm 8 l → SaysOk b.nm 60 m → SaysOk b.nm 60 (l.foldl (fun m s => gath s m) m) := by
    intro l
    induction l with
    | nil => exact fun m _ h => h
    | cons s l ih =>
      intro m hl hm
      rw [List.foldl_cons]
      exact ih _ (fun t ht => hl t (List.mem_cons_of_mem _ ht)) (hm.gath (hl s List.mem_cons_self).1 (by have := (hl s List.mem_cons_self).2; omega))
  exact key _ _ h fun t ht => by cases ht
theorem past_at {s : Say} (hs : s ∈ b.pieces) : mfLIndex (says b.pieces) [s.toD] = some (false, .int (ixOf s b.pieces : Nat)) ∧ opIx (setD mem) (.int (ixOf s b.pieces : Nat)) = some (false, .bl (mem.getD (ixOf s b.pieces) false)) :=
  ⟨says_index hb.toForm.okn (SaysOk_pieces b hb mem st ms) hs, mem_at (by rw [ms.ml]; exact ixOf_lt hs)⟩
def HoldsAt (b : Book) (mem st : List Bool) (o : Bool) (f : Nat) (s : Say) : Prop := R_Teller_holds f [(o, tellD b), (false, s.toD), (false, setD mem), (false, setD st)] = .ok (false, .bl (hM b.nm b.pieces mem st s)) [some (o, tellD b), some (false, s.toD), some (false, setD mem), some (false, setD st)]
def PastAt (b : Book) (mem st : List Bool) (o : Bool) (f : Nat) (s : Say) : Prop := R_Teller_past f [(o, tellD b), (false, s.toD), (false, setD mem), (false, setD st)] = .ok (false, .bl (hM b.nm b.pieces mem st s)) [some (o, tellD b), some (false, s.toD), some (false, setD mem), some (false, setD st)]
omit hb ms in
theorem isTy_says {l : List Say} : isTy "list" (says l) = true := rfl
theorem past_bf (f : Nat) (s : Say) (hs : Say.un .bf s ∈ b.pieces) : PastAt b mem st o (f + 1) (.un .bf s) := by
  obtain ⟨h1, h2⟩ := past_at b hb mem st ms hs
  unfold PastAt
  simp only [Say.toD, U1.str] at h1 ⊢
  cases o <;> simp [R_Teller_past, b_Teller_past, isTy_says, h1, h2, hM]
theorem past_un (op : U1) (hop : op = .on ∨ op = .sf) (f : Nat) (s : Say) (hs : Say.un op s ∈ b.pieces) (ih : HoldsAt b mem st o f s) : PastAt b mem st o (f + 1) (.un op s) := by
  obtain ⟨h1, h2⟩ := past_at b hb mem st ms hs
  have hp := parts_sp (.un op s)
  simp only [Say.parts, List.map_cons, List.map_nil] at hp
  have hc : ∀ y4 y5 : Option T, compL [6] (gN 6) cT (b_Teller_past_C1 (R_Teller_past f) (R_Teller_holds f)) [s.toD] [some (o, tellD b), some (false, (Say.un op s).toD), some (false, setD mem), some (false, setD st), y4, y5, none] = .ok [.bl (hM b.nm b.pieces mem st s)] [some (o, tellD b), some (false, (Say.un op s).toD), some (false, setD mem), some (false, setD st), y4, y5, none] := fun y4 y5 => by
    unfold HoldsAt at ih
    cases o <;> simp [b_Teller_past_C1, ih]
  unfold PastAt
  rcases hop with rfl | rfl
  · simp only [Say.toD, U1.str] at h1 hp hc ⊢
    cases e : hM b.nm b.pieces mem st s <;> rw [e] at hc <;> cases o <;> simp [R_Teller_past, b_Teller_past, isTy_says, h1, h2, hM, hp, hc, e]
  · simp only [Say.toD, U1.str] at h1 hp hc ⊢
    cases e : hM b.nm b.pieces mem st s <;> rw [e] at hc <;> cases o <;> simp [R_Teller_past, b_Teller_past, isTy_says, h1, h2, hM, hp, hc, e]
theorem past_sn (f : Nat) (s t : Say) (hs : Say.bin .sn s t ∈ b.pieces) (ih : HoldsAt b mem st o f s) (ih2 : HoldsAt b mem st o f t) : PastAt b mem st o (f + 1) (.bin .sn s t) := by
  obtain ⟨h1, h2⟩ := past_at b hb mem st ms hs
  have hp := parts_sp (.bin .sn s t)
  simp only [Say.parts, List.map_cons, List.map_nil] at hp
  have hc : ∀ y4 y5 : Option T, compL [6] (gN 6) cT (b_Teller_past_C1 (R_Teller_past f) (R_Teller_holds f)) [s.toD, t.toD] [some (o, tellD b), some (false, (Say.bin .sn s t).toD), some (false, setD mem), some (false, setD st), y4, y5, none] = .ok [.bl (hM b.nm b.pieces mem st s), .bl (hM b.nm b.pieces mem st t)] [some (o, tellD b), some (false, (Say.bin .sn s t).toD), some (false, setD mem), some (false, setD st), y4, y5, none] := fun y4 y5 => by
    unfold HoldsAt at ih ih2
    cases o <;> simp [b_Teller_past_C1, ih, ih2]
  unfold PastAt
  simp only [Say.toD, U2.str] at h1 hp hc ⊢
  cases e : hM b.nm b.pieces mem st s <;> rw [e] at hc <;> cases e2 : hM b.nm b.pieces mem st t <;> rw [e2] at hc <;> cases o <;> simp [R_Teller_past, b_Teller_past, isTy_says, h1, h2, hM, hp, hc, e, e2]
theorem holds_lamp (f : Nat) (n : Str) (ho : n ∈ b.nm) : HoldsAt b mem st o (f + 1) (.lamp n) := by
  have hi := mfIndex_nm ho
  have hx := (iX_ok ho).2
  have q := setD_at (s := st) (k := iX b.nm n) (by rw [ms.sl]; exact hx)
  unfold HoldsAt
  cases o <;> simp [R_Teller_holds, b_Teller_holds, Say.toD, hi, q, hM]
theorem holds_cst (f : Nat) (c : Bool) : HoldsAt b mem st o (f + 1) (.cst c) := by
  unfold HoldsAt
  cases c <;> cases o <;> simp [R_Teller_holds, b_Teller_holds, Say.toD, hM]
theorem holds_past (f : Nat) (s : Say) (hp : s.isP = true) (ih : PastAt b mem st o f s) : HoldsAt b mem st o (f + 1) s := by
  have hh := Say.head_past s
  have hix := opIx_say s
  have nl : ¬ s.head = "lamp" := by have := s.head_lamp; cases s <;> first | (cases hp; done) | simpa using this
  have ny : ¬ s.head = "yes" := by cases s with
    | lamp n => cases hp
    | cst c => cases hp
    | un o s => exact o.ne_yes
    | bin o s t => exact o.ne_yes
  have nn : ¬ s.head = "no" := by cases s with
    | lamp n => cases hp
    | cst c => cases hp
    | un o s => exact o.ne_no
    | bin o s t => exact o.ne_no
  rw [hp] at hh
  unfold PastAt at ih
  unfold HoldsAt
  cases o <;> simp [R_Teller_holds, b_Teller_holds, hix, hh, nl, ny, nn, ih]
theorem holds_nt (f : Nat) (s : Say) (ih : HoldsAt b mem st o f s) : HoldsAt b mem st o (f + 1) (.un .nt s) := by
  have hp := parts_sp (.un .nt s)
  simp only [Say.parts, List.map_cons, List.map_nil] at hp
  have hc : ∀ y4 : Option T, compL [5] (gN 5) cT (b_Teller_holds_C1 (R_Teller_past f) (R_Teller_holds f)) [s.toD] [some (o, tellD b), some (false, (Say.un .nt s).toD), some (false, setD mem), some (false, setD st), y4, none] = .ok [.bl (hM b.nm b.pieces mem st s)] [some (o, tellD b), some (false, (Say.un .nt s).toD), some (false, setD mem), some (false, setD st), y4, none] := fun y4 => by
    unfold HoldsAt at ih
    cases o <;> simp [b_Teller_holds_C1, ih]
  have hh := Say.head_past (.un .nt s)
  simp only [Say.head, U1.str, Say.isP] at hh
  unfold HoldsAt
  simp only [Say.toD, U1.str] at hp hc ⊢
  cases o <;> simp [R_Teller_holds, b_Teller_holds, hp, hc, hh, hM]
theorem holds_bin (op : U2) (hop : op ≠ .sn) (f : Nat) (s t : Say) (ih : HoldsAt b mem st o f s) (ih2 : HoldsAt b mem st o f t) : HoldsAt b mem st o (f + 1) (.bin op s t) := by
  have hp := parts_sp (.bin op s t)
  simp only [Say.parts, List.map_cons, List.map_nil] at hp
  have hc : ∀ y4 : Option T, compL [5] (gN 5) cT (b_Teller_holds_C1 (R_Teller_past f) (R_Teller_holds f)) [s.toD, t.toD] [some (o, tellD b), some (false, (Say.bin op s t).toD), some (false, setD mem), some (false, setD st), y4, none] = .ok [.bl (hM b.nm b.pieces mem st s), .bl (hM b.nm b.pieces mem st t)] [some (o, tellD b), some (false, (Say.bin op s t).toD), some (false, setD mem), some (false, setD st), y4, none] := fun y4 => by
    unfold HoldsAt at ih ih2
    cases o <;> simp [b_Teller_holds_C1, ih, ih2]
  have hh := Say.head_past (.bin op s t)
  unfold HoldsAt
  cases op with
  | sn => exact absurd rfl hop
  | an =>
    simp only [Say.head, U2.str, Say.isP] at hh
    simp only [Say.toD, U2.str] at hp hc ⊢
    cases e : hM b.nm b.pieces mem st s <;> rw [e] at hc <;> cases o <;> simp [R_Teller_holds, b_Teller_holds, hp, hc, hh, hM, e]
  | or =>
    simp only [Say.head, U2.str, Say.isP] at hh
    simp only [Say.toD, U2.str] at hp hc ⊢
    cases e : hM b.nm b.pieces mem st s <;> rw [e] at hc <;> cases o <;> simp [R_Teller_holds, b_Teller_holds, hp, hc, hh, hM, e]
  | th =>
    simp only [Say.head, U2.str, Say.isP] at hh
    simp only [Say.toD, U2.str] at hp hc ⊢
    cases e : hM b.nm b.pieces mem st t <;> rw [e] at hc <;> cases o <;> simp [R_Teller_holds, b_Teller_holds, hp, hc, hh, hM, e]
  | sm =>
    simp only [Say.head, U2.str, Say.isP] at hh
    simp only [Say.toD, U2.str] at hp hc ⊢
    cases e : hM b.nm b.pieces mem st s <;> rw [e] at hc <;> cases e2 : hM b.nm b.pieces mem st t <;> rw [e2] at hc <;> cases o <;> simp [R_Teller_holds, b_Teller_holds, hp, hc, hh, hM, e, e2]
theorem tell_holds : ∀ (s : Say) (f : Nat), 2 * s.dep ≤ f → s.Over b.nm → PcIn b.pieces s → HoldsAt b mem st o f s
  | s, 0, h, _, _ => by have := s.dep_pos; omega
  | s, 1, h, _, _ => by have := s.dep_pos; omega
  | .lamp n, f + 2, h, ho, _ => holds_lamp b hb mem st ms o _ n ho
  | .cst c, f + 2, h, _, _ => holds_cst b hb mem st ms o _ c
  | .un .nt s, f + 2, h, ho, hp => holds_nt b hb mem st ms o _ s (tell_holds s _ (by simp only [Say.dep] at h; omega) ho hp.2)
  | .un .bf s, f + 2, h, ho, hp => holds_past b hb mem st ms o _ _ rfl (past_bf b hb mem st ms o _ s (hp.1 rfl))
  | .un .on s, f + 2, h, ho, hp => holds_past b hb mem st ms o _ _ rfl (past_un b hb mem st ms o .on (.inl rfl) _ s (hp.1 rfl) (tell_holds s _ (by simp only [Say.dep] at h; omega) ho hp.2))
  | .un .sf s, f + 2, h, ho, hp => holds_past b hb mem st ms o _ _ rfl (past_un b hb mem st ms o .sf (.inr rfl) _ s (hp.1 rfl) (tell_holds s _ (by simp only [Say.dep] at h; omega) ho hp.2))
  | .bin .sn s t, f + 2, h, ho, hp => holds_past b hb mem st ms o _ _ rfl (past_sn b hb mem st ms o _ s t (hp.1 rfl) (tell_holds s _ (by simp only [Say.dep] at h; omega) ho.1 hp.2.1) (tell_holds t _ (by simp only [Say.dep] at h; omega) ho.2 hp.2.2))
  | .bin .an s t, f + 2, h, ho, hp => holds_bin b hb mem st ms o .an nofun _ s t (tell_holds s _ (by simp only [Say.dep] at h; omega) ho.1 hp.2.1) (tell_holds t _ (by simp only [Say.dep] at h; omega) ho.2 hp.2.2)
  | .bin .or s t, f + 2, h, ho, hp => holds_bin b hb mem st ms o .or nofun _ s t (tell_holds s _ (by simp only [Say.dep] at h; omega) ho.1 hp.2.1) (tell_holds t _ (by simp only [Say.dep] at h; omega) ho.2 hp.2.2)
  | .bin .th s t, f + 2, h, ho, hp => holds_bin b hb mem st ms o .th nofun _ s t (tell_holds s _ (by simp only [Say.dep] at h; omega) ho.1 hp.2.1) (tell_holds t _ (by simp only [Say.dep] at h; omega) ho.2 hp.2.2)
  | .bin .sm s t, f + 2, h, ho, hp => holds_bin b hb mem st ms o .sm nofun _ s t (tell_holds s _ (by simp only [Say.dep] at h; omega) ho.1 hp.2.1) (tell_holds t _ (by simp only [Say.dep] at h; omega) ho.2 hp.2.2)
end
end Lz
namespace Lz
open PySem PySem.Spec PyProof.Rows L2
/-! ### the pieces hold their own pieces -/
theorem PcIn.mono {pc pc' : List Say} (h : ∀ s ∈ pc, s ∈ pc') : ∀ {s : Say}, PcIn pc s → PcIn pc' s
  | .lamp _, _ => trivial
  | .cst _, _ => trivial
  | .un _ s, q => ⟨fun p => h _ (q.1 p), PcIn.mono h q.2⟩
  | .bin _ s t, q => ⟨fun p => h _ (q.1 p), PcIn.mono h q.2.1, PcIn.mono h q.2.2⟩
theorem addP_sub {s t : Say} {m : List Say} (h : t ∈ m) : t ∈ addP s m := by
  unfold addP
  split
  · exact List.mem_append_left _ h
  · exact h
theorem addP_self {s : Say} {m : List Say} (h : s.isP = true) : s ∈ addP s m := by
  unfold addP
  by_cases hm : s ∈ m
  · rw [if_neg (by simp [hm])]; exact hm
  · rw [if_pos ⟨h, hm⟩]; simp
theorem gath_sub : ∀ {s t : Say} {m : List Say}, t ∈ m → t ∈ gath s m
  | .lamp _, _, _, h => addP_sub h
  | .cst _, _, _, h => addP_sub h
  | .un _ s, _, _, h => gath_sub (s := s) (addP_sub h)
  | .bin _ s t, _, _, h => gath_sub (s := t) (gath_sub (s := s) (addP_sub h))
theorem gath_pc : ∀ (s : Say) (m : List Say), PcIn (gath s m) s
  | .lamp _, _ => trivial
  | .cst _, _ => trivial
  | .un o s, m => ⟨fun p => gath_sub (s := s) (addP_self p), gath_pc s _⟩
  | .bin o s t, m => ⟨fun p => gath_sub (s := t) (gath_sub (s := s) (addP_self p)), (gath_pc s _).mono fun x hx => gath_sub (s := t) hx, gath_pc t _⟩
theorem gath_from {pc : List Say} {p : Say} : ∀ (t : Say) (m : List Say), PcIn pc t → p ∈ gath t m → p ∈ m ∨ PcIn pc p
  | .lamp n, m, ht, h => by
    rcases addP_mem h with h | h
    · exact .inl h
    · rw [h]; exact .inr ht
  | .cst c, m, ht, h => by
    rcases addP_mem h with h | h
    · exact .inl h
    · rw [h]; exact .inr ht
  | .un o t, m, ht, h => by
    rcases gath_from t _ ht.2 h with h | h
    · rcases addP_mem h with h | h
      · exact .inl h
      · rw [h]; exact .inr ht
    · exact .inr h
  | .bin o t u, m, ht, h => by
    rcases gath_from u _ ht.2.2 h with h | h
    · rcases gath_from t _ ht.2.1 h with h | h
      · rcases addP_mem h with h | h
        · exact .inl h
        · rw [h]; exact .inr ht
      · exact .inr h
    · exact .inr h
theorem gath_all (s : Say) (m pc : List Say) (hpc : ∀ x ∈ gath s m, x ∈ pc) (p : Say) (hp : p ∈ gath s m) : p ∈ m ∨ PcIn pc p :=
  gath_from s m ((gath_pc s m).mono hpc) hp
theorem foldl_pc (pc : List Say) : ∀ (l m : List Say), (∀ x ∈ l.foldl (fun m s => gath s m) m, x ∈ pc) → (∀ p ∈ m, PcIn m p) → (∀ s ∈ l, PcIn pc s) ∧ ∀ p ∈ l.foldl (fun m s => gath s m) m, p ∈ m ∨ PcIn pc p
  | [], m, _, _ => ⟨fun _ h => (by cases h), fun p h => .inl h⟩
  | s :: l, m, hpc, hm => by
    rw [List.foldl_cons] at hpc ⊢
    have grow : ∀ (l : List Say) (m : List Say) (x : Say), x ∈ m → x ∈ l.foldl (fun m s => gath s m) m := by
      intro l
      induction l with
      | nil => exact fun m x h => h
      | cons s l ih => exact fun m x h => ih _ x (gath_sub h)
    have hsub : ∀ x ∈ gath s m, x ∈ pc := fun x hx => hpc x (grow l _ x hx)
    have hg : ∀ p ∈ gath s m, PcIn (gath s m) p := fun p hp => by
      rcases gath_all s m (gath s m) (fun x h => h) p hp with h | h
      · exact (hm p h).mono fun x hx => gath_sub hx
      · exact h
    obtain ⟨h1, h2⟩ := foldl_pc pc l (gath s m) hpc hg
    refine ⟨fun t ht => ?_, fun p hp => ?_⟩
    · rcases List.mem_cons.mp ht with rfl | ht
      · exact (gath_pc t m).mono hsub
      · exact h1 t ht
    · rcases h2 p hp with h | h
      · exact gath_all s m pc hsub p h
      · exact .inr h
theorem Book.pcs (b : Book) : (∀ s ∈ b.says, PcIn b.pieces s) ∧ ∀ p ∈ b.pieces, PcIn b.pieces p := by
  obtain ⟨h1, h2⟩ := foldl_pc b.pieces b.says [] (fun x h => h) (fun p h => (by cases h))
  exact ⟨h1, fun p hp => (h2 p hp).elim (fun h => (by cases h)) id⟩
theorem Book.Form.pk8 {b : Book} (h : b.Form) : SaysOk b.nm 8 b.pieces := by
  have key : ∀ (l m : List Say), SaysOk b.nm 8 l → SaysOk b.nm 8 m → SaysOk b.nm 8 (l.foldl (fun m s => gath s m) m) := by
    intro l
    induction l with
    | nil => exact fun m _ h => h
    | cons s l ih =>
      intro m hl hm
      rw [List.foldl_cons]
      exact ih _ (fun t ht => hl t (List.mem_cons_of_mem _ ht)) (hm.gath (hl s List.mem_cons_self).1 (hl s List.mem_cons_self).2)
  exact key _ _ h.sk fun t ht => (by cases ht)
/-! ### memory behind a turn -/
def now : Say → Say
  | .un .bf s => s
  | s => s
def nextM (b : Book) (mem st : List Bool) : List Bool := b.pieces.map fun p => hM b.nm b.pieces mem st (now p)
theorem Say.head_bf (s : Say) : s.head = "before" ↔ ∃ t, s = .un .bf t := by
  have h := s.head_before
  constructor
  · intro e
    rw [decide_eq_true e] at h
    cases s with
    | un o s => cases o <;> first | exact ⟨_, rfl⟩ | (simp at h)
    | lamp n => simp at h
    | cst c => simp at h
    | bin o s t => simp at h
  · rintro ⟨t, rfl⟩
    rfl
theorem behind_loop (b : Book) (hb : b.Ok) (mem st : List Bool) (ms : MS b mem st) (o : Bool) : ∀ (l : List Say) (acc : List Bool) (x4 : Option T), (∀ p ∈ l, p ∈ b.pieces) → acc.length + l.length ≤ 1000 →
    ∃ y4, forL (gN 4) b_Teller_behind_L1 (l.map Say.toD) [some (o, tellD b), some (false, setD mem), some (false, setD st), some (true, .lst (acc.map D.bl)), x4] =
      .ok .nx [some (o, tellD b), some (false, setD mem), some (false, setD st), some (true, .lst ((acc ++ l.map fun p => hM b.nm b.pieces mem st (now p)).map D.bl)), y4] := by
  intro l
  induction l with
  | nil => exact fun acc x4 _ _ => ⟨x4, by simp⟩
  | cons p l ih =>
    intro acc x4 hl ha
    simp only [List.length_cons] at ha
    have hp := hl p List.mem_cons_self
    have hk := hb.toForm.pk8 p hp
    have hpc := b.pcs.2 p hp
    obtain ⟨y4, h⟩ := ih (acc ++ [hM b.nm b.pieces mem st (now p)]) (some (false, p.toD)) (fun q hq => hl q (List.mem_cons_of_mem _ hq)) (by simp; omega)
    refine ⟨y4, ?_⟩
    have e : acc ++ (p :: l).map (fun p => hM b.nm b.pieces mem st (now p)) = acc ++ [hM b.nm b.pieces mem st (now p)] ++ l.map fun p => hM b.nm b.pieces mem st (now p) := by simp
    have hz : acc.length < 16777216 := by omega
    have hix := opIx_say p
    rw [e, ← h]
    by_cases hbf : ∃ t, p = .un .bf t
    · obtain ⟨t, rfl⟩ := hbf
      have q : F_Teller_holds _ = _ := tell_holds b hb mem st ms o t 24 (by have := hk.2; simp only [Say.dep] at this; omega) hk.1 hpc.2
      have i0 : opIx (Say.un .bf t).toD (.int 0) = some (false, .str "before") := rfl
      have i1 : opIx (Say.un .bf t).toD (.int 1) = some (false, t.toD) := rfl
      cases o <;> simp [b_Teller_behind_L1, i0, i1, q, hz, now]
    · have q : F_Teller_holds _ = _ := tell_holds b hb mem st ms o p 24 (by have := hk.2; omega) hk.1 hpc
      have hn : ¬ p.head = "before" := fun e => hbf (p.head_bf.mp e)
      have en : now p = p := by
        cases p with
        | un o s => cases o <;> first | rfl | exact absurd ⟨_, rfl⟩ hbf
        | _ => rfl
      rw [en]
      cases o <;> simp [b_Teller_behind_L1, hix, hn, q, hz]
theorem tell_behind (b : Book) (hb : b.Ok) (mem st : List Bool) (ms : MS b mem st) (o : Bool) : F_Teller_behind [(o, tellD b), (false, setD mem), (false, setD st)] = .ok (false, setD (nextM b mem st)) [some (o, tellD b), some (false, setD mem), some (false, setD st)] := by
  obtain ⟨y4, h⟩ := behind_loop b hb mem st ms o b.pieces [] none (fun p h => h) (by have := hb.pc; simp; omega)
  have e : setD (nextM b mem st) = .tup ((b.pieces.map fun p => hM b.nm b.pieces mem st (now p)).map D.bl) := rfl
  rw [e]
  simp only [List.map_nil, List.nil_append] at h
  cases o <;> simp [F_Teller_behind, b_Teller_behind, says, h, -List.map_map]
theorem nextM_len (b : Book) (mem st : List Bool) : (nextM b mem st).length = b.pieces.length := by simp [nextM]
/-! ### memory and plays -/
def memP (nm : List Str) (p : List (List Bool)) (k : Nat) (s : Say) : Bool := if k = 0 then s.isSf else tvS nm p (now s) (k - 1)
def memAt (b : Book) (p : List (List Bool)) (k : Nat) : List Bool := b.pieces.map (memP b.nm p k)
theorem memAt_get {b : Book} {p : List (List Bool)} {k : Nat} {s : Say} (h : s ∈ b.pieces) : (memAt b p k).getD (ixOf s b.pieces) false = memP b.nm p k s := by
  unfold memAt
  rw [List.getD_eq_getElem?_getD, List.getElem?_map, ixOf_get h]
  rfl
theorem hM_tv (b : Book) (p : List (List Bool)) (k : Nat) : ∀ (s : Say), PcIn b.pieces s → hM b.nm b.pieces (memAt b p k) (p.getD k []) s = tvS b.nm p s k
  | .lamp n, _ => rfl
  | .cst c, _ => rfl
  | .un .nt s, h => by simp only [hM, tvS]; rw [hM_tv b p k s h.2]
  | .un .bf s, h => by
    simp only [hM, tvS]
    rw [memAt_get (h.1 rfl)]
    unfold memP
    by_cases h0 : k = 0
    · subst h0; simp [Say.isSf]
    · rw [if_neg h0]
      have : 0 < k := by omega
      simp [now, this]
  | .un .on s, h => by
    simp only [hM, tvS]
    rw [memAt_get (h.1 rfl), hM_tv b p k s h.2]
    show _ = (tvS b.nm p s k || acc (fun j a => tvS b.nm p s j || a) false k)
    unfold memP
    by_cases h0 : k = 0
    · subst h0; simp [Say.isSf, acc]
    · obtain ⟨j, rfl⟩ : ∃ j, k = j + 1 := ⟨k - 1, by omega⟩
      rw [if_neg h0, Nat.add_sub_cancel]
      rfl
  | .un .sf s, h => by
    simp only [hM, tvS]
    rw [memAt_get (h.1 rfl), hM_tv b p k s h.2]
    show _ = (tvS b.nm p s k && acc (fun j a => tvS b.nm p s j && a) true k)
    unfold memP
    by_cases h0 : k = 0
    · subst h0; simp [Say.isSf, acc]
    · obtain ⟨j, rfl⟩ : ∃ j, k = j + 1 := ⟨k - 1, by omega⟩
      rw [if_neg h0, Nat.add_sub_cancel]
      rfl
  | .bin .sn s t, h => by
    simp only [hM, tvS]
    rw [memAt_get (h.1 rfl), hM_tv b p k s h.2.1, hM_tv b p k t h.2.2]
    show _ = (tvS b.nm p t k || (tvS b.nm p s k && acc (fun j a => tvS b.nm p t j || (tvS b.nm p s j && a)) false k))
    unfold memP
    by_cases h0 : k = 0
    · subst h0; simp [Say.isSf, acc]
    · obtain ⟨j, rfl⟩ : ∃ j, k = j + 1 := ⟨k - 1, by omega⟩
      rw [if_neg h0, Nat.add_sub_cancel]
      rfl
  | .bin .an s t, h => by simp only [hM, tvS]; rw [hM_tv b p k s h.2.1, hM_tv b p k t h.2.2]
  | .bin .or s t, h => by simp only [hM, tvS]; rw [hM_tv b p k s h.2.1, hM_tv b p k t h.2.2]
  | .bin .th s t, h => by simp only [hM, tvS]; rw [hM_tv b p k s h.2.1, hM_tv b p k t h.2.2]
  | .bin .sm s t, h => by simp only [hM, tvS]; rw [hM_tv b p k s h.2.1, hM_tv b p k t h.2.2]
theorem PcIn.now {pc : List Say} : ∀ {s : Say}, PcIn pc s → PcIn pc (Lz.now s)
  | .lamp _, h => h
  | .cst _, h => h
  | .un .nt _, h => h
  | .un .on _, h => h
  | .un .sf _, h => h
  | .un .bf _, h => h.2
  | .bin _ _ _, h => h
theorem nextM_at (b : Book) (p : List (List Bool)) (k : Nat) : nextM b (memAt b p k) (p.getD k []) = memAt b p (k + 1) := by
  unfold nextM memAt
  refine List.map_congr_left fun s hs => ?_
  have h := hM_tv b p k (now s) (b.pcs.2 s hs).now
  unfold memAt at h
  rw [h]
  rfl
theorem mem0_at (b : Book) (p : List (List Bool)) : mem0 b = memAt b p 0 := rfl
end Lz
namespace Lz
open PySem PySem.Spec PyProof.Rows L2
theorem l_book_pieces_sp (b : Book) (h : b.Form) : F_l_book_pieces [(false, b.toD)] = .ok (true, says b.pieces) [some (false, b.toD)] := by
  have hcomp : ∀ x y z : Option T, compL [3] (gN 3) cT (sBin opIx (sVar 3) (sC (.int 1))) (b.wis.map wiD) [x, y, z, none] = .ok ((b.wis.map wiD).map fun d => match d with | .tup [_, s] => s | _ => .non) [x, y, z, none] := fun x y z =>
    compL_map rfl fun d hd => ⟨false, by
      obtain ⟨w, _, rfl⟩ := List.mem_map.mp hd
      simp [wiD]⟩
  have e1 : ((b.wis.map wiD).map fun d => match d with | .tup [_, s] => s | _ => .non) = (b.wis.map (·.2)).map Say.toD := by
    rw [List.map_map, List.map_map]
    rfl
  rw [e1] at hcomp
  have l1 := h.p3
  have l2 := h.m3
  have l3 := h.w5
  have l4 : b.pro.length + b.mus.length ≤ 16777216 := by omega
  have l5 : b.pro.length + b.mus.length + b.wis.length ≤ 16777216 := by omega
  -- the loop
  have loop : ∀ (l m : List Say) (x : Option T) (y : Option T), SaysOk b.nm 8 l → SaysOk b.nm 60 m → m.length + 256 * l.length < 16777216 →
      ∃ z, forL (gN 2) (xSeq (xExpr (sCallF F_l_pieces (sCons (sVar 2) (sCons (sVar 1) sNil)))) xNx) (l.map Say.toD) [x, some (true, .lst (m.map Say.toD)), y, none] = .ok .nx [x, some (true, .lst ((l.foldl (fun m s => gath s m) m).map Say.toD)), z, none] := by
    intro l
    induction l with
    | nil => intro m x y _ _ _; exact ⟨y, rfl⟩
    | cons s l ih =>
      intro m x y hl hm hz
      have hs := hl s List.mem_cons_self
      have h4 : 2 ^ s.dep ≤ 2 ^ 8 := Nat.pow_le_pow_right (by decide) hs.2
      have h5 := s.cnt_le
      rw [List.length_cons] at hz
      have h1 : F_l_pieces _ = _ := l_pieces_sp h.okn s 24 m (by omega) hs.1 (by omega) hm (by omega)
      have h2 := gath_len s m
      obtain ⟨z, ih⟩ := ih (gath s m) x (some (false, s.toD)) (fun t ht => hl t (List.mem_cons_of_mem _ ht)) (hm.gath hs.1 (by omega)) (by omega)
      refine ⟨z, ?_⟩
      simp only [Lz.says] at h1
      simp [h1, ih]
  have hlen := h.len
  obtain ⟨z, h2⟩ := loop b.says [] (some (false, b.toD)) none h.sk (fun t ht => by cases ht) (by simp; omega)
  simp only [Book.toD, saysT, Book.says, Book.pieces, Lz.says] at h2 ⊢
  simp at h2 hcomp
  simp [F_l_book_pieces, b_l_book_pieces, hcomp, l4, l5, h2]
def four : Say := .un .sf (.un .sf (.un .sf (.un .sf (.cst true))))
def fullB : Book := ⟨["a", "b"], ["c", "abcdefgh"], [.un .bf (.lamp "c"), .un .bf (.lamp "c"), .un .bf (.lamp "c")], [.cst false, .cst false, .cst false], [(99, .cst true), (99, .cst true), (99, .cst true), (99, .cst true), (99, .cst true)]⟩
def someB : Book := ⟨["a"], ["b"], [], [four], [(1, four)]⟩
theorem mb_loop (b : Book) (hb : b.Ok) (p : List (List Bool)) (hp : PlayOk b.nm.length p) (o : Bool) {y0 y1 : Option T} : ∀ (m a : Nat) (x4 : Option T), a + m = p.length →
    ∃ y4, forL (gN 4) b_memory_behind_L1 ((p.drop a).map setD) [y0, y1, some (o, tellD b), some (false, setD (memAt b p a)), x4] = .ok .nx [y0, y1, some (o, tellD b), some (false, setD (memAt b p p.length)), y4] := by
  intro m
  induction m with
  | zero =>
    intro a x4 ha
    have e : a = p.length := by omega
    subst e
    exact ⟨x4, by simp⟩
  | succ m ih =>
    intro a x4 ha
    have hlt : a < p.length := by omega
    obtain ⟨y4, h⟩ := ih (a + 1) (some (false, setD p[a])) (by omega)
    refine ⟨y4, ?_⟩
    have q := tell_behind b hb (memAt b p a) p[a] ⟨by simp [memAt], hp.1 _ (List.getElem_mem _)⟩ o
    have e : p[a] = p.getD a [] := by rw [List.getD_eq_getElem?_getD, List.getElem?_eq_getElem hlt]; rfl
    have e2 := nextM_at b p a
    rw [← e] at e2
    rw [e2] at q
    rw [List.drop_eq_getElem_cons hlt, List.map_cons, ← h]
    cases o <;> simp [b_memory_behind_L1, q]
theorem memory_behind_sp (b : Book) (hb : b.Ok) (p : List (List Bool)) (o : Bool) (hp : PlayOk b.nm.length p) : F_memory_behind [(false, b.toD), (o, playD p)] = .ok (false, setD (memAt b p p.length)) [some (false, b.toD), some (o, playD p)] := by
  have h1 := checked_ok b hb
  have nl := hb.toForm.nl
  have h2 := need_play_sp b nl.2.1 p o hp
  have h3 := tell_init b hb.toForm
  have h4 := tell_first b true
  have lp := fun y1 => mb_loop b hb p hp true (y0 := some (false, b.toD)) (y1 := y1) p.length 0 none (by omega)
  rw [mem0_at b p] at h4
  simp only [List.drop_zero] at lp
  simp only [playD] at h2 ⊢
  cases o with
  | true =>
    obtain ⟨y4, q⟩ := lp none
    simp [F_memory_behind, b_memory_behind, h1, h2, h3, h4, q]
  | false =>
    obtain ⟨y4, q⟩ := lp (some (false, .lst (p.map setD)))
    simp [F_memory_behind, b_memory_behind, h1, h2, h3, h4, q]
/-! the law's own -/
theorem lm_loop (b : Book) (hb : b.Ok) (p : List (List Bool)) (hp : PlayOk b.nm.length p) (o : Bool) {y0 : Option T} : ∀ (l : List Say) (acc : List Bool) (x4 : Option T), (∀ s ∈ l, s ∈ b.pieces) → acc.length + l.length ≤ 1000 →
    ∃ y4, forL (gN 4) b_l_memory_L1 (l.map Say.toD) [y0, some (o, playD p), some (false, nmD b.nm), some (true, .lst (acc.map D.bl)), x4] = .ok .nx [y0, some (o, playD p), some (false, nmD b.nm), some (true, .lst ((acc ++ l.map (memP b.nm p p.length)).map D.bl)), y4] := by
  intro l
  induction l with
  | nil => exact fun acc x4 _ _ => ⟨x4, by simp⟩
  | cons s l ih =>
    intro acc x4 hl ha
    simp only [List.length_cons] at ha
    have hs := hl s List.mem_cons_self
    have hk := hb.toForm.pk8 s hs
    obtain ⟨y4, h⟩ := ih (acc ++ [memP b.nm p p.length s]) (some (false, s.toD)) (fun q hq => hl q (List.mem_cons_of_mem _ hq)) (by simp; omega)
    refine ⟨y4, ?_⟩
    have e : acc ++ (s :: l).map (memP b.nm p p.length) = acc ++ [memP b.nm p p.length s] ++ l.map (memP b.nm p p.length) := by simp
    have hz : acc.length < 16777216 := by omega
    have hix := opIx_say s
    have en := eqD_lnil (playD_ok p) (by decide)
    rw [e, ← h]
    by_cases h0 : p = []
    · have hsf := s.head_sf
      subst h0
      have em : memP b.nm [] ([] : List (List Bool)).length s = s.isSf := rfl
      rw [em]
      simp only [playD, List.map_nil] at en ⊢
      cases e2 : s.isSf <;> rw [e2] at hsf <;> simp at hsf <;> cases o <;> simp [b_l_memory_L1, hix, en, hsf, hz]
    · have hl0 : 0 < p.length := List.length_pos_iff.mpr h0
      have hm : p.map setD ≠ [] := by simpa using h0
      have c1 : (p.length : Int) - 1 = ((p.length - 1 : Nat) : Int) := by omega
      have em : memP b.nm p p.length s = tvS b.nm p (now s) (p.length - 1) := by unfold memP; rw [if_neg (by omega)]
      rw [em]
      simp only [playD] at en ⊢
      by_cases hbf : ∃ t, s = .un .bf t
      · obtain ⟨t, rfl⟩ := hbf
        have i0 : opIx (Say.un .bf t).toD (.int 0) = some (false, .str "before") := rfl
        have i1 : opIx (Say.un .bf t).toD (.int 1) = some (false, t.toD) := rfl
        have q : F_l_holds _ = _ := l_holds_sp b.nm p o hp t 24 (p.length - 1) (by have := hk.2; simp only [Say.dep] at this; omega) hk.1 (by omega)
        simp only [playD] at q
        cases o <;> simp [b_l_memory_L1, en, hm, h0, i0, i1, c1, q, hz, now]
      · have hn : ¬ s.head = "before" := fun e => hbf (s.head_bf.mp e)
        have en2 : now s = s := by
          cases s with
          | un o s => cases o <;> first | rfl | exact absurd ⟨_, rfl⟩ hbf
          | _ => rfl
        have q : F_l_holds _ = _ := l_holds_sp b.nm p o hp s 24 (p.length - 1) (by have := hk.2; omega) hk.1 (by omega)
        rw [en2]
        simp only [playD] at q
        cases o <;> simp [b_l_memory_L1, hix, en, hm, h0, hn, c1, q, hz]
theorem l_memory_sp (b : Book) (hb : b.Ok) (p : List (List Bool)) (o : Bool) (hp : PlayOk b.nm.length p) : F_l_memory [(false, b.toD), (o, playD p)] = .ok (false, setD (memAt b p p.length)) [some (false, b.toD), some (o, playD p)] := by
  have h1 := l_book_pieces_sp b hb.toForm
  obtain ⟨i0, i1, i2, i3, i4⟩ := b.ix
  have ia := nm_add b.foe b.fri hb.toForm.nl.1
  have en : b.foe ++ b.fri = b.nm := rfl
  rw [en] at ia
  obtain ⟨y4, q⟩ := lm_loop b hb p hp o (y0 := some (false, b.toD)) b.pieces [] none (fun s h => h) (by have := hb.pc; simp; omega)
  have e : setD (memAt b p p.length) = .tup ((b.pieces.map (memP b.nm p p.length)).map D.bl) := rfl
  rw [e]
  simp only [List.map_nil, List.nil_append] at q
  simp only [says] at h1
  cases o <;> simp [F_l_memory, b_l_memory, i0, i1, ia, h1, q, -List.map_map]
end Lz
/-! what the game is made of: keeps, loss, answers; the law's answers -/
namespace Lz
open PySem PySem.Spec PyProof.Rows L2
def keepsS (b : Book) (l : List Say) (mem st : List Bool) : Bool := l.all fun s => hM b.nm b.pieces mem st s
def lossS (b : Book) (mem st : List Bool) : Int := ((b.wis.filter fun w => !hM b.nm b.pieces mem st w.2).map fun w => (w.1 : Int)).sum
theorem tell_keeps (b : Book) (hb : b.Ok) (mem st : List Bool) (ms : MS b mem st) (o : Bool) (l : List Say) (hl : ∀ s ∈ l, s ∈ b.says) :
    F_Teller_keeps [(o, tellD b), (false, saysT l), (false, setD mem), (false, setD st)] = .ok (false, .bl (keepsS b l mem st)) [some (o, tellD b), some (false, saysT l), some (false, setD mem), some (false, setD st)] := by
  have hc : compL [4] (gN 4) cT b_Teller_keeps_C1 (l.map Say.toD) [some (o, tellD b), some (false, saysT l), some (false, setD mem), some (false, setD st), none] = .ok (l.map fun s => D.bl (hM b.nm b.pieces mem st s)) [some (o, tellD b), some (false, saysT l), some (false, setD mem), some (false, setD st), none] :=
    compL_m fun s hs => by
      have hk := hb.toForm.sk s (hl s hs)
      have h : F_Teller_holds _ = _ := tell_holds b hb mem st ms o s 24 (by have := hk.2; omega) hk.1 (b.pcs.1 s (hl s hs))
      refine ⟨_, false, rfl, rfl, ?_⟩
      cases o <;> simp [b_Teller_keeps_C1, h]
  have e := blsD_gen (fun s => hM b.nm b.pieces mem st s) l
  have e2 : (l.map fun s => hM b.nm b.pieces mem st s).all id = keepsS b l mem st := by unfold keepsS; rw [List.all_map]; rfl
  simp only [saysT] at hc ⊢
  cases o <;> simp [F_Teller_keeps, b_Teller_keeps, hc, e, e2, -List.map_map, -List.all_map]
theorem tell_loss (b : Book) (hb : b.Ok) (mem st : List Bool) (ms : MS b mem st) (o : Bool) :
    F_Teller_loss [(o, tellD b), (false, setD mem), (false, setD st)] = .ok (false, .int (lossS b mem st)) [some (o, tellD b), some (false, setD mem), some (false, setD st)] := by
  obtain ⟨i0, i1, i2, i3, i4⟩ := b.ix
  have hc : compL [3, 4] (gTp 2 (gCn (gN 3) (gCn (gN 4) gNl))) b_Teller_loss_D1 (sVar 3) (b.wis.map wiD) [some (o, tellD b), some (false, setD mem), some (false, setD st), none, none] = .ok ((b.wis.filter fun w => !hM b.nm b.pieces mem st w.2).map fun w => D.int w.1) [some (o, tellD b), some (false, setD mem), some (false, setD st), none, none] :=
    compL_mf fun w hw => by
      have hs : w.2 ∈ b.says := by unfold Book.says; exact List.mem_append_right _ (List.mem_map_of_mem hw)
      have hk := hb.toForm.sk w.2 hs
      have h : F_Teller_holds _ = _ := tell_holds b hb mem st ms o w.2 24 (by have := hk.2; omega) hk.1 (b.pcs.1 w.2 hs)
      refine ⟨[some (o, tellD b), some (false, setD mem), some (false, setD st), some (false, .int w.1), some (false, w.2.toD)], by simp [wiD], rfl, ?_, fun _ => ⟨false, by simp⟩⟩
      cases o <;> simp [b_Teller_loss_D1, h]
  have e : intsD ((b.wis.filter fun w => !hM b.nm b.pieces mem st w.2).map fun w => D.int w.1) = some ((b.wis.filter fun w => !hM b.nm b.pieces mem st w.2).map fun w => (w.1 : Int)) := intsD_gen _ _
  have e2 : ((b.wis.filter fun w => !hM b.nm b.pieces mem st w.2).map fun w => (w.1 : Int)).sum = lossS b mem st := rfl
  cases o <;> simp [F_Teller_loss, b_Teller_loss, i4, hc, e, e2, -List.map_map]
/-! ### answers -/
abbrev AnsM := List Bool × Int × List Bool
def ansD (x : AnsM) : D := .tup [setD x.1, .int x.2.1, setD x.2.2]
def mkA (b : Book) (mem foe fr : List Bool) : AnsM := (fr, lossS b mem (foe ++ fr), nextM b mem (foe ++ fr))
def goodF (b : Book) (mem foe : List Bool) : List (List Bool) := (setL b.fri.length).filter fun fr => keepsS b b.mus mem (foe ++ fr)
theorem mus_says {b : Book} : ∀ s ∈ b.mus, s ∈ b.says := fun s h => by unfold Book.says; simp [h]
theorem pro_says {b : Book} : ∀ s ∈ b.pro, s ∈ b.says := fun s h => by unfold Book.says; simp [h]
theorem ans_loop (b : Book) (hb : b.Ok) (mem foe : List Bool) (hm : mem.length = b.pieces.length) (hf : foe.length = b.foe.length) (o : Bool) : ∀ (l : List (List Bool)) (acc : List AnsM) (x4 : Option T), (∀ fr ∈ l, fr.length = b.fri.length) → acc.length + l.length ≤ 1000 →
    ∃ y4, forL (gN 4) b_answers_to_L1 (l.map setD) [some (o, tellD b), some (false, setD mem), some (false, setD foe), some (true, .lst (acc.map ansD)), x4] =
      .ok .nx [some (o, tellD b), some (false, setD mem), some (false, setD foe), some (true, .lst ((acc ++ (l.filter fun fr => keepsS b b.mus mem (foe ++ fr)).map (mkA b mem foe)).map ansD)), y4] := by
  intro l
  induction l with
  | nil => exact fun acc x4 _ _ => ⟨x4, by simp⟩
  | cons fr l ih =>
    intro acc x4 hl ha
    simp only [List.length_cons] at ha
    have nl := hb.toForm.nl
    have hfr := hl fr List.mem_cons_self
    have ms : MS b mem (foe ++ fr) := ⟨hm, by rw [List.length_append]; omega⟩
    have h1 := tell_keeps b hb mem (foe ++ fr) ms o b.mus mus_says
    have h2 := tell_loss b hb mem (foe ++ fr) ms o
    have h3 := tell_behind b hb mem (foe ++ fr) ms o
    have ea := set_add foe fr (by omega)
    obtain ⟨i0, i1, i2, i3, i4⟩ := b.ix
    have hz : acc.length < 16777216 := by omega
    rw [List.map_cons]
    cases hk : keepsS b b.mus mem (foe ++ fr) with
    | false =>
      rw [hk] at h1
      obtain ⟨y4, h⟩ := ih acc (some (false, setD fr)) (fun q hq => hl q (List.mem_cons_of_mem _ hq)) (by omega)
      refine ⟨y4, ?_⟩
      rw [List.filter_cons_of_neg (by simp [hk]), ← h]
      cases o <;> simp [b_answers_to_L1, i3, ea, h1]
    | true =>
      rw [hk] at h1
      obtain ⟨y4, h⟩ := ih (acc ++ [mkA b mem foe fr]) (some (false, setD fr)) (fun q hq => hl q (List.mem_cons_of_mem _ hq)) (by simp; omega)
      refine ⟨y4, ?_⟩
      have e : acc ++ ((fr :: l).filter fun fr => keepsS b b.mus mem (foe ++ fr)).map (mkA b mem foe) = acc ++ [mkA b mem foe fr] ++ (l.filter fun fr => keepsS b b.mus mem (foe ++ fr)).map (mkA b mem foe) := by
        rw [List.filter_cons_of_pos (by simp [hk])]; simp
      rw [e, ← h]
      cases o <;> simp [b_answers_to_L1, i3, ea, h1, h2, h3, hz, ansD, mkA]
def ansS (b : Book) (mem foe : List Bool) : List AnsM := (goodF b mem foe).map (mkA b mem foe)
theorem nm_cl {l : List Str} : cfLen [nmD l] = some (false, .int l.length) := by unfold nmD; simp
theorem answers_sp (b : Book) (hb : b.Ok) (mem foe : List Bool) (hm : mem.length = b.pieces.length) (hf : foe.length = b.foe.length) (o : Bool) :
    F_answers_to [(o, tellD b), (false, setD mem), (false, setD foe)] = .ok (true, .lst ((ansS b mem foe).map ansD)) [some (o, tellD b), some (false, setD mem), some (false, setD foe)] := by
  have r1 := hb.toForm.r1
  have r2 := hb.toForm.r2
  obtain ⟨i0, i1, i2, i3, i4⟩ := b.ix
  have hs := settings_of_sp b.fri.length r1 (by omega)
  obtain ⟨y4, h⟩ := ans_loop b hb mem foe hm hf o (setL b.fri.length) [] none (fun fr h => (setL_mem _ _).mp h) (by
    have : (setL b.fri.length).length ≤ 4 := by
      have h : b.fri.length = 1 ∨ b.fri.length = 2 := by omega
      rcases h with h | h <;> rw [h] <;> decide
    simp; omega)
  simp only [List.nil_append, List.map_nil] at h
  have e : (ansS b mem foe).map ansD = (((setL b.fri.length).filter fun fr => keepsS b b.mus mem (foe ++ fr)).map (mkA b mem foe)).map ansD := rfl
  rw [e]
  have hl := nm_cl (l := b.fri)
  cases o <;> simp [F_answers_to, b_answers_to, i1, hl, hs, h, -List.map_map]
/-! ### the law's own: along a play -/
theorem tv_app (nm : List Str) (p : List (List Bool)) (st : List Bool) (s : Say) (k : Nat) (hk : k < p.length) : tvS nm (p ++ [st]) s k = tvS nm p s k := by
  have h := tvS_take nm (p ++ [st]) s p.length k hk
  rw [List.take_left] at h
  exact h.symm
theorem memAt_app (b : Book) (p : List (List Bool)) (st : List Bool) : memAt b (p ++ [st]) p.length = memAt b p p.length := by
  unfold memAt
  refine List.map_congr_left fun s _ => ?_
  unfold memP
  by_cases h : p.length = 0
  · rw [if_pos h, if_pos h]
  · rw [if_neg h, if_neg h, tv_app _ _ _ _ _ (by omega)]
theorem getD_last (p : List (List Bool)) (st : List Bool) : (p ++ [st]).getD p.length [] = st := by simp
theorem hM_play (b : Book) (p : List (List Bool)) (st : List Bool) (s : Say) (h : PcIn b.pieces s) : tvS b.nm (p ++ [st]) s p.length = hM b.nm b.pieces (memAt b p p.length) st s := by
  have := hM_tv b (p ++ [st]) p.length s h
  rw [memAt_app, getD_last] at this
  exact this.symm
theorem keeps_play (b : Book) (p : List (List Bool)) (st : List Bool) (l : List Say) (hl : ∀ s ∈ l, s ∈ b.says) : (!brk b.nm (p ++ [st]) l p.length) = keepsS b l (memAt b p p.length) st := by
  unfold brk keepsS
  rw [List.all_eq_not_any_not]
  congr 1
  rw [Bool.eq_iff_iff, List.any_eq_true, List.any_eq_true]
  refine ⟨fun ⟨s, h1, h2⟩ => ⟨s, h1, ?_⟩, fun ⟨s, h1, h2⟩ => ⟨s, h1, ?_⟩⟩
  · rw [hM_play b p st s (b.pcs.1 s (hl s h1))] at h2; exact h2
  · rw [hM_play b p st s (b.pcs.1 s (hl s h1))]; exact h2
theorem loss_play (b : Book) (p : List (List Bool)) (st : List Bool) : lossA b.nm (p ++ [st]) b.wis p.length = lossS b (memAt b p p.length) st := by
  unfold lossA lossS
  congr 2
  refine List.filter_congr fun w hw => ?_
  rw [hM_play b p st w.2 (b.pcs.1 w.2 (by unfold Book.says; exact List.mem_append_right _ (List.mem_map_of_mem hw)))]
theorem next_play (b : Book) (p : List (List Bool)) (st : List Bool) : memAt b (p ++ [st]) (p ++ [st]).length = nextM b (memAt b p p.length) st := by
  have h := nextM_at b (p ++ [st]) p.length
  rw [memAt_app, getD_last] at h
  rw [h]
  simp
theorem play_add {p : List (List Bool)} {st : List Bool} (h : p.length + 1 ≤ 16777216) : opAdd (playD p) (.lst [setD st]) = some (true, playD (p ++ [st])) := by
  unfold playD
  rw [opAdd_lst, if_pos (by simpa using h), List.map_append]
  rfl
abbrev AnsP := List Bool × Int × List (List Bool)
def lansD (x : AnsP) : D := .tup [setD x.1, .int x.2.1, playD x.2.2]
def mkP (b : Book) (p : List (List Bool)) (foe fr : List Bool) : AnsP := (fr, lossS b (memAt b p p.length) (foe ++ fr), p ++ [foe ++ fr])
theorem PlayOk.snoc {n : Nat} {p : List (List Bool)} {st : List Bool} (h : PlayOk n p) (hs : st.length = n) (hl : p.length < 1000) : PlayOk n (p ++ [st]) := ⟨fun x hx => by
  rcases List.mem_append.mp hx with hx | hx
  · exact h.1 x hx
  · rw [List.mem_singleton.mp hx]; exact hs, by simp; omega⟩
theorem lans_loop (b : Book) (hb : b.Ok) (p : List (List Bool)) (hp : PlayOk b.nm.length p) (hpl : p.length < 1000) (foe : List Bool) (hf : foe.length = b.foe.length) (o : Bool) : ∀ (l : List (List Bool)) (acc : List AnsP) (x5 x6 : Option T), (∀ fr ∈ l, fr.length = b.fri.length) → acc.length + l.length ≤ 1000 →
    ∃ y5 y6, forL (gN 5) b_l_answers_L1 (l.map setD) [some (false, b.toD), some (o, playD p), some (false, setD foe), some (false, nmD b.nm), some (true, .lst (acc.map lansD)), x5, x6] =
      .ok .nx [some (false, b.toD), some (o, playD p), some (false, setD foe), some (false, nmD b.nm), some (true, .lst ((acc ++ (l.filter fun fr => keepsS b b.mus (memAt b p p.length) (foe ++ fr)).map (mkP b p foe)).map lansD)), y5, y6] := by
  intro l
  induction l with
  | nil => exact fun acc x5 x6 _ _ => ⟨x5, x6, by simp⟩
  | cons fr l ih =>
    intro acc x5 x6 hl ha
    simp only [List.length_cons] at ha
    have nl := hb.toForm.nl
    have hfr := hl fr List.mem_cons_self
    have hq : PlayOk b.nm.length (p ++ [foe ++ fr]) := hp.snoc (by rw [List.length_append]; omega) hpl
    have h1 := l_kept_sp b.nm b.mus hb.toForm.okn (fun s hs => ⟨(hb.toForm.mq s hs).1, by have := (hb.toForm.mq s hs).2; omega⟩) (p ++ [foe ++ fr]) true hq p.length (by simp)
    rw [keeps_play b p (foe ++ fr) b.mus mus_says] at h1
    have h2 := l_loss_sp b hb.toForm (p ++ [foe ++ fr]) true hq p.length (by simp)
    rw [loss_play] at h2
    have ea := set_add foe fr (by omega)
    have ep := play_add (p := p) (st := foe ++ fr) (by omega)
    obtain ⟨i0, i1, i2, i3, i4⟩ := b.ix
    have hz : acc.length < 16777216 := by omega
    rw [List.map_cons]
    generalize hP : playD (p ++ [foe ++ fr]) = P at h1 h2 ep
    have hPl : ∃ ds, P = .lst ds := ⟨_, hP.symm⟩
    cases hk : keepsS b b.mus (memAt b p p.length) (foe ++ fr) with
    | false =>
      rw [hk] at h1
      obtain ⟨y5, y6, h⟩ := ih acc (some (false, setD fr)) (some (true, P)) (fun q hq => hl q (List.mem_cons_of_mem _ hq)) (by omega)
      refine ⟨y5, y6, ?_⟩
      rw [List.filter_cons_of_neg (by simp [hk]), ← h]
      cases o <;> simp [b_l_answers_L1, i3, ea, ep, h1]
    | true =>
      rw [hk] at h1
      obtain ⟨y5, y6, h⟩ := ih (acc ++ [mkP b p foe fr]) (some (false, setD fr)) (some (false, P)) (fun q hq => hl q (List.mem_cons_of_mem _ hq)) (by simp; omega)
      refine ⟨y5, y6, ?_⟩
      have e : acc ++ ((fr :: l).filter fun fr => keepsS b b.mus (memAt b p p.length) (foe ++ fr)).map (mkP b p foe) = acc ++ [mkP b p foe fr] ++ (l.filter fun fr => keepsS b b.mus (memAt b p p.length) (foe ++ fr)).map (mkP b p foe) := by
        rw [List.filter_cons_of_pos (by simp [hk])]; simp
      rw [e, ← h]
      obtain ⟨ds, rfl⟩ := hPl
      cases o <;> simp [b_l_answers_L1, i3, ea, ep, h1, h2, hz, lansD, mkP, hP]
def lansS (b : Book) (p : List (List Bool)) (foe : List Bool) : List AnsP := (goodF b (memAt b p p.length) foe).map (mkP b p foe)
theorem l_answers_sp (b : Book) (hb : b.Ok) (p : List (List Bool)) (hp : PlayOk b.nm.length p) (hpl : p.length < 1000) (foe : List Bool) (hf : foe.length = b.foe.length) (o : Bool) :
    F_l_answers [(false, b.toD), (o, playD p), (false, setD foe)] = .ok (true, .lst ((lansS b p foe).map lansD)) [some (false, b.toD), some (o, playD p), some (false, setD foe)] := by
  have r1 := hb.toForm.r1
  have r2 := hb.toForm.r2
  obtain ⟨i0, i1, i2, i3, i4⟩ := b.ix
  have ia := nm_add b.foe b.fri hb.toForm.nl.1
  have en : b.foe ++ b.fri = b.nm := rfl
  rw [en] at ia
  have hs := settings_of_sp b.fri.length r1 (by omega)
  rw [← l_settings_eq] at hs
  obtain ⟨y5, y6, h⟩ := lans_loop b hb p hp hpl foe hf o (setL b.fri.length) [] none none (fun fr h => (setL_mem _ _).mp h) (by
    have : (setL b.fri.length).length ≤ 4 := by
      have h : b.fri.length = 1 ∨ b.fri.length = 2 := by omega
      rcases h with h | h <;> rw [h] <;> decide
    simp; omega)
  simp only [List.nil_append, List.map_nil] at h
  have e : (lansS b p foe).map lansD = (((setL b.fri.length).filter fun fr => keepsS b b.mus (memAt b p p.length) (foe ++ fr)).map (mkP b p foe)).map lansD := rfl
  rw [e]
  have hl := nm_cl (l := b.fri)
  cases o <;> simp [F_l_answers, b_l_answers, i0, i1, ia, hl, hs, h, -List.map_map]
end Lz
/-! the game, built -/
namespace Lz
open PySem PySem.Spec PyProof.Rows L2
/-! ### a dict from settings to numbers -/
def nkS (m : List Bool) : NestedKey := .tup (m.map fun b => .num (if b = true then 1 else 0))
theorem nkDs_bl : ∀ m : List Bool, nkDs (m.map D.bl) = some (m.map fun b => NestedKey.num (if b = true then 1 else 0))
  | [] => by simp [nkDs]
  | b :: m => by
    rw [List.map_cons, nkDs, nkDs_bl m, nkD]
    rfl
theorem nkD_set (m : List Bool) : nkD (setD m) = some (nkS m) := by
  unfold setD
  rw [nkD, nkDs_bl]
  rfl
theorem depthAll_num : ∀ m : List Bool, NestedKey.depthAll (m.map fun b => NestedKey.num (if b = true then 1 else 0)) = 0
  | [] => by simp [NestedKey.depthAll]
  | b :: m => by
    rw [List.map_cons, NestedKey.depthAll, depthAll_num m, NestedKey.depth]
    rfl
theorem nkOf_set (m : List Bool) : nkOf (setD m) = some (nkS m) := by
  have h := nkD_set m
  unfold setD at h ⊢
  unfold nkOf
  dsimp only
  rw [h]
  have hd : (nkS m).depth ≤ 8 := by
    unfold nkS
    rw [NestedKey.depth, depthAll_num]
    decide
  show (if (nkS m).depth ≤ 8 then some (nkS m) else none) = _
  rw [if_pos hd]
theorem nkS_inj {a b : List Bool} (h : nkS a = nkS b) : a = b := by
  unfold nkS at h
  injection h with h
  induction a generalizing b with
  | nil =>
    cases b with
    | nil => rfl
    | cons y b => cases h
  | cons x a ih =>
    cases b with
    | nil => cases h
    | cons y b =>
      rw [List.map_cons, List.map_cons] at h
      injection h with h1 h2
      rw [ih h2]
      cases x <;> cases y <;> first | rfl | (simp at h1)
def metL : List (List Bool) → Nat → List (D × D)
  | [], _ => []
  | m :: r, k => (setD m, .int k) :: metL r (k + 1)
theorem metL_len : ∀ (l : List (List Bool)) (k : Nat), (metL l k).length = l.length
  | [], _ => rfl
  | m :: l, k => by rw [metL, List.length_cons, List.length_cons, metL_len l]
theorem metL_app : ∀ (l : List (List Bool)) (m : List Bool) (k : Nat), metL (l ++ [m]) k = metL l k ++ [(setD m, .int (k + l.length : Nat))]
  | [], m, k => rfl
  | x :: l, m, k => by
    rw [List.cons_append, metL, metL_app l m (k + 1), metL, List.cons_append, List.length_cons]
    have e : k + 1 + l.length = k + (l.length + 1) := by omega
    rw [e]
theorem dGet_met : ∀ (l : List (List Bool)) (m : List Bool) (k : Nat), dGet (metL l k) (nkS m) = if m ∈ l then some (.int (k + ixOf m l : Nat)) else none
  | [], m, k => by simp [metL, dGet]
  | x :: l, m, k => by
    rw [metL, dGet, nkD_set]
    by_cases h : x = m
    · subst h
      have e : ixOf x (x :: l) = 0 := by simp [ixOf]
      rw [if_pos rfl, if_pos (by simp), e]
      rfl
    · have hn : ¬ (some (nkS x) = some (nkS m)) := fun e => h (nkS_inj (Option.some.inj e))
      rw [if_neg hn, dGet_met l m (k + 1)]
      by_cases hm : m ∈ l
      · have e : ixOf m (x :: l) = ixOf m l + 1 := by
          simp [ixOf, h]
        rw [if_pos hm, if_pos (by simp [hm]), e]
        congr 3
        omega
      · rw [if_neg hm, if_neg (by simp [hm]; exact fun e => h e.symm)]
theorem notIn_met (l : List (List Bool)) (m : List Bool) : opNotInT (setD m) (.dct (metL l 0)) = some (false, .bl (!decide (m ∈ l))) := by
  unfold opNotInT
  dsimp only
  rw [nkOf_set]
  show some ((false, D.bl (!(dGet (metL l 0) (nkS m)).isSome)) : T) = _
  rw [dGet_met]
  by_cases h : m ∈ l <;> simp [h]
theorem ix_met {l : List (List Bool)} {m : List Bool} (h : m ∈ l) : opIxT (.dct (metL l 0)) (setD m) = some (false, .int (ixOf m l : Nat)) := by
  unfold opIxT
  dsimp only
  rw [nkOf_set, Option.bind_some, dGet_met, if_pos h, Nat.zero_add]
  rfl
theorem put_met {l : List (List Bool)} {m : List Bool} (h : m ∉ l) : dPut (metL l 0) (setD m) (nkS m) (.int (l.length : Nat)) = metL (l ++ [m]) 0 := by
  unfold dPut
  rw [dGet_met, if_neg h, if_neg (by simp), metL_app, Nat.zero_add]
/-! ### the game -/
abbrev AnsN := List Bool × Int × Nat
abbrev MvN := List Bool × List AnsN
abbrev NdN := List Bool × List MvN
def ansND (x : AnsN) : D := .tup [setD x.1, .int x.2.1, .int x.2.2]
def mvD (x : MvN) : D := .tup [setD x.1, .tup (x.2.map ansND)]
def ndD (x : NdN) : D := .tup [setD x.1, .tup (x.2.map mvD)]
theorem ptAns : PT ansND 2 := ptSet.trip (PT.int.mono (by decide)) (PT.nat.mono (by decide))
theorem ptMv : PT mvD 4 := (ptSet.mono (by decide)).pair ptAns.tup
theorem ptNd : PT ndD 6 := (ptSet.mono (by decide)).pair ptMv.tup
def addM (m : List Bool) (ms : List (List Bool)) : List (List Bool) := if m ∈ ms then ms else ms ++ [m]
def goA : List AnsM → List (List Bool) → List AnsN → List (List Bool) × List AnsN
  | [], ms, as => (ms, as)
  | x :: r, ms, as => goA r (addM x.2.2 ms) (as ++ [(x.1, x.2.1, ixOf x.2.2 (addM x.2.2 ms))])
def offF (b : Book) : List Bool := List.replicate b.fri.length false
def goM (b : Book) (mem : List Bool) : List (List Bool) → List (List Bool) → List MvN → List (List Bool) × List MvN
  | [], ms, mv => (ms, mv)
  | foe :: r, ms, mv => if keepsS b b.pro mem (foe ++ offF b) = true then goM b mem r (goA (ansS b mem foe) ms []).1 (mv ++ [(foe, (goA (ansS b mem foe) ms []).2)]) else goM b mem r ms mv
def goW (b : Book) : Nat → List (List Bool) → List NdN → List (List Bool) × List NdN
  | 0, ms, nds => (ms, nds)
  | n + 1, ms, nds => if nds.length < ms.length then goW b n (goM b (ms.getD nds.length []) (setL b.foe.length) ms []).1 (nds ++ [(ms.getD nds.length [], (goM b (ms.getD nds.length []) (setL b.foe.length) ms []).2)]) else (ms, nds)
def gameW (b : Book) : List (List Bool) × List NdN := goW b 16 [mem0 b] []
def gameS (b : Book) : List NdN := (gameW b).2
structure MsOk (b : Book) (ms : List (List Bool)) : Prop where
  nd : ms.Nodup
  ln : ∀ m ∈ ms, m.length = b.pieces.length
theorem nodup_sub {α : Type} [DecidableEq α] : ∀ {l r : List α}, l.Nodup → (∀ x ∈ l, x ∈ r) → l.length ≤ r.length
  | [], _, _, _ => Nat.zero_le _
  | x :: l, r, h, hs => by
    obtain ⟨h1, h2⟩ := List.nodup_cons.mp h
    have hx := hs x List.mem_cons_self
    have ih := nodup_sub (r := r.erase x) h2 fun y hy => (List.mem_erase_of_ne (fun e => h1 (by rw [← e]; exact hy))).mpr (hs y (List.mem_cons_of_mem _ hy))
    rw [List.length_erase_of_mem hx] at ih
    have := List.length_pos_of_mem hx
    rw [List.length_cons]; omega
theorem MsOk.l16 {b : Book} (hb : b.Ok) {ms : List (List Bool)} (h : MsOk b ms) : ms.length ≤ 16 := by
  have h1 := nodup_sub h.nd fun m hm => (setL_mem _ _).mpr (h.ln m hm)
  rw [setL_len] at h1
  have h2 : 2 ^ b.pieces.length ≤ 2 ^ 4 := Nat.pow_le_pow_right (by decide) hb.pc
  omega
theorem MsOk.add {b : Book} {ms : List (List Bool)} {m : List Bool} (h : MsOk b ms) (hm : m.length = b.pieces.length) : MsOk b (addM m ms) := by
  unfold addM
  by_cases hi : m ∈ ms
  · rw [if_pos hi]; exact h
  · rw [if_neg hi]
    refine ⟨List.nodup_append.mpr ⟨h.nd, by simp, fun x hx y hy e => ?_⟩, fun x hx => ?_⟩
    · rw [List.mem_singleton.mp hy] at e; exact hi (e ▸ hx)
    · rcases List.mem_append.mp hx with hx | hx
      · exact h.ln x hx
      · rw [List.mem_singleton.mp hx]; exact hm
theorem mem_addM (m : List Bool) (ms : List (List Bool)) : m ∈ addM m ms := by
  unfold addM
  by_cases hi : m ∈ ms
  · rw [if_pos hi]; exact hi
  · rw [if_neg hi]; simp
theorem addM_le (m : List Bool) (ms : List (List Bool)) : ms.length ≤ (addM m ms).length := by
  unfold addM
  split
  · omega
  · simp
theorem goA_ok {b : Book} : ∀ (l : List AnsM) (ms : List (List Bool)) (as : List AnsN), MsOk b ms → (∀ x ∈ l, x.2.2.length = b.pieces.length) → MsOk b (goA l ms as).1 ∧ ms.length ≤ (goA l ms as).1.length
  | [], ms, as, h, _ => ⟨h, Nat.le_refl _⟩
  | x :: l, ms, as, h, hl => by
    have := goA_ok l (addM x.2.2 ms) (as ++ [(x.1, x.2.1, ixOf x.2.2 (addM x.2.2 ms))]) (h.add (hl x List.mem_cons_self)) fun y hy => hl y (List.mem_cons_of_mem _ hy)
    exact ⟨this.1, Nat.le_trans (addM_le _ _) this.2⟩
theorem ansS_len {b : Book} {mem foe : List Bool} : ∀ x ∈ ansS b mem foe, x.2.2.length = b.pieces.length := fun x hx => by
  obtain ⟨fr, _, rfl⟩ := List.mem_map.mp hx
  exact nextM_len b _ _
theorem goM_ok {b : Book} {mem : List Bool} : ∀ (l ms : List (List Bool)) (mv : List MvN), MsOk b ms → MsOk b (goM b mem l ms mv).1 ∧ ms.length ≤ (goM b mem l ms mv).1.length
  | [], ms, mv, h => ⟨h, Nat.le_refl _⟩
  | foe :: l, ms, mv, h => by
    unfold goM
    split
    · have h1 := goA_ok (ansS b mem foe) ms [] h ansS_len
      have h2 := goM_ok (b := b) (mem := mem) l _ (mv ++ [(foe, (goA (ansS b mem foe) ms []).2)]) h1.1
      exact ⟨h2.1, Nat.le_trans h1.2 h2.2⟩
    · exact goM_ok l ms mv h
theorem ga_loop (b : Book) (hb : b.Ok) {y0 y1 y4 y5 y6 y7 : Option T} : ∀ (l : List AnsM) (ms : List (List Bool)) (as : List AnsN) (x9 x10 x11 : Option T), MsOk b ms → (∀ x ∈ l, x.2.2.length = b.pieces.length) → as.length + l.length ≤ 1000 →
    ∃ y9 y10 y11, forL (gTp 3 (gCn (gN 9) (gCn (gN 10) (gCn (gN 11) gNl)))) b_game_of_L1 (l.map ansD) [y0, y1, some (true, .dct (metL ms 0)), some (true, .lst (ms.map setD)), y4, y5, y6, y7, some (true, .lst (as.map ansND)), x9, x10, x11] =
      .ok .nx [y0, y1, some (true, .dct (metL (goA l ms as).1 0)), some (true, .lst ((goA l ms as).1.map setD)), y4, y5, y6, y7, some (true, .lst ((goA l ms as).2.map ansND)), y9, y10, y11] := by
  intro l
  induction l with
  | nil => exact fun ms as x9 x10 x11 _ _ _ => ⟨x9, x10, x11, by simp [goA]⟩
  | cons x l ih =>
    intro ms as x9 x10 x11 hm hl ha
    simp only [List.length_cons] at ha
    obtain ⟨fr, ls, m⟩ := x
    have hml : m.length = b.pieces.length := hl (fr, ls, m) List.mem_cons_self
    obtain ⟨y9, y10, y11, h⟩ := ih (addM m ms) (as ++ [(fr, ls, ixOf m (addM m ms))]) (some (false, setD fr)) (some (false, .int ls)) (some (false, setD m)) (hm.add hml) (fun q hq => hl q (List.mem_cons_of_mem _ hq)) (by simp; omega)
    refine ⟨y9, y10, y11, ?_⟩
    have l16 := hm.l16 hb
    have hz : as.length < 16777216 := by omega
    have hz2 : ms.length < 16777216 := by omega
    have h1 := notIn_met ms m
    have h2 := ix_met (mem_addM m ms)
    have hk := nkOf_set m
    rw [List.map_cons]
    show _ = R.ok Fl.nx [y0, y1, some (true, .dct (metL (goA l (addM m ms) (as ++ [(fr, ls, ixOf m (addM m ms))])).1 0)), some (true, .lst ((goA l (addM m ms) (as ++ [(fr, ls, ixOf m (addM m ms))])).1.map setD)), y4, y5, y6, y7, some (true, .lst ((goA l (addM m ms) (as ++ [(fr, ls, ixOf m (addM m ms))])).2.map ansND)), y9, y10, y11]
    rw [← h]
    by_cases hi : m ∈ ms
    · have e : addM m ms = ms := by unfold addM; rw [if_pos hi]
      rw [e] at h2 ⊢
      rw [decide_eq_true hi] at h1
      simp at h1
      simp [b_game_of_L1, ansD, h1, h2, hz, ansND]
    · have e : addM m ms = ms ++ [m] := by unfold addM; rw [if_neg hi]
      have hp := put_met hi
      have hl2 := metL_len ms 0
      rw [e] at h2 ⊢
      rw [decide_eq_false hi] at h1
      simp at h1
      simp [b_game_of_L1, ansD, h1, h2, hz, hz2, hk, hp, hl2, ansND]
theorem mul_off {n : Nat} (h1 : 1 ≤ n) (h2 : n ≤ 2) : opMul (.tup [.bl false]) (.int n) = some (false, setD (List.replicate n false)) := by
  have h : n = 1 ∨ n = 2 := by omega
  rcases h with rfl | rfl <;> simp [setD]
theorem gm_loop (b : Book) (hb : b.Ok) (mem : List Bool) (hmem : mem.length = b.pieces.length) (o : Bool) {y4 : Option T} : ∀ (l : List (List Bool)) (ms : List (List Bool)) (mv : List MvN) (x7 x8 x9 x10 x11 : Option T), (∀ f ∈ l, f.length = b.foe.length) → MsOk b ms → mv.length + l.length ≤ 1000 →
    ∃ y7 y8 y9 y10 y11, forL (gN 7) b_game_of_L2 (l.map setD) [some (false, b.toD), some (o, tellD b), some (true, .dct (metL ms 0)), some (true, .lst (ms.map setD)), y4, some (false, setD mem), some (true, .lst (mv.map mvD)), x7, x8, x9, x10, x11] =
      .ok .nx [some (false, b.toD), some (o, tellD b), some (true, .dct (metL (goM b mem l ms mv).1 0)), some (true, .lst ((goM b mem l ms mv).1.map setD)), y4, some (false, setD mem), some (true, .lst ((goM b mem l ms mv).2.map mvD)), y7, y8, y9, y10, y11] := by
  intro l
  induction l with
  | nil => exact fun ms mv x7 x8 x9 x10 x11 _ _ _ => ⟨x7, x8, x9, x10, x11, by simp [goM]⟩
  | cons foe l ih =>
    intro ms mv x7 x8 x9 x10 x11 hl hm ha
    simp only [List.length_cons] at ha
    have nl := hb.toForm.nl
    have r1 := hb.toForm.r1
    have r2 := hb.toForm.r2
    have f2 := hb.toForm.f2
    have hf := hl foe List.mem_cons_self
    have ho : (offF b).length = b.fri.length := by simp [offF]
    have msk : MS b mem (foe ++ offF b) := ⟨hmem, by rw [List.length_append]; omega⟩
    have h1 := tell_keeps b hb mem (foe ++ offF b) msk o b.pro pro_says
    have h2 := answers_sp b hb mem foe hmem hf o
    have ea := set_add foe (offF b) (by omega)
    have em : opMul (.tup [.bl false]) (.int b.fri.length) = some (false, setD (offF b)) := mul_off r1 r2
    obtain ⟨i0, i1, i2, i3, i4⟩ := b.ix
    have hn := nm_cl (l := b.fri)
    have hz : mv.length < 16777216 := by omega
    rw [List.map_cons]
    cases hk : keepsS b b.pro mem (foe ++ offF b) with
    | false =>
      rw [hk] at h1
      obtain ⟨y7, y8, y9, y10, y11, h⟩ := ih ms mv (some (false, setD foe)) x8 x9 x10 x11 (fun q hq => hl q (List.mem_cons_of_mem _ hq)) hm (by omega)
      refine ⟨y7, y8, y9, y10, y11, ?_⟩
      have e : goM b mem (foe :: l) ms mv = goM b mem l ms mv := by rw [goM, if_neg (by rw [hk]; decide)]
      rw [e, ← h]
      cases o <;> simp [b_game_of_L2, i1, i2, hn, em, ea, h1]
    | true =>
      rw [hk] at h1
      have ok1 := goA_ok (ansS b mem foe) ms [] hm ansS_len
      have hal : (ansS b mem foe).length ≤ 4 := by
        unfold ansS goodF
        rw [List.length_map]
        refine Nat.le_trans (List.length_filter_le _ _) ?_
        rw [setL_len]
        have : 2 ^ b.fri.length ≤ 2 ^ 2 := Nat.pow_le_pow_right (by decide) r2
        omega
      obtain ⟨z9, z10, z11, hg⟩ := ga_loop b hb (y0 := some (false, b.toD)) (y1 := some (o, tellD b)) (y4 := y4) (y5 := some (false, setD mem)) (y6 := some (true, .lst (mv.map mvD))) (y7 := some (false, setD foe)) (ansS b mem foe) ms [] x9 x10 x11 hm ansS_len (by simp; omega)
      generalize hq : goA (ansS b mem foe) ms [] = q at ok1 hg
      obtain ⟨y7, y8, y9, y10, y11, h⟩ := ih q.1 (mv ++ [(foe, q.2)]) (some (false, setD foe)) (some (true, .lst (q.2.map ansND))) z9 z10 z11 (fun q hq => hl q (List.mem_cons_of_mem _ hq)) ok1.1 (by simp; omega)
      refine ⟨y7, y8, y9, y10, y11, ?_⟩
      have e : goM b mem (foe :: l) ms mv = goM b mem l q.1 (mv ++ [(foe, q.2)]) := by rw [goM, if_pos hk, hq]
      rw [e, ← h]
      simp only [List.map_nil] at hg
      cases o <;> simp [b_game_of_L2, i1, i2, hn, em, ea, h1, h2, hg, hz, mvD]
theorem row_at {α : Type} {w : α → D} {ms : List α} {k : Nat} (d : α) (h : k < ms.length) : opIx (.lst (ms.map w)) (.int k) = some (false, w (ms.getD k d)) := by
  rw [opIx_lst, atI_lt (by simpa using h)]
  simp [List.getD_eq_getElem?_getD, List.getElem?_eq_getElem h]
theorem getD_mem {α : Type} {l : List α} {k : Nat} {d : α} (h : k < l.length) : l.getD k d ∈ l := by
  rw [List.getD_eq_getElem?_getD, List.getElem?_eq_getElem h]
  exact List.getElem_mem _
theorem gw_step (b : Book) (hb : b.Ok) (o : Bool) (ms : List (List Bool)) (nds : List NdN) (hm : MsOk b ms) (hlt : nds.length < ms.length) (x5 x6 x7 x8 x9 x10 x11 : Option T) :
    ∃ y5 y6 y7 y8 y9 y10 y11, b_game_of_L3 [some (false, b.toD), some (o, tellD b), some (true, .dct (metL ms 0)), some (true, .lst (ms.map setD)), some (true, .lst (nds.map ndD)), x5, x6, x7, x8, x9, x10, x11] =
      .ok .nx [some (false, b.toD), some (o, tellD b), some (true, .dct (metL (goM b (ms.getD nds.length []) (setL b.foe.length) ms []).1 0)), some (true, .lst ((goM b (ms.getD nds.length []) (setL b.foe.length) ms []).1.map setD)), some (true, .lst ((nds ++ [(ms.getD nds.length [], (goM b (ms.getD nds.length []) (setL b.foe.length) ms []).2)]).map ndD)), y5, y6, y7, y8, y9, y10, y11] := by
  have l16 := hm.l16 hb
  have f1 := hb.toForm.f1
  have f2 := hb.toForm.f2
  have hr := row_at (w := setD) [] hlt
  have hmem := hm.ln _ (getD_mem (d := []) hlt)
  obtain ⟨i0, i1, i2, i3, i4⟩ := b.ix
  have hn := nm_cl (l := b.foe)
  have hs := settings_of_sp b.foe.length f1 (by omega)
  have hz : nds.length < 16777216 := by omega
  generalize ms.getD nds.length [] = mem at *
  have hsl : (setL b.foe.length).length ≤ 4 := by
    rw [setL_len]
    have : 2 ^ b.foe.length ≤ 2 ^ 2 := Nat.pow_le_pow_right (by decide) f2
    omega
  obtain ⟨y7, y8, y9, y10, y11, h⟩ := gm_loop b hb mem hmem o (y4 := some (true, .lst (nds.map ndD))) (setL b.foe.length) ms [] x7 x8 x9 x10 x11 (fun f h => (setL_mem _ _).mp h) hm (by simp; omega)
  generalize hq : goM b mem (setL b.foe.length) ms [] = q at h
  refine ⟨some (false, setD mem), some (true, .lst (q.2.map mvD)), y7, y8, y9, y10, y11, ?_⟩
  simp only [List.map_nil] at h
  cases o <;> simp [b_game_of_L3, hr, i0, hn, hs, h, hz, ndD]
theorem gw_loop (b : Book) (hb : b.Ok) (o : Bool) : ∀ (n : Nat) (ms : List (List Bool)) (nds : List NdN) (f : Nat) (x5 x6 x7 x8 x9 x10 x11 : Option T), MsOk b ms → nds.length ≤ ms.length → 16 ≤ nds.length + n → n < f →
    ∃ y5 y6 y7 y8 y9 y10 y11, xWhile (sB (sBin opLt (sCl cfLen (sCons (sVar 4) sNil)) (sCl cfLen (sCons (sVar 3) sNil)))) b_game_of_L3 f [some (false, b.toD), some (o, tellD b), some (true, .dct (metL ms 0)), some (true, .lst (ms.map setD)), some (true, .lst (nds.map ndD)), x5, x6, x7, x8, x9, x10, x11] =
      .ok .nx [some (false, b.toD), some (o, tellD b), some (true, .dct (metL (goW b n ms nds).1 0)), some (true, .lst ((goW b n ms nds).1.map setD)), some (true, .lst ((goW b n ms nds).2.map ndD)), y5, y6, y7, y8, y9, y10, y11] := by
  intro n
  induction n with
  | zero =>
    intro ms nds f x5 x6 x7 x8 x9 x10 x11 hm hle h16 hf
    have l16 := hm.l16 hb
    obtain ⟨f, rfl⟩ : ∃ k, f = k + 1 := ⟨f - 1, by omega⟩
    refine ⟨x5, x6, x7, x8, x9, x10, x11, ?_⟩
    have hn : ¬ nds.length < ms.length := by omega
    rw [xWhile_s]
    simp [hn, goW]
  | succ n ih =>
    intro ms nds f x5 x6 x7 x8 x9 x10 x11 hm hle h16 hf
    have l16 := hm.l16 hb
    obtain ⟨f, rfl⟩ : ∃ k, f = k + 1 := ⟨f - 1, by omega⟩
    by_cases hlt : nds.length < ms.length
    · obtain ⟨z5, z6, z7, z8, z9, z10, z11, hs⟩ := gw_step b hb o ms nds hm hlt x5 x6 x7 x8 x9 x10 x11
      have ok := goM_ok (b := b) (mem := ms.getD nds.length []) (setL b.foe.length) ms [] hm
      have e : goW b (n + 1) ms nds = goW b n (goM b (ms.getD nds.length []) (setL b.foe.length) ms []).1 (nds ++ [(ms.getD nds.length [], (goM b (ms.getD nds.length []) (setL b.foe.length) ms []).2)]) := by rw [goW, if_pos hlt]
      rw [e]
      generalize goM b (ms.getD nds.length []) (setL b.foe.length) ms [] = q at *
      generalize ms.getD nds.length [] = mem at *
      obtain ⟨y5, y6, y7, y8, y9, y10, y11, h⟩ := ih q.1 (nds ++ [(mem, q.2)]) f z5 z6 z7 z8 z9 z10 z11 ok.1 (by simp; omega) (by simp; omega) (by omega)
      refine ⟨y5, y6, y7, y8, y9, y10, y11, ?_⟩
      rw [← h, xWhile_s]
      simp [hlt, hs]
    · refine ⟨x5, x6, x7, x8, x9, x10, x11, ?_⟩
      have e : goW b (n + 1) ms nds = (ms, nds) := by rw [goW, if_neg hlt]
      rw [xWhile_s, e]
      simp [hlt]
theorem mem0_ok (b : Book) : MsOk b [mem0 b] := ⟨by simp, fun m hm => by rw [List.mem_singleton.mp hm]; simp [mem0]⟩
theorem game_of_sp (b : Book) (hb : b.Ok) : F_game_of [(false, b.toD)] = .ok (true, .lst ((gameS b).map ndD)) [some (false, b.toD)] := by
  have h1 := tell_init b hb.toForm
  have h2 := tell_first b true
  have hk := nkOf_set (mem0 b)
  obtain ⟨y5, y6, y7, y8, y9, y10, y11, h⟩ := gw_loop b hb true 16 [mem0 b] [] wN none none none none none none none (mem0_ok b) (by simp) (by simp) (by unfold wN; omega)
  have e : (goW b 16 [mem0 b] []).2 = gameS b := rfl
  rw [e] at h
  simp only [List.map_cons, List.map_nil, metL] at h
  simp at h
  simp [F_game_of, b_game_of, h1, h2, hk, h]
theorem game_sp (b : Book) (hb : b.Ok) : F_game [(false, b.toD)] = .ok (true, .lst ((gameS b).map ndD)) [some (false, b.toD)] := by
  have h1 := checked_ok b hb
  have h2 := game_of_sp b hb
  simp [F_game, b_game, h1, h2]
end Lz
/-! the law's own game -/
namespace Lz
open PySem PySem.Spec PyProof.Rows L2
abbrev Play := List (List Bool)
def mAt (b : Book) (p : Play) : List Bool := memAt b p p.length
structure PsOk (b : Book) (ps : List Play) : Prop where
  ms : MsOk b (ps.map (mAt b))
  pl : ∀ p ∈ ps, PlayOk b.nm.length p ∧ p.length < ps.length
def convA (b : Book) (x : AnsP) : AnsM := (x.1, x.2.1, mAt b x.2.2)
theorem lans_conv (b : Book) (p : Play) (foe : List Bool) : (lansS b p foe).map (convA b) = ansS b (mAt b p) foe := by
  unfold lansS ansS
  rw [List.map_map]
  refine List.map_congr_left fun fr _ => ?_
  show (fr, lossS b (memAt b p p.length) (foe ++ fr), mAt b (p ++ [foe ++ fr])) = _
  unfold mAt
  rw [next_play]
  rfl
theorem mAt_len (b : Book) (p : Play) : (mAt b p).length = b.pieces.length := by simp [mAt, memAt]
theorem PsOk.add {b : Book} {ps : List Play} {p : Play} (h : PsOk b ps) (hp : PlayOk b.nm.length p) (hl : p.length ≤ ps.length) (hn : mAt b p ∉ ps.map (mAt b)) : PsOk b (ps ++ [p]) := by
  refine ⟨?_, fun q hq => ?_⟩
  · have := h.ms.add (m := mAt b p) (mAt_len b p)
    unfold addM at this
    rw [if_neg hn] at this
    rw [List.map_append]
    exact this
  · rw [List.length_append, List.length_singleton]
    rcases List.mem_append.mp hq with hq | hq
    · exact ⟨(h.pl q hq).1, by have := (h.pl q hq).2; omega⟩
    · rw [List.mem_singleton.mp hq]; exact ⟨hp, by omega⟩
theorem PsOk.l16 {b : Book} (hb : b.Ok) {ps : List Play} (h : PsOk b ps) : ps.length ≤ 16 := by
  have := h.ms.l16 hb
  rw [List.length_map] at this
  exact this
theorem la_loop (b : Book) (hb : b.Ok) {y3 y4 y5 y6 : Option T} : ∀ (l : List AnsP) (ps : List Play) (as : List AnsN) (x8 x9 x10 x11 : Option T), PsOk b ps → (∀ x ∈ l, PlayOk b.nm.length x.2.2 ∧ x.2.2.length ≤ ps.length) → as.length + l.length ≤ 1000 →
    ∃ ps' y8 y9 y10 y11, PsOk b ps' ∧ ps.length ≤ ps'.length ∧ ps'.map (mAt b) = (goA (l.map (convA b)) (ps.map (mAt b)) as).1 ∧ (∃ t, ps' = ps ++ t) ∧ forL (gTp 3 (gCn (gN 8) (gCn (gN 9) (gCn (gN 10) gNl)))) b_l_game_L1 (l.map lansD) [some (false, b.toD), some (true, .lst (ps.map playD)), some (true, .lst ((ps.map (mAt b)).map setD)), y3, y4, y5, y6, some (true, .lst (as.map ansND)), x8, x9, x10, x11] =
      .ok .nx [some (false, b.toD), some (true, .lst (ps'.map playD)), some (true, .lst ((ps'.map (mAt b)).map setD)), y3, y4, y5, y6, some (true, .lst ((goA (l.map (convA b)) (ps.map (mAt b)) as).2.map ansND)), y8, y9, y10, y11] := by
  intro l
  induction l with
  | nil => exact fun ps as x8 x9 x10 x11 hm _ _ => ⟨ps, x8, x9, x10, x11, hm, Nat.le_refl _, rfl, ⟨[], by simp⟩, by simp [goA]⟩
  | cons x l ih =>
    intro ps as x8 x9 x10 x11 hm hl ha
    simp only [List.length_cons] at ha
    obtain ⟨fr, ls, p⟩ := x
    have hp : PlayOk b.nm.length p ∧ p.length ≤ ps.length := hl (fr, ls, p) List.mem_cons_self
    have l16 := hm.l16 hb
    have hz : as.length < 16777216 := by omega
    have hz2 : ps.length < 16777216 := by omega
    have h1 := l_memory_sp b hb p false hp.1
    rw [show memAt b p p.length = mAt b p from rfl] at h1
    have h2 := ptSet.inD (by decide) (mAt b p) (ps.map (mAt b))
    have h3 := ptSet.index (by decide) (mem_addM (mAt b p) (ps.map (mAt b)))
    have eg : goA (((fr, ls, p) :: l).map (convA b)) (ps.map (mAt b)) as = goA (l.map (convA b)) (addM (mAt b p) (ps.map (mAt b))) (as ++ [(fr, ls, ixOf (mAt b p) (addM (mAt b p) (ps.map (mAt b))))]) := rfl
    rw [eg]
    by_cases hi : mAt b p ∈ ps.map (mAt b)
    · have e : addM (mAt b p) (ps.map (mAt b)) = ps.map (mAt b) := by unfold addM; rw [if_pos hi]
      rw [e] at h3 ⊢
      simp only [hi, decide_true] at h2
      obtain ⟨ps', y8, y9, y10, y11, a1, a2, a3, a4, h⟩ := ih ps (as ++ [(fr, ls, ixOf (mAt b p) (ps.map (mAt b)))]) (some (false, setD fr)) (some (false, .int ls)) (some (false, playD p)) (some (false, setD (mAt b p))) hm (fun q hq => hl q (List.mem_cons_of_mem _ hq)) (by simp; omega)
      refine ⟨ps', y8, y9, y10, y11, a1, a2, a3, a4, ?_⟩
      rw [← h]
      generalize mAt b p = m at *
      generalize ps.map (mAt b) = ms at *
      simp [b_l_game_L1, lansD, h1, h2, h3, hz, ansND]
    · have e : addM (mAt b p) (ps.map (mAt b)) = (ps ++ [p]).map (mAt b) := by unfold addM; rw [if_neg hi, List.map_append]; rfl
      rw [e] at h3 ⊢
      simp only [hi, decide_false] at h2
      obtain ⟨ps', y8, y9, y10, y11, a1, a2, a3, ⟨t, a4⟩, h⟩ := ih (ps ++ [p]) (as ++ [(fr, ls, ixOf (mAt b p) ((ps ++ [p]).map (mAt b)))]) (some (false, setD fr)) (some (false, .int ls)) (some (false, playD p)) (some (false, setD (mAt b p))) (hm.add hp.1 hp.2 hi) (fun q hq => ⟨(hl q (List.mem_cons_of_mem _ hq)).1, by have := (hl q (List.mem_cons_of_mem _ hq)).2; simp; omega⟩) (by simp; omega)
      refine ⟨ps', y8, y9, y10, y11, a1, by simp at a2; omega, a3, ⟨p :: t, by simp [a4]⟩, ?_⟩
      rw [← h]
      have hz3 : (ps.map (mAt b)).length < 16777216 := by rw [List.length_map]; omega
      have em : (ps ++ [p]).map (mAt b) = ps.map (mAt b) ++ [mAt b p] := by rw [List.map_append]; rfl
      rw [em] at h3 ⊢
      generalize mAt b p = m at *
      generalize ps.map (mAt b) = ms at *
      simp at h3
      simp [b_l_game_L1, lansD, h1, h2, h3, hz, hz2, hz3, ansND]
theorem lm_game_loop (b : Book) (hb : b.Ok) (p : Play) (hp : PlayOk b.nm.length p) {y3 : Option T} : ∀ (l : List (List Bool)) (ps : List Play) (mv : List MvN) (x6 x7 x8 x9 x10 x11 : Option T), (∀ f ∈ l, f.length = b.foe.length) → PsOk b ps → p.length < ps.length → mv.length + l.length ≤ 1000 →
    ∃ ps' y6 y7 y8 y9 y10 y11, PsOk b ps' ∧ ps.length ≤ ps'.length ∧ ps'.map (mAt b) = (goM b (mAt b p) l (ps.map (mAt b)) mv).1 ∧ (∃ t, ps' = ps ++ t) ∧ forL (gN 6) b_l_game_L2 (l.map setD) [some (false, b.toD), some (true, .lst (ps.map playD)), some (true, .lst ((ps.map (mAt b)).map setD)), y3, some (false, playD p), some (true, .lst (mv.map mvD)), x6, x7, x8, x9, x10, x11] =
      .ok .nx [some (false, b.toD), some (true, .lst (ps'.map playD)), some (true, .lst ((ps'.map (mAt b)).map setD)), y3, some (false, playD p), some (true, .lst ((goM b (mAt b p) l (ps.map (mAt b)) mv).2.map mvD)), y6, y7, y8, y9, y10, y11] := by
  intro l
  induction l with
  | nil => exact fun ps mv x6 x7 x8 x9 x10 x11 _ hm _ _ => ⟨ps, x6, x7, x8, x9, x10, x11, hm, Nat.le_refl _, rfl, ⟨[], by simp⟩, by simp [goM]⟩
  | cons foe l ih =>
    intro ps mv x6 x7 x8 x9 x10 x11 hl hm hpl ha
    simp only [List.length_cons] at ha
    have nl := hb.toForm.nl
    have r1 := hb.toForm.r1
    have r2 := hb.toForm.r2
    have f2 := hb.toForm.f2
    have l16 := hm.l16 hb
    have hf := hl foe List.mem_cons_self
    have ho : (offF b).length = b.fri.length := by simp [offF]
    have hq : PlayOk b.nm.length (p ++ [foe ++ offF b]) := hp.snoc (by rw [List.length_append]; omega) (by omega)
    have h1 := l_kept_sp b.nm b.pro hb.toForm.okn (fun s hs => ⟨(hb.toForm.pk s hs).1, by have := (hb.toForm.pk s hs).2; omega⟩) (p ++ [foe ++ offF b]) true hq p.length (by simp)
    rw [keeps_play b p (foe ++ offF b) b.pro pro_says, show memAt b p p.length = mAt b p from rfl] at h1
    have h2 := l_answers_sp b hb p hp (by omega) foe hf false
    have ea := set_add foe (offF b) (by omega)
    have ep := play_add (p := p) (st := foe ++ offF b) (by omega)
    have em : opMul (.tup [.bl false]) (.int b.fri.length) = some (false, setD (offF b)) := mul_off r1 r2
    obtain ⟨i0, i1, i2, i3, i4⟩ := b.ix
    have ia := nm_add b.foe b.fri hb.toForm.nl.1
    have en : b.foe ++ b.fri = b.nm := rfl
    rw [en] at ia
    have hn := nm_cl (l := b.fri)
    have hz : mv.length < 16777216 := by omega
    rw [List.map_cons]
    cases hk : keepsS b b.pro (mAt b p) (foe ++ offF b) with
    | false =>
      rw [hk] at h1
      obtain ⟨ps', y6, y7, y8, y9, y10, y11, a1, a2, a3, a4, h⟩ := ih ps mv (some (false, setD foe)) x7 x8 x9 x10 x11 (fun q hq => hl q (List.mem_cons_of_mem _ hq)) hm hpl (by omega)
      have e : goM b (mAt b p) (foe :: l) (ps.map (mAt b)) mv = goM b (mAt b p) l (ps.map (mAt b)) mv := by rw [goM, if_neg (by rw [hk]; decide)]
      rw [e]
      refine ⟨ps', y6, y7, y8, y9, y10, y11, a1, a2, a3, a4, ?_⟩
      rw [← h]
      simp [b_l_game_L2, i0, i1, i2, ia, hn, em, ea, ep, h1]
    | true =>
      rw [hk] at h1
      have hal : (lansS b p foe).length ≤ 4 := by
        unfold lansS goodF
        rw [List.length_map]
        refine Nat.le_trans (List.length_filter_le _ _) ?_
        rw [setL_len]
        have : 2 ^ b.fri.length ≤ 2 ^ 2 := Nat.pow_le_pow_right (by decide) r2
        omega
      obtain ⟨ps1, z8, z9, z10, z11, b1, b2, b3, ⟨t1, b4⟩, hg⟩ := la_loop b hb (y3 := y3) (y4 := some (false, playD p)) (y5 := some (true, .lst (mv.map mvD))) (y6 := some (false, setD foe)) (lansS b p foe) ps [] x8 x9 x10 x11 hm (fun x hx => by
        obtain ⟨fr, hfr, rfl⟩ := List.mem_map.mp hx
        have hfl := (setL_mem _ _).mp (List.mem_filter.mp hfr).1
        exact ⟨hp.snoc (by rw [List.length_append]; omega) (by omega), by simp [mkP]; omega⟩) (by simp; omega)
      rw [lans_conv] at b3 hg
      generalize hqq : goA (ansS b (mAt b p) foe) (ps.map (mAt b)) [] = q at b3 hg
      obtain ⟨ps', y6, y7, y8, y9, y10, y11, a1, a2, a3, ⟨t, a4⟩, h⟩ := ih ps1 (mv ++ [(foe, q.2)]) (some (false, setD foe)) (some (true, .lst (q.2.map ansND))) z8 z9 z10 z11 (fun q hq => hl q (List.mem_cons_of_mem _ hq)) b1 (by omega) (by simp; omega)
      have e : goM b (mAt b p) (foe :: l) (ps.map (mAt b)) mv = goM b (mAt b p) l (ps1.map (mAt b)) (mv ++ [(foe, q.2)]) := by rw [goM, if_pos hk, hqq, b3]
      rw [e]
      refine ⟨ps', y6, y7, y8, y9, y10, y11, a1, by omega, a3, ⟨t1 ++ t, by rw [a4, b4, List.append_assoc]⟩, ?_⟩
      rw [← h]
      simp only [List.map_nil] at hg
      generalize (ps.map (mAt b)).map setD = M at *
      generalize ps.map playD = PP at *
      simp [b_l_game_L2, i0, i1, i2, ia, hn, em, ea, ep, h1, h2, hg, hz, mvD]
theorem lw_step (b : Book) (hb : b.Ok) (ps : List Play) (nds : List NdN) (hm : PsOk b ps) (hlt : nds.length < ps.length) (x4 x5 x6 x7 x8 x9 x10 x11 : Option T) :
    ∃ ps' y4 y5 y6 y7 y8 y9 y10 y11, PsOk b ps' ∧ ps.length ≤ ps'.length ∧ ps'.map (mAt b) = (goM b ((ps.map (mAt b)).getD nds.length []) (setL b.foe.length) (ps.map (mAt b)) []).1 ∧
      b_l_game_L3 [some (false, b.toD), some (true, .lst (ps.map playD)), some (true, .lst ((ps.map (mAt b)).map setD)), some (true, .lst (nds.map ndD)), x4, x5, x6, x7, x8, x9, x10, x11] =
      .ok .nx [some (false, b.toD), some (true, .lst (ps'.map playD)), some (true, .lst ((ps'.map (mAt b)).map setD)), some (true, .lst ((nds ++ [((ps.map (mAt b)).getD nds.length [], (goM b ((ps.map (mAt b)).getD nds.length []) (setL b.foe.length) (ps.map (mAt b)) []).2)]).map ndD)), y4, y5, y6, y7, y8, y9, y10, y11] := by
  have l16 := hm.l16 hb
  have f1 := hb.toForm.f1
  have f2 := hb.toForm.f2
  have hr := row_at (w := playD) [] hlt
  have hpm := getD_mem (d := []) hlt
  have hp := hm.pl _ hpm
  have ep : (ps.map (mAt b)).getD nds.length [] = mAt b (ps.getD nds.length []) := by
    rw [List.getD_eq_getElem?_getD, List.getD_eq_getElem?_getD, List.getElem?_map, List.getElem?_eq_getElem hlt]
    rfl
  obtain ⟨i0, i1, i2, i3, i4⟩ := b.ix
  have hn := nm_cl (l := b.foe)
  have hs := settings_of_sp b.foe.length f1 (by omega)
  rw [← l_settings_eq] at hs
  have hz : nds.length < 16777216 := by omega
  have hsl : (setL b.foe.length).length ≤ 4 := by
    rw [setL_len]
    have : 2 ^ b.foe.length ≤ 2 ^ 2 := Nat.pow_le_pow_right (by decide) f2
    omega
  rw [ep]
  generalize ps.getD nds.length [] = p at *
  obtain ⟨ps', y6, y7, y8, y9, y10, y11, a1, a2, a3, ⟨t, a4⟩, h⟩ := lm_game_loop b hb p hp.1 (y3 := some (true, .lst (nds.map ndD))) (setL b.foe.length) ps [] x6 x7 x8 x9 x10 x11 (fun f h => (setL_mem _ _).mp h) hm hp.2 (by simp; omega)
  generalize hq : goM b (mAt b p) (setL b.foe.length) (ps.map (mAt b)) [] = q at *
  refine ⟨ps', some (false, playD p), some (true, .lst (q.2.map mvD)), y6, y7, y8, y9, y10, y11, a1, a2, a3, ?_⟩
  have hr2 : opIx (.lst ((ps'.map (mAt b)).map setD)) (.int nds.length) = some (false, setD (mAt b p)) := by
    have hlt2 : nds.length < (ps'.map (mAt b)).length := by rw [List.length_map]; omega
    rw [row_at (w := setD) [] hlt2]
    congr 3
    rw [a4, List.map_append, List.getD_eq_getElem?_getD, List.getElem?_append_left (by rw [List.length_map]; exact hlt), ← List.getD_eq_getElem?_getD, ep]
  simp only [List.map_nil] at h
  generalize (ps.map (mAt b)).map setD = M at *
  generalize (ps'.map (mAt b)).map setD = M' at *
  generalize ps.map playD = PP at *
  generalize ps'.map playD = PP' at *
  simp [b_l_game_L3, hr, i0, hn, hs, h, hz, hr2, ndD]
theorem lw_loop (b : Book) (hb : b.Ok) : ∀ (n : Nat) (ps : List Play) (nds : List NdN) (f : Nat) (x4 x5 x6 x7 x8 x9 x10 x11 : Option T), PsOk b ps → nds.length ≤ ps.length → 16 ≤ nds.length + n → n < f →
    ∃ ps' y4 y5 y6 y7 y8 y9 y10 y11, xWhile (sB (sBin opLt (sCl cfLen (sCons (sVar 3) sNil)) (sCl cfLen (sCons (sVar 1) sNil)))) b_l_game_L3 f [some (false, b.toD), some (true, .lst (ps.map playD)), some (true, .lst ((ps.map (mAt b)).map setD)), some (true, .lst (nds.map ndD)), x4, x5, x6, x7, x8, x9, x10, x11] =
      .ok .nx [some (false, b.toD), some (true, .lst (List.map playD ps')), some (true, .lst ((ps'.map (mAt b)).map setD)), some (true, .lst ((goW b n (ps.map (mAt b)) nds).2.map ndD)), y4, y5, y6, y7, y8, y9, y10, y11] := by
  intro n
  induction n with
  | zero =>
    intro ps nds f x4 x5 x6 x7 x8 x9 x10 x11 hm hle h16 hf
    have l16 := hm.l16 hb
    obtain ⟨f, rfl⟩ : ∃ k, f = k + 1 := ⟨f - 1, by omega⟩
    refine ⟨ps, x4, x5, x6, x7, x8, x9, x10, x11, ?_⟩
    have hn : ¬ nds.length < ps.length := by omega
    rw [xWhile_s]
    simp [hn, goW]
  | succ n ih =>
    intro ps nds f x4 x5 x6 x7 x8 x9 x10 x11 hm hle h16 hf
    have l16 := hm.l16 hb
    obtain ⟨f, rfl⟩ : ∃ k, f = k + 1 := ⟨f - 1, by omega⟩
    by_cases hlt : nds.length < ps.length
    · obtain ⟨ps1, z4, z5, z6, z7, z8, z9, z10, z11, a1, a2, a3, hs⟩ := lw_step b hb ps nds hm hlt x4 x5 x6 x7 x8 x9 x10 x11
      have e : goW b (n + 1) (ps.map (mAt b)) nds = goW b n (goM b ((ps.map (mAt b)).getD nds.length []) (setL b.foe.length) (ps.map (mAt b)) []).1 (nds ++ [((ps.map (mAt b)).getD nds.length [], (goM b ((ps.map (mAt b)).getD nds.length []) (setL b.foe.length) (ps.map (mAt b)) []).2)]) := by rw [goW, if_pos (by rw [List.length_map]; exact hlt)]
      rw [e, ← a3]
      generalize (goM b ((ps.map (mAt b)).getD nds.length []) (setL b.foe.length) (ps.map (mAt b)) []).2 = q at *
      generalize (ps.map (mAt b)).getD nds.length [] = mem at *
      obtain ⟨ps', y4, y5, y6, y7, y8, y9, y10, y11, h⟩ := ih ps1 (nds ++ [(mem, q)]) f z4 z5 z6 z7 z8 z9 z10 z11 a1 (by simp; omega) (by simp; omega) (by omega)
      refine ⟨ps', y4, y5, y6, y7, y8, y9, y10, y11, ?_⟩
      rw [← h, xWhile_s]
      generalize (ps.map (mAt b)).map setD = M at *
      generalize (ps1.map (mAt b)).map setD = M' at *
      simp [hlt, hs]
    · refine ⟨ps, x4, x5, x6, x7, x8, x9, x10, x11, ?_⟩
      have e : goW b (n + 1) (ps.map (mAt b)) nds = (ps.map (mAt b), nds) := by rw [goW, if_neg (by rw [List.length_map]; exact hlt)]
      rw [xWhile_s, e]
      simp [hlt]
theorem l_game_sp (b : Book) (hb : b.Ok) : F_l_game [(false, b.toD)] = .ok (true, .lst ((gameS b).map ndD)) [some (false, b.toD)] := by
  have h1 := l_memory_sp b hb [] true ⟨by simp, by simp⟩
  have e0 : memAt b [] ([] : Play).length = mAt b [] := rfl
  have em : mAt b [] = mem0 b := (mem0_at b []).symm
  rw [e0] at h1
  obtain ⟨ps', y4, y5, y6, y7, y8, y9, y10, y11, h⟩ := lw_loop b hb 16 [[]] [] wN none none none none none none none none ⟨by rw [List.map_cons, List.map_nil, em]; exact mem0_ok b, fun p hp => by rw [List.mem_singleton.mp hp]; exact ⟨⟨by simp, by simp⟩, by simp⟩⟩ (by simp) (by simp) (by unfold wN; omega)
  have e : (goW b 16 (([[]] : List Play).map (mAt b)) []).2 = gameS b := by rw [List.map_cons, List.map_nil, em]; rfl
  rw [e] at h
  generalize (ps'.map (mAt b)).map setD = M' at h
  simp only [List.map_cons, List.map_nil, playD] at h h1
  generalize mAt b [] = m at *
  try simp at h
  try simp at h1
  simp [F_l_game, b_l_game, h1, h]
end Lz
/-! what the game is: all memories that come, closed -/
namespace Lz
open PySem PySem.Spec PyProof.Rows L2
def numA (M : List (List Bool)) (x : AnsM) : AnsN := (x.1, x.2.1, ixOf x.2.2 M)
theorem addM_pre (m : List Bool) (ms : List (List Bool)) : ms <+: addM m ms := by
  unfold addM
  split
  · exact List.prefix_refl _
  · exact List.prefix_append _ _
theorem goA_spec : ∀ (l : List AnsM) (ms : List (List Bool)) (as : List AnsN), ms <+: (goA l ms as).1 ∧ ∀ M, (goA l ms as).1 <+: M → (goA l ms as).2 = as ++ l.map (numA M) ∧ ∀ x ∈ l, x.2.2 ∈ M
  | [], ms, as => ⟨List.prefix_refl _, fun M _ => ⟨by simp [goA], fun x hx => by cases hx⟩⟩
  | x :: l, ms, as => by
    obtain ⟨h1, h2⟩ := goA_spec l (addM x.2.2 ms) (as ++ [(x.1, x.2.1, ixOf x.2.2 (addM x.2.2 ms))])
    refine ⟨(addM_pre _ _).trans h1, fun M hM => ?_⟩
    obtain ⟨h3, h4⟩ := h2 M hM
    have hp : addM x.2.2 ms <+: M := h1.trans hM
    obtain ⟨t, ht⟩ := hp
    have hx : ixOf x.2.2 M = ixOf x.2.2 (addM x.2.2 ms) := by rw [← ht]; exact ixOf_app (mem_addM _ _)
    refine ⟨?_, fun y hy => ?_⟩
    · show (goA l (addM x.2.2 ms) (as ++ [(x.1, x.2.1, ixOf x.2.2 (addM x.2.2 ms))])).2 = _
      rw [h3, List.map_cons, List.append_assoc]
      unfold numA
      rw [hx]
      rfl
    · rcases List.mem_cons.mp hy with rfl | hy
      · rw [← ht]; exact List.mem_append_left _ (mem_addM _ _)
      · exact h4 y hy
def mvOf (b : Book) (M : List (List Bool)) (mem foe : List Bool) : MvN := (foe, (ansS b mem foe).map (numA M))
def foesF (b : Book) (mem : List Bool) (l : List (List Bool)) : List (List Bool) := l.filter fun foe => keepsS b b.pro mem (foe ++ offF b)
theorem goM_spec (b : Book) (mem : List Bool) : ∀ (l ms : List (List Bool)) (mv : List MvN), ms <+: (goM b mem l ms mv).1 ∧ ∀ M, (goM b mem l ms mv).1 <+: M → (goM b mem l ms mv).2 = mv ++ (foesF b mem l).map (mvOf b M mem) ∧ ∀ foe ∈ foesF b mem l, ∀ x ∈ ansS b mem foe, x.2.2 ∈ M
  | [], ms, mv => ⟨List.prefix_refl _, fun M _ => ⟨by simp [goM, foesF], fun x hx => by cases hx⟩⟩
  | foe :: l, ms, mv => by
    cases hk : keepsS b b.pro mem (foe ++ offF b) with
    | false =>
      have e : goM b mem (foe :: l) ms mv = goM b mem l ms mv := by rw [goM, if_neg (by rw [hk]; decide)]
      have e2 : foesF b mem (foe :: l) = foesF b mem l := by unfold foesF; rw [List.filter_cons_of_neg (by simp [hk])]
      rw [e, e2]
      exact goM_spec b mem l ms mv
    | true =>
      have e : goM b mem (foe :: l) ms mv = goM b mem l (goA (ansS b mem foe) ms []).1 (mv ++ [(foe, (goA (ansS b mem foe) ms []).2)]) := by rw [goM, if_pos hk]
      have e2 : foesF b mem (foe :: l) = foe :: foesF b mem l := by unfold foesF; rw [List.filter_cons_of_pos (by simp [hk])]
      obtain ⟨a1, a2⟩ := goA_spec (ansS b mem foe) ms []
      obtain ⟨h1, h2⟩ := goM_spec b mem l (goA (ansS b mem foe) ms []).1 (mv ++ [(foe, (goA (ansS b mem foe) ms []).2)])
      rw [e, e2]
      refine ⟨a1.trans h1, fun M hM => ?_⟩
      obtain ⟨h3, h4⟩ := h2 M hM
      obtain ⟨a3, a4⟩ := a2 M (h1.trans hM)
      refine ⟨?_, fun y hy => ?_⟩
      · rw [h3, a3, List.map_cons, List.append_assoc]
        rfl
      · rcases List.mem_cons.mp hy with rfl | hy
        · exact a4
        · exact h4 y hy
def nodeOf (b : Book) (M : List (List Bool)) (mem : List Bool) : NdN := (mem, (foesF b mem (setL b.foe.length)).map (mvOf b M mem))
def Closed (b : Book) (M : List (List Bool)) (mem : List Bool) : Prop := ∀ foe ∈ foesF b mem (setL b.foe.length), ∀ x ∈ ansS b mem foe, x.2.2 ∈ M
theorem goW_spec (b : Book) : ∀ (n : Nat) (ms : List (List Bool)) (nds : List NdN), MsOk b ms → nds.length ≤ ms.length →
    MsOk b (goW b n ms nds).1 ∧ ms <+: (goW b n ms nds).1 ∧ (goW b n ms nds).2.length ≤ (goW b n ms nds).1.length ∧ (∃ t, (goW b n ms nds).2 = nds ++ t) ∧ ((goW b n ms nds).2.length = (goW b n ms nds).1.length ∨ (goW b n ms nds).2.length = nds.length + n) ∧
      ∀ i, nds.length ≤ i → i < (goW b n ms nds).2.length → (goW b n ms nds).2[i]? = some (nodeOf b (goW b n ms nds).1 ((goW b n ms nds).1.getD i [])) ∧ Closed b (goW b n ms nds).1 ((goW b n ms nds).1.getD i [])
  | 0, ms, nds, hm, hl => ⟨hm, List.prefix_refl _, hl, ⟨[], by simp [goW]⟩, .inr rfl, fun i h1 h2 => by simp only [goW] at h2; omega⟩
  | n + 1, ms, nds, hm, hl => by
    by_cases hlt : nds.length < ms.length
    · have e : goW b (n + 1) ms nds = goW b n (goM b (ms.getD nds.length []) (setL b.foe.length) ms []).1 (nds ++ [(ms.getD nds.length [], (goM b (ms.getD nds.length []) (setL b.foe.length) ms []).2)]) := by rw [goW, if_pos hlt]
      rw [e]
      have ok := goM_ok (b := b) (mem := ms.getD nds.length []) (setL b.foe.length) ms [] hm
      obtain ⟨m1, m2⟩ := goM_spec b (ms.getD nds.length []) (setL b.foe.length) ms []
      generalize hq : goM b (ms.getD nds.length []) (setL b.foe.length) ms [] = q at *
      obtain ⟨a1, a2, a3, ⟨t, a4⟩, a5, a6⟩ := goW_spec b n q.1 (nds ++ [(ms.getD nds.length [], q.2)]) ok.1 (by simp; omega)
      generalize hW : goW b n q.1 (nds ++ [(ms.getD nds.length [], q.2)]) = W at *
      obtain ⟨m3, m4⟩ := m2 W.1 a2
      refine ⟨a1, m1.trans a2, a3, ⟨(ms.getD nds.length [], q.2) :: t, by rw [a4, List.append_assoc]; rfl⟩, ?_, fun i h1 h2 => ?_⟩
      · rcases a5 with h | h
        · exact .inl h
        · right; rw [h, List.length_append, List.length_singleton]; omega
      · by_cases hi : i = nds.length
        · subst hi
          have hg : W.1.getD nds.length [] = ms.getD nds.length [] := by
            obtain ⟨u, hu⟩ := m1.trans a2
            rw [← hu, List.getD_eq_getElem?_getD, List.getElem?_append_left hlt, ← List.getD_eq_getElem?_getD]
          rw [hg]
          refine ⟨?_, m4⟩
          rw [a4, List.append_assoc, List.getElem?_append_right (Nat.le_refl _), Nat.sub_self, m3]
          rfl
        · exact a6 i (by rw [List.length_append, List.length_singleton]; omega) h2
    · have e : goW b (n + 1) ms nds = (ms, nds) := by rw [goW, if_neg hlt]
      rw [e]
      exact ⟨hm, List.prefix_refl _, hl, ⟨[], by simp⟩, .inl (by dsimp only; omega), fun i h1 h2 => by dsimp only at h2; omega⟩
def memsS (b : Book) : List (List Bool) := (gameW b).1
structure GameOk (b : Book) (M : List (List Bool)) : Prop extends MsOk b M where
  l16 : M.length ≤ 16
  zero : M[0]? = some (mem0 b)
  cl : ∀ mem ∈ M, Closed b M mem
theorem game_ok (b : Book) (hb : b.Ok) : GameOk b (memsS b) ∧ gameS b = (memsS b).map (nodeOf b (memsS b)) := by
  obtain ⟨a1, ⟨u, a2⟩, a3, _, a5, a6⟩ := goW_spec b 16 [mem0 b] [] (mem0_ok b) (by simp)
  have hl : (gameW b).2.length = (gameW b).1.length := by
    rcases a5 with h | h
    · exact h
    · have := a1.l16 hb
      simp only [List.length_nil] at h
      unfold gameW
      omega
  have l16 := a1.l16 hb
  refine ⟨⟨a1, l16, ?_, fun mem hm => ?_⟩, ?_⟩
  · show (goW b 16 [mem0 b] []).1[0]? = _
    rw [← a2]
    rfl
  · obtain ⟨i, hi, rfl⟩ := List.getElem_of_mem hm
    have h := (a6 i (by simp) (by show i < (gameW b).2.length; rw [hl]; exact hi)).2
    have e : (goW b 16 [mem0 b] []).1.getD i [] = (memsS b)[i] := by
      show (memsS b).getD i [] = _
      rw [List.getD_eq_getElem?_getD, List.getElem?_eq_getElem hi]
      rfl
    rw [e] at h
    exact h
  · refine List.ext_getElem? fun i => ?_
    by_cases hi : i < (memsS b).length
    · have h := (a6 i (by simp) (by show i < (gameW b).2.length; rw [hl]; exact hi)).1
      show (goW b 16 [mem0 b] []).2[i]? = _
      rw [h, List.getElem?_map, List.getElem?_eq_getElem hi]
      show some (nodeOf b (memsS b) ((memsS b).getD i [])) = _
      rw [List.getD_eq_getElem?_getD, List.getElem?_eq_getElem hi]
      rfl
    · rw [List.getElem?_eq_none (by show (gameW b).2.length ≤ i; rw [hl]; exact Nat.le_of_not_lt hi), List.getElem?_eq_none (by rw [List.length_map]; omega)]
end Lz
/-! ranks: plain -/
namespace Lz
open PySem PySem.Spec PyProof.Rows L2
abbrev Rk := List (Option Nat)
abbrev Mo := List (Option (List Bool))
def numD (k : Nat) : D := .int k
def isK (f : Rk) (k : Nat) : Bool := (f.getD k none).isSome
def goodM (f : Rk) (mv : MvN) : Bool := mv.2.all fun a => isK f a.2.2
def brM (mvs : List MvN) (f : Rk) : List (List Bool) := (mvs.filter (goodM f)).map (·.1)
def mvsAt (nds : List NdN) (k : Nat) : List MvN := (nds.getD k ([], [])).2
def newB (nds : List NdN) (f : Rk) (k : Nat) : Bool := !isK f k && !(brM (mvsAt nds k) f).isEmpty
def upR (nds : List NdN) (t : Nat) (f : Rk) : List Nat → Rk → Rk
  | [], g => g
  | k :: r, g => upR nds t f r (if newB nds f k = true then g.set k (some t) else g)
def upM (nds : List NdN) (f : Rk) : List Nat → Mo → Mo
  | [], g => g
  | k :: r, g => upM nds f r (if newB nds f k = true then g.set k (brM (mvsAt nds k) f).head? else g)
theorem upR_len (nds : List NdN) (t : Nat) (f : Rk) : ∀ (l : List Nat) (g : Rk), (upR nds t f l g).length = g.length
  | [], g => rfl
  | k :: r, g => by
    rw [upR, upR_len nds t f r]
    split <;> simp
theorem upM_len (nds : List NdN) (f : Rk) : ∀ (l : List Nat) (g : Mo), (upM nds f l g).length = g.length
  | [], g => rfl
  | k :: r, g => by
    rw [upM, upM_len nds f r]
    split <;> simp
theorem getD_set {α : Type} (g : List α) (k j : Nat) (x d : α) : (g.set k x).getD j d = if j = k ∧ k < g.length then x else g.getD j d := by
  rw [List.getD_eq_getElem?_getD, List.getD_eq_getElem?_getD, List.getElem?_set]
  by_cases h : k = j
  · subst h
    by_cases h2 : k < g.length
    · simp [h2]
    · simp [h2, List.getElem?_eq_none (Nat.le_of_not_lt h2)]
  · rw [if_neg h, if_neg (fun e => h e.1.symm)]
theorem upR_at (nds : List NdN) (t : Nat) (f : Rk) (j : Nat) : ∀ (l : List Nat) (g : Rk), (∀ k ∈ l, k < g.length) → (upR nds t f l g).getD j none = if j ∈ l ∧ newB nds f j = true then some t else g.getD j none
  | [], g, _ => by simp [upR]
  | k :: r, g, h => by
    rw [upR, upR_at nds t f j r _ fun i hi => by
      have := h i (List.mem_cons_of_mem _ hi)
      split
      · rw [List.length_set]; exact this
      · exact this]
    have hk := h k List.mem_cons_self
    by_cases hj : j ∈ r ∧ newB nds f j = true
    · rw [if_pos hj, if_pos ⟨List.mem_cons_of_mem _ hj.1, hj.2⟩]
    · rw [if_neg hj]
      by_cases hb : newB nds f k = true
      · rw [if_pos hb, getD_set]
        by_cases e : j = k
        · subst e; rw [if_pos ⟨rfl, hk⟩, if_pos ⟨List.mem_cons_self, hb⟩]
        · rw [if_neg (fun q => e q.1), if_neg fun q => hj ⟨(List.mem_cons.mp q.1).resolve_left e, q.2⟩]
      · rw [if_neg hb]
        by_cases e : j = k
        · subst e; rw [if_neg fun q => hb q.2]
        · rw [if_neg fun q => hj ⟨(List.mem_cons.mp q.1).resolve_left e, q.2⟩]
theorem upM_at (nds : List NdN) (f : Rk) (j : Nat) : ∀ (l : List Nat) (g : Mo), (∀ k ∈ l, k < g.length) → (upM nds f l g).getD j none = if j ∈ l ∧ newB nds f j = true then (brM (mvsAt nds j) f).head? else g.getD j none
  | [], g, _ => by simp [upM]
  | k :: r, g, h => by
    rw [upM, upM_at nds f j r _ fun i hi => by
      have := h i (List.mem_cons_of_mem _ hi)
      split
      · rw [List.length_set]; exact this
      · exact this]
    have hk := h k List.mem_cons_self
    by_cases hj : j ∈ r ∧ newB nds f j = true
    · rw [if_pos hj, if_pos ⟨List.mem_cons_of_mem _ hj.1, hj.2⟩]
    · rw [if_neg hj]
      by_cases hb : newB nds f k = true
      · rw [if_pos hb, getD_set]
        by_cases e : j = k
        · subst e; rw [if_pos ⟨rfl, hk⟩, if_pos ⟨List.mem_cons_self, hb⟩]
        · rw [if_neg (fun q => e q.1), if_neg fun q => hj ⟨(List.mem_cons.mp q.1).resolve_left e, q.2⟩]
      · rw [if_neg hb]
        by_cases e : j = k
        · subst e; rw [if_neg fun q => hb q.2]
        · rw [if_neg fun q => hj ⟨(List.mem_cons.mp q.1).resolve_left e, q.2⟩]
/-- the ranks behind so many turns -/
def rkF (nds : List NdN) : Nat → Rk
  | 0 => nds.map fun _ => none
  | t + 1 => upR nds (t + 1) (rkF nds t) (List.range nds.length) (rkF nds t)
def moF (nds : List NdN) : Nat → Mo
  | 0 => nds.map fun _ => none
  | t + 1 => upM nds (rkF nds t) (List.range nds.length) (moF nds t)
theorem rkF_len (nds : List NdN) : ∀ t, (rkF nds t).length = nds.length
  | 0 => by simp [rkF]
  | t + 1 => by rw [rkF, upR_len, rkF_len nds t]
theorem moF_len (nds : List NdN) : ∀ t, (moF nds t).length = nds.length
  | 0 => by simp [moF]
  | t + 1 => by rw [moF, upM_len, moF_len nds t]
theorem rkF_at (nds : List NdN) (t j : Nat) : (rkF nds (t + 1)).getD j none = if j < nds.length ∧ newB nds (rkF nds t) j = true then some (t + 1) else (rkF nds t).getD j none := by
  rw [rkF, upR_at nds _ _ _ _ _ (fun k hk => by rw [rkF_len]; exact List.mem_range.mp hk)]
  simp only [List.mem_range]
theorem moF_at (nds : List NdN) (t j : Nat) : (moF nds (t + 1)).getD j none = if j < nds.length ∧ newB nds (rkF nds t) j = true then (brM (mvsAt nds j) (rkF nds t)).head? else (moF nds t).getD j none := by
  rw [moF, upM_at nds _ _ _ _ (fun k hk => by rw [moF_len]; exact List.mem_range.mp hk)]
  simp only [List.mem_range]
theorem newB_none {nds : List NdN} {f : Rk} {k : Nat} (h : newB nds f k = true) : f.getD k none = none := by
  unfold newB isK at h
  cases e : f.getD k none with
  | none => rfl
  | some x => rw [e] at h; simp at h
theorem getD_ext {α : Type} {f g : List α} {d : α} (hl : f.length = g.length) (h : ∀ k, f.getD k d = g.getD k d) : f = g := by
  refine List.ext_getElem hl fun k h1 h2 => ?_
  have := h k
  rw [List.getD_eq_getElem?_getD, List.getD_eq_getElem?_getD, List.getElem?_eq_getElem h1, List.getElem?_eq_getElem h2] at this
  exact this
def cnt (f : Rk) : Nat := (f.filter Option.isSome).length
theorem cnt_le (f : Rk) : cnt f ≤ f.length := List.length_filter_le _ _
theorem ext_cnt : ∀ (f g : Rk), f.length = g.length → (∀ k, f.getD k none = g.getD k none ∨ f.getD k none = none) → cnt f ≤ cnt g ∧ (cnt f = cnt g → f = g)
  | [], [], _, _ => ⟨Nat.le_refl _, fun _ => rfl⟩
  | [], _ :: _, h, _ => by cases h
  | _ :: _, [], h, _ => by cases h
  | x :: f, y :: g, hl, h => by
    obtain ⟨i1, i2⟩ := ext_cnt f g (by simpa using hl) fun k => by have := h (k + 1); simpa using this
    have h0 : x = y ∨ x = none := by have := h 0; simpa using this
    unfold cnt at i1 i2 ⊢
    rcases h0 with h0 | h0
    · subst h0
      cases x with
      | none => exact ⟨i1, fun e => by rw [i2 e]⟩
      | some x =>
        simp only [List.filter_cons, Option.isSome_some, if_true, List.length_cons]
        exact ⟨by omega, fun e => by rw [i2 (by omega)]⟩
    · subst h0
      cases y with
      | none => exact ⟨i1, fun e => by rw [i2 e]⟩
      | some y =>
        simp only [List.filter_cons, Option.isSome_some, Option.isSome_none, if_true, List.length_cons]
        constructor
        · simp; omega
        · intro e; exfalso; simp at e; omega
theorem rk_ext (nds : List NdN) (t : Nat) : cnt (rkF nds t) ≤ cnt (rkF nds (t + 1)) ∧ (cnt (rkF nds t) = cnt (rkF nds (t + 1)) → rkF nds t = rkF nds (t + 1)) :=
  ext_cnt _ _ (by rw [rkF_len, rkF_len]) fun k => by
    rw [rkF_at]
    by_cases h : k < nds.length ∧ newB nds (rkF nds t) k = true
    · exact .inr (newB_none h.2)
    · rw [if_neg h]; exact .inl rfl
/-- nothing comes any more -/
theorem rk_still {nds : List NdN} {t : Nat} (h : rkF nds t = rkF nds (t + 1)) (k : Nat) (hk : k < nds.length) : newB nds (rkF nds t) k = false := by
  cases e : newB nds (rkF nds t) k with
  | false => rfl
  | true =>
    have h1 := rkF_at nds t k
    rw [if_pos ⟨hk, e⟩, ← h, newB_none e] at h1
    cases h1
theorem rk_on {nds : List NdN} {t : Nat} (h : rkF nds t = rkF nds (t + 1)) : ∀ s, t ≤ s → rkF nds s = rkF nds t ∧ moF nds s = moF nds t := by
  intro s hs
  obtain ⟨d, rfl⟩ : ∃ d, s = t + d := ⟨s - t, by omega⟩
  induction d with
  | zero => exact ⟨rfl, rfl⟩
  | succ d ih =>
    obtain ⟨i1, i2⟩ := ih (by omega)
    have hn : ∀ k, k < nds.length → newB nds (rkF nds (t + d)) k = false := fun k hk => by rw [i1]; exact rk_still h k hk
    constructor
    · rw [← i1]
      refine getD_ext (d := none) (by rw [rkF_len, rkF_len]) fun k => ?_
      · rw [← Nat.add_assoc, rkF_at, if_neg fun q => by rw [hn k q.1] at q; cases q.2]
    · rw [← i2]
      refine getD_ext (d := none) (by rw [moF_len, moF_len]) fun k => ?_
      · rw [← Nat.add_assoc, moF_at, if_neg fun q => by rw [hn k q.1] at q; cases q.2]
theorem cnt0 (nds : List NdN) : cnt (rkF nds 0) = 0 := by
  unfold cnt rkF
  rw [List.filter_map]
  simp [Function.comp_def]
theorem rk_grow (nds : List NdN) : ∀ n, (∃ t, t < n ∧ rkF nds t = rkF nds (t + 1)) ∨ n ≤ cnt (rkF nds n)
  | 0 => .inr (Nat.zero_le _)
  | n + 1 => by
    rcases rk_grow nds n with ⟨t, h1, h2⟩ | h
    · exact .inl ⟨t, by omega, h2⟩
    · obtain ⟨a, b⟩ := rk_ext nds n
      by_cases e : cnt (rkF nds n) = cnt (rkF nds (n + 1))
      · exact .inl ⟨n, by omega, b e⟩
      · right; omega
theorem rk_end (nds : List NdN) : rkF nds nds.length = rkF nds (nds.length + 1) := by
  rcases rk_grow nds (nds.length + 1) with ⟨t, h1, h2⟩ | h
  · exact (rk_on h2 nds.length (by omega)).1.trans (rk_on h2 (nds.length + 1) (by omega)).1.symm
  · have := cnt_le (rkF nds (nds.length + 1))
    rw [rkF_len] at this
    omega
def rankS (nds : List NdN) : Rk := rkF nds nds.length
def moveS (nds : List NdN) : Mo := moF nds nds.length
theorem rk_fin {nds : List NdN} {t : Nat} (h : rkF nds t = rkF nds (t + 1)) : rkF nds t = rankS nds ∧ moF nds t = moveS nds := by
  have h1 := rk_on h (max t nds.length) (by omega)
  have h2 := rk_on (rk_end nds) (max t nds.length) (by omega)
  exact ⟨h1.1.symm.trans h2.1, h1.2.symm.trans h2.2⟩
/-! what the ranks are -/
theorem rk_le (nds : List NdN) : ∀ (t j r : Nat), (rkF nds t).getD j none = some r → 1 ≤ r ∧ r ≤ t
  | 0, j, r, h => by
    exfalso
    rw [rkF, List.getD_eq_getElem?_getD, List.getElem?_map] at h
    cases e : nds[j]? <;> rw [e] at h <;> cases h
  | t + 1, j, r, h => by
    rw [rkF_at] at h
    by_cases q : j < nds.length ∧ newB nds (rkF nds t) j = true
    · rw [if_pos q] at h; cases h; omega
    · rw [if_neg q] at h
      have := rk_le nds t j r h
      omega
theorem rk_cut (nds : List NdN) (t j : Nat) : ∀ d, (rkF nds t).getD j none = ((rkF nds (t + d)).getD j none).bind fun r => if r ≤ t then some r else none
  | 0 => by
    rw [Nat.add_zero]
    cases e : (rkF nds t).getD j none with
    | none => rfl
    | some r =>
      have := (rk_le nds t j r e).2
      simp [this]
  | d + 1 => by
    rw [← Nat.add_assoc, rkF_at]
    by_cases q : j < nds.length ∧ newB nds (rkF nds (t + d)) j = true
    · rw [if_pos q, rk_cut nds t j d, newB_none q.2]
      have : ¬ t + d + 1 ≤ t := by omega
      simp [this]
    · rw [if_neg q]; exact rk_cut nds t j d
theorem isK_lt (nds : List NdN) {t j : Nat} (ht : t ≤ nds.length) : isK (rkF nds t) j = (match (rankS nds).getD j none with | some r => decide (r ≤ t) | none => false) := by
  unfold isK
  have h := rk_cut nds t j (nds.length - t)
  rw [show t + (nds.length - t) = nds.length by omega] at h
  rw [h]
  show ((((rankS nds).getD j none).bind fun r => if r ≤ t then some r else none).isSome : Bool) = _
  cases (rankS nds).getD j none with
  | none => rfl
  | some r => by_cases q : r ≤ t <;> simp [q]
theorem mo_at (nds : List NdN) : ∀ (t j : Nat), (moF nds t).getD j none = match (rkF nds t).getD j none with
    | none => none
    | some r => (brM (mvsAt nds j) (rkF nds (r - 1))).head?
  | 0, j => by
    have e : (rkF nds 0).getD j none = none := by
      cases e : (rkF nds 0).getD j none with
      | none => rfl
      | some r => have := rk_le nds 0 j r e; omega
    rw [e]
    show (nds.map fun _ => (none : Option (List Bool))).getD j none = none
    rw [List.getD_eq_getElem?_getD, List.getElem?_map]
    cases nds[j]? <;> rfl
  | t + 1, j => by
    rw [moF_at, rkF_at]
    by_cases q : j < nds.length ∧ newB nds (rkF nds t) j = true
    · rw [if_pos q, if_pos q]; rfl
    · rw [if_neg q, if_neg q]; exact mo_at nds t j
theorem rk_has (nds : List NdN) : ∀ (t j r : Nat), (rkF nds t).getD j none = some r → j < nds.length ∧ brM (mvsAt nds j) (rkF nds (r - 1)) ≠ []
  | 0, j, r, h => by have := rk_le nds 0 j r h; omega
  | t + 1, j, r, h => by
    rw [rkF_at] at h
    by_cases q : j < nds.length ∧ newB nds (rkF nds t) j = true
    · rw [if_pos q] at h
      cases h
      refine ⟨q.1, fun e => ?_⟩
      have := q.2
      unfold newB at this
      rw [Nat.add_sub_cancel] at e
      rw [e] at this
      simp at this
    · rw [if_neg q] at h
      exact rk_has nds t j r h
end Lz
/-! ranks: the program's -/
namespace Lz
open PySem PySem.Spec PyProof.Rows L2
def rkL (f : Rk) : List D := f.map (optD numD)
def moL (f : Mo) : List D := f.map (optD setD)
theorem rkL_len (f : Rk) : (rkL f).length = f.length := List.length_map _
theorem moL_len (f : Mo) : (moL f).length = f.length := List.length_map _
def rkA (f : Rk) (k : Nat) : Option Nat := f.getD k none
theorem rk_at {f : Rk} {k : Nat} (h : k < f.length) : opIx (.lst (rkL f)) (.int k) = some (false, optD numD (rkA f k)) := row_at none h
theorem isNon_rk (f : Rk) (k : Nat) : isNon (optD numD (rkA f k)) = !isK f k := by
  unfold rkA isK
  cases f.getD k none <;> rfl
theorem is_breaking_sp (mv : MvN) (f : Rk) (o1 o2 : Bool) (h : ∀ a ∈ mv.2, a.2.2 < f.length) :
    F_is_breaking [(o1, .tup (mv.2.map ansND)), (o2, .lst (rkL f))] = .ok (false, .bl (goodM f mv)) [some (o1, .tup (mv.2.map ansND)), some (o2, .lst (rkL f))] := by
  have hc : ∀ y0 : Option T, ∀ o2, compL [2, 3, 4] (gTp 3 (gCn (gN 2) (gCn (gN 3) (gCn (gN 4) gNl)))) cT (sBin opIsNotN (sBin opIx (sVar 1) (sVar 4)) (sC .non)) (mv.2.map ansND) [y0, some (o2, .lst (rkL f)), none, none, none] = .ok (mv.2.map fun a => D.bl (isK f a.2.2)) [y0, some (o2, .lst (rkL f)), none, none, none] := fun y0 o2 =>
    compL_m fun a ha => by
      have h1 := rk_at (h a ha)
      have h2 := isNon_rk f a.2.2
      refine ⟨[y0, some (o2, .lst (rkL f)), some (false, setD a.1), some (false, .int a.2.1), some (false, .int a.2.2)], false, by simp [ansND], rfl, ?_⟩
      cases o2 <;> simp [h1, h2]
  have e := blsD_gen (fun a : AnsN => isK f a.2.2) mv.2
  have e2 : (mv.2.map fun a => isK f a.2.2).all id = goodM f mv := by unfold goodM; rw [List.all_map]; rfl
  have h1 := hc none o2
  have h2 := hc (some (o1, .tup (mv.2.map ansND))) o2
  cases o1 <;> cases o2 <;> simp [F_is_breaking, b_is_breaking, h1, h2, e, e2, -List.map_map, -List.all_map]
structure NdsOk (nds : List NdN) : Prop where
  l16 : nds.length ≤ 16
  mv4 : ∀ nd ∈ nds, nd.2.length ≤ 4
  an4 : ∀ nd ∈ nds, ∀ mv ∈ nd.2, mv.2.length ≤ 4
  ix : ∀ nd ∈ nds, ∀ mv ∈ nd.2, ∀ a ∈ mv.2, a.2.2 < nds.length
theorem mvsAt_mem {nds : List NdN} {k : Nat} (h : k < nds.length) : nds.getD k ([], []) ∈ nds := getD_mem h
theorem some_comp (nds : List NdN) (ok : NdsOk nds) (f : Rk) (hf : f.length = nds.length) (k : Nat) (hk : k < nds.length) {y0 y1 y2 y3 y4 y5 y7 y8 y9 : Option T} {o : Bool} :
    compL [10, 11] (gTp 2 (gCn (gN 10) (gCn (gN 11) gNl))) b_ranks_of_D1 (sVar 10) ((mvsAt nds k).map mvD) [y0, y1, y2, y3, y4, y5, some (o, .lst (rkL f)), y7, y8, y9, none, none] = .ok ((brM (mvsAt nds k) f).map setD) [y0, y1, y2, y3, y4, y5, some (o, .lst (rkL f)), y7, y8, y9, none, none] := by
  have := compL_mf (own := [10, 11]) (g := gTp 2 (gCn (gN 10) (gCn (gN 11) gNl))) (c := b_ranks_of_D1) (f := sVar 10) (ρ := [y0, y1, y2, y3, y4, y5, some (o, .lst (rkL f)), y7, y8, y9, none, none]) (q := goodM f) (e := fun mv : MvN => setD mv.1) (w := mvD) (xs := mvsAt nds k) fun mv hm => by
    have h1 := is_breaking_sp mv f false o fun a ha => by rw [hf]; exact ok.ix _ (mvsAt_mem hk) mv hm a ha
    refine ⟨[y0, y1, y2, y3, y4, y5, some (o, .lst (rkL f)), y7, y8, y9, some (false, setD mv.1), some (false, .tup (mv.2.map ansND))], by simp [mvD], rfl, ?_, fun _ => ⟨false, by simp⟩⟩
    cases o <;> simp [b_ranks_of_D1, h1]
  rw [this]
  unfold brM
  rw [List.map_map]
  rfl
theorem node_at {nds : List NdN} {k : Nat} (h : k < nds.length) : opIx (.lst (nds.map ndD)) (.int k) = some (false, ndD (nds.getD k ([], []))) := row_at ([], []) h
theorem node_1 (nd : NdN) : opIx (ndD nd) (.int 1) = some (false, .tup (nd.2.map mvD)) := by unfold ndD; simp
theorem ixN_ok {n k : Nat} (h : k < n) : ixN n (k : Int) = some k := by
  unfold ixN
  simp [h]
theorem rkL_set (f : Rk) (k t : Nat) : rkL (f.set k (some t)) = (rkL f).set k (.int t) := by unfold rkL; rw [List.map_set]; rfl
theorem rk_loop1 (nds : List NdN) (ok : NdsOk nds) (t : Nat) (f : Rk) (hf : f.length = nds.length) {y0 y2 y5 y9 : Option T} (hy : y0 = some (false, .lst (nds.map ndD)) ∨ y0 = some (true, .lst (nds.map ndD))) : ∀ (m a : Nat) (g : Rk) (mo : Mo) (x7 x8 : Option T), a + m = nds.length → g.length = nds.length → mo.length = nds.length →
    ∃ y7 y8, forL (gN 7) b_ranks_of_L1 (rngL a 1 m) [y0, some (true, .lst (rkL g)), y2, some (true, .lst (moL mo)), some (false, .int t), y5, some (true, .lst (rkL f)), x7, x8, y9, none, none] =
      .ok .nx [y0, some (true, .lst (rkL (upR nds t f (List.range' a m) g))), y2, some (true, .lst (moL (upM nds f (List.range' a m) mo))), some (false, .int t), y5, some (true, .lst (rkL f)), y7, y8, y9, none, none] := by
  intro m
  induction m with
  | zero => exact fun a g mo x7 x8 _ _ _ => ⟨x7, x8, rfl⟩
  | succ m ih =>
    intro a g mo x7 x8 ha hg hmo
    have hk : a < nds.length := by omega
    have h1 := node_at hk
    have h2 := node_1 (nds.getD a ([], []))
    have h3 := rk_at (f := f) (k := a) (by omega)
    have h4 := isNon_rk f a
    have hc := fun y1 y3 y4 y8 => some_comp nds ok f hf a hk (o := true) (y0 := y0) (y1 := y1) (y2 := y2) (y3 := y3) (y4 := y4) (y5 := y5) (y7 := some (false, .int a)) (y8 := y8) (y9 := y9)
    have e2 : (nds.getD a ([], [])).2 = mvsAt nds a := rfl
    rw [e2] at h2
    generalize nds.getD a ([], []) = nd at h1 h2
    have ls := rkL_len g
    have lm := moL_len mo
    have i1 := ixN_ok (n := nds.length) hk
    have en : eqD (.lst ((brM (mvsAt nds a) f).map setD)) (.lst []) = some (brM (mvsAt nds a) f).isEmpty := by
      have := ptSet.lst.eqD (by decide) (brM (mvsAt nds a) f) []
      simp only [List.map_nil] at this
      rw [this]
      cases brM (mvsAt nds a) f <;> rfl
    rw [List.range'_succ, rngL_cons, upR, upM]
    have fin : ∀ (g' : Rk) (mo' : Mo), g'.length = nds.length → mo'.length = nds.length → ∃ y7 y8, forL (gN 7) b_ranks_of_L1 (rngL ((a : Int) + 1) 1 m) [y0, some (true, .lst (rkL g')), y2, some (true, .lst (moL mo')), some (false, .int t), y5, some (true, .lst (rkL f)), some (false, .int a), some (true, .lst ((brM (mvsAt nds a) f).map setD)), y9, none, none] =
        .ok .nx [y0, some (true, .lst (rkL (upR nds t f (List.range' (a + 1) m) g'))), y2, some (true, .lst (moL (upM nds f (List.range' (a + 1) m) mo'))), some (false, .int t), y5, some (true, .lst (rkL f)), y7, y8, y9, none, none] := fun g' mo' q1 q2 => by
      have := ih (a + 1) g' mo' (some (false, .int a)) (some (true, .lst ((brM (mvsAt nds a) f).map setD))) (by omega) q1 q2
      rw [Int.natCast_add, Int.natCast_one] at this
      exact this
    have enb : newB nds f a = (!isK f a && !(brM (mvsAt nds a) f).isEmpty) := rfl
    cases hb : newB nds f a with
    | false =>
      obtain ⟨y7, y8, h⟩ := fin g mo hg hmo
      refine ⟨y7, y8, ?_⟩
      rw [if_neg (by decide), if_neg (by decide), ← h]
      rw [hb] at enb
      cases q1 : isK f a with
      | true =>
        rw [q1] at h4
        rcases hy with rfl | rfl <;> simp [b_ranks_of_L1, h1, h2, h3, h4, hc]
      | false =>
        rw [q1] at h4 enb
        have q2 : (brM (mvsAt nds a) f).isEmpty = true := by
          cases q : (brM (mvsAt nds a) f).isEmpty with
          | true => rfl
          | false => rw [q] at enb; cases enb
        rw [q2] at en
        rcases hy with rfl | rfl <;> simp [b_ranks_of_L1, h1, h2, h3, h4, hc, en]
    | true =>
      rw [hb] at enb
      obtain ⟨q1, q2⟩ := Bool.and_eq_true_iff.mp enb.symm
      have q1 : isK f a = false := by simpa using q1
      have q2 : (brM (mvsAt nds a) f).isEmpty = false := by simpa using q2
      obtain ⟨x, l, hx⟩ : ∃ x l, brM (mvsAt nds a) f = x :: l := by
        cases q : brM (mvsAt nds a) f with
        | nil => rw [q] at q2; cases q2
        | cons x l => exact ⟨x, l, rfl⟩
      obtain ⟨y7, y8, h⟩ := fin (g.set a (some t)) (mo.set a (some x)) (by rw [List.length_set]; exact hg) (by rw [List.length_set]; exact hmo)
      refine ⟨y7, y8, ?_⟩
      rw [if_pos rfl, if_pos rfl]
      have eh : (brM (mvsAt nds a) f).head? = some x := by rw [hx]; rfl
      rw [eh, ← h]
      rw [q1] at h4
      rw [q2] at en
      have s1 : (rkL g).set a (.int t) = rkL (g.set a (some t)) := by unfold rkL; rw [List.map_set]; rfl
      have s2 : (moL mo).set a (setD x) = moL (mo.set a (some x)) := by unfold moL; rw [List.map_set]; rfl
      rw [hx] at hc en ⊢
      simp only [List.map_cons] at hc en ⊢
      rcases hy with rfl | rfl <;> simp [b_ranks_of_L1, h1, h2, h3, h4, hc, en, ls, lm, hg, hmo, i1, s1, s2]
end Lz
/-! ranks: the program's, joined -/
namespace Lz
open PySem PySem.Spec PyProof.Rows L2
theorem cnt_comp (f : Rk) {y0 y1 y2 y3 y4 y5 y6 y7 y8 : Option T} : compL [9] (gN 9) (sB (sBin opIsNotN (sVar 9) (sC .non))) (sVar 9) (rkL f) [y0, y1, y2, y3, y4, y5, y6, y7, y8, none, none, none] = .ok ((f.filter Option.isSome).map (optD numD)) [y0, y1, y2, y3, y4, y5, y6, y7, y8, none, none, none] :=
  compL_mf fun x hx => by
    refine ⟨_, rfl, rfl, ?_, fun _ => ⟨false, by simp⟩⟩
    cases x with
    | none => simp [optD, isNon]
    | some x => simp [optD, numD, isNon]
theorem cnt_len (f : Rk) : ((f.filter Option.isSome).map (optD numD)).length = cnt f := List.length_map _
def befD (nds : List NdN) : Nat → Int
  | 0 => -1
  | t + 1 => cnt (rkF nds t)
theorem rk_body (nds : List NdN) (ok : NdsOk nds) {y0 : Option T} (hy : y0 = some (false, .lst (nds.map ndD)) ∨ y0 = some (true, .lst (nds.map ndD))) (t : Nat) (x6 x7 x8 : Option T) :
    ∃ y6 y7 y8, b_ranks_of_L2 [y0, some (true, .lst (rkL (rkF nds t))), none, some (true, .lst (moL (moF nds t))), some (false, .int t), some (false, .int (befD nds t)), x6, x7, x8, none, none, none] =
      .ok .nx [y0, some (true, .lst (rkL (rkF nds (t + 1)))), none, some (true, .lst (moL (moF nds (t + 1)))), some (false, .int (t + 1 : Nat)), some (false, .int (befD nds (t + 1))), y6, y7, y8, none, none, none] := by
  have hc := fun y1 y3 y4 y5 => cnt_comp (rkF nds t) (y0 := y0) (y1 := y1) (y2 := none) (y3 := y3) (y4 := y4) (y5 := y5) (y6 := x6) (y7 := x7) (y8 := x8)
  have hl := cnt_len (rkF nds t)
  obtain ⟨y7, y8, h⟩ := rk_loop1 nds ok (t + 1) (rkF nds t) (rkF_len nds t) hy (y2 := none) (y5 := some (false, .int (cnt (rkF nds t)))) (y9 := none) nds.length 0 (rkF nds t) (moF nds t) x7 x8 (by omega) (rkF_len nds t) (moF_len nds t)
  have l16 := ok.l16
  refine ⟨some (true, .lst (rkL (rkF nds t))), y7, y8, ?_⟩
  have e1 : rkF nds (t + 1) = upR nds (t + 1) (rkF nds t) (List.range' 0 nds.length) (rkF nds t) := by rw [rkF, List.range_eq_range']
  have e2 : moF nds (t + 1) = upM nds (rkF nds t) (List.range' 0 nds.length) (moF nds t) := by rw [moF, List.range_eq_range']
  rw [← e1, ← e2] at h
  have r1 : (nds.length : Int) ≤ 16777216 := by omega
  have eb : befD nds (t + 1) = (cnt (rkF nds t) : Int) := rfl
  rw [eb]
  generalize befD nds t = B
  generalize rkF nds (t + 1) = F1 at *
  generalize moF nds (t + 1) = M1 at *
  generalize moF nds t = M0 at *
  generalize rkF nds t = F0 at *
  rw [Int.natCast_add, Int.natCast_one] at h ⊢
  have z0 : ((0 : Nat) : Int) = 0 := rfl
  rw [z0] at h
  generalize hT : (t : Int) = T at *
  rcases hy with rfl | rfl <;> simp [b_ranks_of_L2, hc, hl, r1, h]
theorem rk_while (nds : List NdN) (ok : NdsOk nds) {y0 : Option T} (hy : y0 = some (false, .lst (nds.map ndD)) ∨ y0 = some (true, .lst (nds.map ndD))) : ∀ (r t f : Nat) (x6 x7 x8 : Option T), nds.length + 1 ≤ cnt (rkF nds t) + r → r + 1 < f → befD nds t ≠ cnt (rkF nds t) →
    ∃ t' y6 y7 y8, rkF nds t' = rkF nds (t' + 1) ∧ xWhile (sB (sBin opNe (sVar 5) (sCl cfLen (sCons (sComp [9] (sItE (sVar 1)) (gN 9) (sB (sBin opIsNotN (sVar 9) (sC .non))) (sVar 9)) sNil)))) b_ranks_of_L2 f [y0, some (true, .lst (rkL (rkF nds t))), none, some (true, .lst (moL (moF nds t))), some (false, .int t), some (false, .int (befD nds t)), x6, x7, x8, none, none, none] =
      .ok .nx [y0, some (true, .lst (rkL (rkF nds (t' + 1)))), none, some (true, .lst (moL (moF nds (t' + 1)))), some (false, .int (t' + 1 : Nat)), some (false, .int (befD nds (t' + 1))), y6, y7, y8, none, none, none] := by
  intro r
  induction r with
  | zero =>
    intro t f x6 x7 x8 h1 _ _
    have := cnt_le (rkF nds t)
    rw [rkF_len] at this
    omega
  | succ r ih =>
    intro t f x6 x7 x8 h1 h2 h3
    obtain ⟨f, rfl⟩ : ∃ k, f = k + 1 := ⟨f - 1, by omega⟩
    obtain ⟨z6, z7, z8, hb⟩ := rk_body nds ok hy t x6 x7 x8
    have hc := fun y1 y3 y4 y5 => cnt_comp (rkF nds t) (y0 := y0) (y1 := y1) (y2 := none) (y3 := y3) (y4 := y4) (y5 := y5) (y6 := x6) (y7 := x7) (y8 := x8)
    have hl := cnt_len (rkF nds t)
    have en : eqD (.int (befD nds t)) (.int (cnt (rkF nds t))) = some false := by
      have := PT.int.eqD (by decide) (befD nds t) (cnt (rkF nds t) : Int)
      rw [this, decide_eq_false h3]
    obtain ⟨e1, e2⟩ := rk_ext nds t
    by_cases hs : cnt (rkF nds t) = cnt (rkF nds (t + 1))
    · refine ⟨t, z6, z7, z8, e2 hs, ?_⟩
      obtain ⟨f, rfl⟩ : ∃ k, f = k + 1 := ⟨f - 1, by omega⟩
      have hc2 := fun y1 y3 y4 y5 => cnt_comp (rkF nds (t + 1)) (y0 := y0) (y1 := y1) (y2 := none) (y3 := y3) (y4 := y4) (y5 := y5) (y6 := z6) (y7 := z7) (y8 := z8)
      have hl2 := cnt_len (rkF nds (t + 1))
      have en2 : eqD (.int (befD nds (t + 1))) (.int (cnt (rkF nds (t + 1)))) = some true := by
        have := PT.int.eqD (by decide) (befD nds (t + 1)) (cnt (rkF nds (t + 1)) : Int)
        rw [this, decide_eq_true]
        show ((cnt (rkF nds t) : Int)) = _
        rw [hs]
      generalize befD nds (t + 1) = B1 at *
      generalize befD nds t = B0 at *
      generalize rkF nds (t + 1) = F1 at *
      generalize moF nds (t + 1) = M1 at *
      generalize moF nds t = M0 at *
      generalize rkF nds t = F0 at *
      generalize hT1 : ((t + 1 : Nat) : Int) = T1 at *
      generalize hT : (t : Int) = T at *
      rw [xWhile_s]
      simp [hc, hl, en, hb]
      rw [xWhile_s]
      simp [hc2, hl2, en2]
    · have ne : befD nds (t + 1) ≠ cnt (rkF nds (t + 1)) := by
        show ((cnt (rkF nds t) : Int)) ≠ _
        omega
      obtain ⟨t', y6, y7, y8, q1, q2⟩ := ih (t + 1) f z6 z7 z8 (by omega) (by omega) ne
      refine ⟨t', y6, y7, y8, q1, ?_⟩
      rw [← q2]
      generalize befD nds (t + 1) = B1 at *
      generalize befD nds t = B0 at *
      generalize rkF nds (t + 1) = F1 at *
      generalize moF nds (t + 1) = M1 at *
      generalize moF nds t = M0 at *
      generalize rkF nds t = F0 at *
      generalize hT1 : ((t + 1 : Nat) : Int) = T1 at *
      generalize hT : (t : Int) = T at *
      rw [xWhile_s]
      simp [hc, hl, en, hb]
theorem none_comp (nds : List NdN) {i : Nat} {y0 y1 : Option T} {ys : List (Option T)} : compL [2] (gN 2) cT (sC .non) (nds.map ndD) (y0 :: y1 :: none :: ys) = .ok (rkL (rkF nds 0)) (y0 :: y1 :: none :: ys) := by
  have := compL_m (own := [2]) (g := gN 2) (f := sC .non) (ρ := y0 :: y1 :: none :: ys) (e := fun _ : NdN => D.non) (w := ndD) (xs := nds) fun x hx => ⟨y0 :: y1 :: some (false, ndD x) :: ys, false, rfl, rfl, by simp⟩
  rw [this]
  congr 1
  unfold rkL rkF
  rw [List.map_map]
  rfl
theorem moL0 (nds : List NdN) : moL (moF nds 0) = rkL (rkF nds 0) := by
  unfold rkL rkF moL moF
  rw [List.map_map, List.map_map]
  rfl
theorem ranks_of_sp (nds : List NdN) (ok : NdsOk nds) (o : Bool) : F_ranks_of [(o, .lst (nds.map ndD))] = .ok (false, .tup [.lst (rkL (rankS nds)), .lst (moL (moveS nds))]) [some (o, .lst (nds.map ndD))] := by
  have l16 := ok.l16
  obtain ⟨t', y6, y7, y8, q1, h⟩ := rk_while nds ok (y0 := some (o, .lst (nds.map ndD))) (by cases o <;> simp) (nds.length + 1) 0 wN none none none (by omega) (by unfold wN; omega) (by show (-1 : Int) ≠ _; omega)
  obtain ⟨e1, e2⟩ := rk_fin q1
  obtain ⟨e3, e4⟩ := rk_on q1 (t' + 1) (by omega)
  rw [e3, e4, e1, e2] at h
  have hc := fun y0 y1 ys => none_comp nds (i := 0) (y0 := y0) (y1 := y1) (ys := ys)
  have m0 := moL0 nds
  have b0 : befD nds 0 = -1 := rfl
  rw [m0, b0] at h
  generalize rkL (rkF nds 0) = R0 at *
  generalize rankS nds = R at *
  generalize moveS nds = M at *
  generalize befD nds (t' + 1) = B at *
  generalize ((t' + 1 : Nat) : Int) = T1 at *
  simp at h
  cases o <;> simp [F_ranks_of, b_ranks_of, hc, h]
theorem gameS_ok (b : Book) (hb : b.Ok) : NdsOk (gameS b) := by
  obtain ⟨g, e⟩ := game_ok b hb
  rw [e]
  have f2 := hb.toForm.f2
  have r2 := hb.toForm.r2
  have hnd : ∀ nd ∈ (memsS b).map (nodeOf b (memsS b)), ∃ mem ∈ memsS b, nd = nodeOf b (memsS b) mem := fun nd h => by
    obtain ⟨mem, h1, h2⟩ := List.mem_map.mp h
    exact ⟨mem, h1, h2.symm⟩
  refine ⟨by rw [List.length_map]; exact g.l16, fun nd h => ?_, fun nd h mv hm => ?_, fun nd h mv hm a ha => ?_⟩
  · obtain ⟨mem, h1, rfl⟩ := hnd nd h
    show ((foesF b mem (setL b.foe.length)).map (mvOf b (memsS b) mem)).length ≤ 4
    rw [List.length_map]
    refine Nat.le_trans (List.length_filter_le _ _) ?_
    rw [setL_len]
    have : 2 ^ b.foe.length ≤ 2 ^ 2 := Nat.pow_le_pow_right (by decide) f2
    omega
  · obtain ⟨mem, h1, rfl⟩ := hnd nd h
    obtain ⟨foe, h2, rfl⟩ := List.mem_map.mp hm
    show ((ansS b mem foe).map (numA (memsS b))).length ≤ 4
    rw [List.length_map, ansS, List.length_map]
    refine Nat.le_trans (List.length_filter_le _ _) ?_
    rw [setL_len]
    have : 2 ^ b.fri.length ≤ 2 ^ 2 := Nat.pow_le_pow_right (by decide) r2
    omega
  · obtain ⟨mem, h1, rfl⟩ := hnd nd h
    obtain ⟨foe, h2, rfl⟩ := List.mem_map.mp hm
    obtain ⟨x, h3, rfl⟩ := List.mem_map.mp ha
    rw [List.length_map]
    exact ixOf_lt (g.cl mem h1 foe h2 x h3)
theorem lost_in_sp (b : Book) (hb : b.Ok) : F_lost_in [(false, b.toD)] = .ok (false, .lst (rkL (rankS (gameS b)))) [some (false, b.toD)] := by
  have h1 := checked_ok b hb
  have h2 := game_of_sp b hb
  have h3 := ranks_of_sp (gameS b) (gameS_ok b hb) true
  simp [F_lost_in, b_lost_in, h1, h2, h3]
theorem breaking_sp (b : Book) (hb : b.Ok) : F_breaking_moves [(false, b.toD)] = .ok (false, .lst (moL (moveS (gameS b)))) [some (false, b.toD)] := by
  have h1 := checked_ok b hb
  have h2 := game_of_sp b hb
  have h3 := ranks_of_sp (gameS b) (gameS_ok b hb) true
  simp [F_breaking_moves, b_breaking_moves, h1, h2, h3]
end Lz
/-! ranks: the law's own -/
namespace Lz
open PySem PySem.Spec PyProof.Rows L2
theorem eqd_nil {α : Type} {w : α → D} {n : Nat} (p : PT w n) (hn : n < 64) (l : List α) : eqD (.lst (l.map w)) (.lst []) = some l.isEmpty := by
  have hle : n + 1 ≤ 64 := by omega
  classical
  have := p.lst.eqD hle l []
  simp only [List.map_nil] at this
  rw [this]
  cases l <;> simp
theorem an_comp (f : Rk) (mv : MvN) (h : ∀ a ∈ mv.2, a.2.2 < f.length) {y0 y1 y2 y3 y5 y6 y7 : Option T} :
    compL [8] (gN 8) b_l_ranks_D1 (sVar 8) (mv.2.map ansND) [y0, y1, y2, y3, some (true, .lst (rkL f)), y5, y6, y7, none] = .ok ((mv.2.filter fun a => !isK f a.2.2).map ansND) [y0, y1, y2, y3, some (true, .lst (rkL f)), y5, y6, y7, none] :=
  compL_mf fun a ha => by
    have h1 := rk_at (h a ha)
    have h2 := isNon_rk f a.2.2
    exact ⟨_, rfl, rfl, by simp [b_l_ranks_D1, ansND, h1, h2], fun _ => ⟨false, by simp⟩⟩
theorem an_empty (f : Rk) (mv : MvN) : (mv.2.filter fun a => !isK f a.2.2).isEmpty = goodM f mv := by
  unfold goodM
  induction mv.2 with
  | nil => rfl
  | cons a l ih =>
    rw [List.filter_cons, List.all_cons]
    cases isK f a.2.2 with
    | true => simpa using ih
    | false => simp
theorem set_twice {α : Type} (l : List α) (k : Nat) (x : α) : (l.set k x).set k x = l.set k x := by simp
theorem lr_loop1 (nds : List NdN) (t k : Nat) (f : Rk) (hf : f.length = nds.length) (hk : k < nds.length) {y0 y2 : Option T} : ∀ (mvs : List MvN) (g : Rk) (x6 x7 : Option T), (∀ mv ∈ mvs, ∀ a ∈ mv.2, a.2.2 < f.length) → g.length = nds.length →
    ∃ y6 y7, forL (gTp 2 (gCn (gN 6) (gCn (gN 7) gNl))) b_l_ranks_L1 (mvs.map mvD) [y0, some (true, .lst (rkL g)), y2, some (false, .int t), some (true, .lst (rkL f)), some (false, .int k), x6, x7, none] =
      .ok .nx [y0, some (true, .lst (rkL (if (!isK f k && mvs.any (goodM f)) = true then g.set k (some t) else g))), y2, some (false, .int t), some (true, .lst (rkL f)), some (false, .int k), y6, y7, none] := by
  intro mvs
  induction mvs with
  | nil => exact fun g x6 x7 _ _ => ⟨x6, x7, by simp⟩
  | cons mv mvs ih =>
    intro g x6 x7 hm hg
    have h3 := rk_at (f := f) (k := k) (by omega)
    have h4 := isNon_rk f k
    have hc := fun y0 y1 y2 y3 y5 y6 y7 => an_comp f mv (hm mv List.mem_cons_self) (y0 := y0) (y1 := y1) (y2 := y2) (y3 := y3) (y5 := y5) (y6 := y6) (y7 := y7)
    have en := eqd_nil ptAns (by decide) (mv.2.filter fun a => !isK f a.2.2)
    rw [an_empty] at en
    have lg := rkL_len g
    have i1 := ixN_ok (n := nds.length) hk
    rw [List.map_cons]
    have fin := fun g' hg' => ih g' (some (false, setD mv.1)) (some (false, .tup (mv.2.map ansND))) (fun q hq => hm q (List.mem_cons_of_mem _ hq)) hg'
    cases q1 : isK f k with
    | true =>
      obtain ⟨y6, y7, h⟩ := fin g hg
      refine ⟨y6, y7, ?_⟩
      rw [q1] at h h4
      simp only [Bool.not_true, Bool.false_and] at h ⊢
      rw [← h]
      simp [b_l_ranks_L1, mvD, h3, h4]
    | false =>
      rw [q1] at h4 fin
      rw [List.any_cons]
      cases q2 : goodM f mv with
      | false =>
        obtain ⟨y6, y7, h⟩ := fin g hg
        refine ⟨y6, y7, ?_⟩
        rw [q2] at en
        rw [Bool.false_or, ← h]
        simp [b_l_ranks_L1, mvD, h3, h4, hc, en]
      | true =>
        obtain ⟨y6, y7, h⟩ := fin (g.set k (some t)) (by rw [List.length_set]; exact hg)
        refine ⟨y6, y7, ?_⟩
        rw [q2] at en
        have e : (if (!false && (true || mvs.any (goodM f))) = true then g.set k (some t) else g) = (if (!false && mvs.any (goodM f)) = true then (g.set k (some t)).set k (some t) else g.set k (some t)) := by
          rw [set_twice]; simp
        rw [e, ← h]
        have s1 : (rkL g).set k (.int t) = rkL (g.set k (some t)) := by unfold rkL; rw [List.map_set]; rfl
        simp [b_l_ranks_L1, mvD, h3, h4, hc, en, lg, hg, i1, s1]
theorem any_br (f : Rk) (mvs : List MvN) : mvs.any (goodM f) = !(brM mvs f).isEmpty := by
  unfold brM
  induction mvs with
  | nil => rfl
  | cons mv mvs ih =>
    rw [List.any_cons, List.filter_cons]
    cases goodM f mv with
    | true => simp
    | false => simpa using ih
theorem lr_loop2 (nds : List NdN) (ok : NdsOk nds) (t : Nat) (f : Rk) (hf : f.length = nds.length) (o : Bool) {y2 : Option T} : ∀ (m a : Nat) (g : Rk) (x5 x6 x7 : Option T), a + m = nds.length → g.length = nds.length →
    ∃ y5 y6 y7, forL (gN 5) b_l_ranks_L2 (rngL a 1 m) [some (o, .lst (nds.map ndD)), some (true, .lst (rkL g)), y2, some (false, .int t), some (true, .lst (rkL f)), x5, x6, x7, none] =
      .ok .nx [some (o, .lst (nds.map ndD)), some (true, .lst (rkL (upR nds t f (List.range' a m) g))), y2, some (false, .int t), some (true, .lst (rkL f)), y5, y6, y7, none] := by
  intro m
  induction m with
  | zero => exact fun a g x5 x6 x7 _ _ => ⟨x5, x6, x7, rfl⟩
  | succ m ih =>
    intro a g x5 x6 x7 ha hg
    have hk : a < nds.length := by omega
    have h1 := node_at hk
    have h2 := node_1 (nds.getD a ([], []))
    have e2 : (nds.getD a ([], [])).2 = mvsAt nds a := rfl
    have hix : ∀ mv ∈ mvsAt nds a, ∀ x ∈ mv.2, x.2.2 < f.length := fun mv hm x hx => by rw [hf]; exact ok.ix _ (mvsAt_mem hk) mv hm x hx
    rw [e2] at h2
    generalize nds.getD a ([], []) = nd at h1 h2
    obtain ⟨z6, z7, hl⟩ := lr_loop1 nds t a f hf hk (y0 := some (o, .lst (nds.map ndD))) (y2 := y2) (mvsAt nds a) g x6 x7 hix hg
    rw [List.range'_succ, rngL_cons, upR]
    have enb : (!isK f a && (mvsAt nds a).any (goodM f)) = newB nds f a := by rw [any_br]; rfl
    rw [enb] at hl
    have hg2 : (if newB nds f a = true then g.set a (some t) else g).length = nds.length := by split <;> simp [hg]
    generalize (if newB nds f a = true then g.set a (some t) else g) = g' at *
    obtain ⟨y5, y6, y7, h⟩ := ih (a + 1) g' (some (false, .int a)) z6 z7 (by omega) hg2
    refine ⟨y5, y6, y7, ?_⟩
    rw [Int.natCast_add, Int.natCast_one] at h
    rw [← h]
    cases o <;> simp [b_l_ranks_L2, h1, h2, hl]
theorem lr_loop3 (nds : List NdN) (ok : NdsOk nds) (o : Bool) {y2 : Option T} : ∀ (m t : Nat) (x3 x4 x5 x6 x7 : Option T), t + m = nds.length →
    ∃ y3 y4 y5 y6 y7, forL (gN 3) b_l_ranks_L3 (rngL ((t + 1 : Nat) : Int) 1 m) [some (o, .lst (nds.map ndD)), some (true, .lst (rkL (rkF nds t))), y2, x3, x4, x5, x6, x7, none] =
      .ok .nx [some (o, .lst (nds.map ndD)), some (true, .lst (rkL (rankS nds))), y2, y3, y4, y5, y6, y7, none] := by
  intro m
  induction m with
  | zero =>
    intro t x3 x4 x5 x6 x7 ht
    have e : t = nds.length := by omega
    subst e
    exact ⟨x3, x4, x5, x6, x7, rfl⟩
  | succ m ih =>
    intro t x3 x4 x5 x6 x7 ht
    have l16 := ok.l16
    obtain ⟨z5, z6, z7, hl⟩ := lr_loop2 nds ok (t + 1) (rkF nds t) (rkF_len nds t) o (y2 := y2) nds.length 0 (rkF nds t) x5 x6 x7 (by omega) (rkF_len nds t)
    have e1 : rkF nds (t + 1) = upR nds (t + 1) (rkF nds t) (List.range' 0 nds.length) (rkF nds t) := by rw [rkF, List.range_eq_range']
    rw [← e1] at hl
    obtain ⟨y3, y4, y5, y6, y7, h⟩ := ih (t + 1) (some (false, .int (t + 1 : Nat))) (some (true, .lst (rkL (rkF nds t)))) z5 z6 z7 (by omega)
    refine ⟨y3, y4, y5, y6, y7, ?_⟩
    have r1 : (nds.length : Int) ≤ 16777216 := by omega
    have z0 : ((0 : Nat) : Int) = 0 := rfl
    rw [z0] at hl
    rw [Int.natCast_add (t + 1) 1, Int.natCast_one] at h
    rw [rngL_cons, ← h]
    generalize rkF nds (t + 1) = F1 at *
    generalize rkF nds t = F0 at *
    generalize ((t + 1 : Nat) : Int) = T1 at *
    cases o <;> simp [b_l_ranks_L3, r1, hl]
theorem l_ranks_sp (nds : List NdN) (ok : NdsOk nds) (o : Bool) : F_l_ranks [(o, .lst (nds.map ndD))] = .ok (true, .lst (rkL (rankS nds))) [some (o, .lst (nds.map ndD))] := by
  have l16 := ok.l16
  have hc := fun y0 y1 ys => none_comp nds (i := 0) (y0 := y0) (y1 := y1) (ys := ys)
  obtain ⟨y3, y4, y5, y6, y7, h⟩ := lr_loop3 nds ok o (y2 := none) nds.length 0 none none none none none (by omega)
  have e : ((0 + 1 : Nat) : Int) = 1 := rfl
  rw [e] at h
  obtain ⟨L, hL⟩ : ∃ L : Int, (nds.length : Int) + 1 = L := ⟨_, rfl⟩
  have r1 : L ≤ 16777216 := by omega
  have r2 : (L - 1).toNat = nds.length := by omega
  have r3 : -4611686018427387904 ≤ L := by omega
  have r4 : L < 4611686018427387904 := by omega
  have r5 : L - 1 ≤ 16777216 := by omega
  generalize rkL (rkF nds 0) = R0 at *
  generalize rankS nds = R at *
  cases o <;> simp [F_l_ranks, b_l_ranks, hc, hL, r1, r2, r3, r4, r5, h]
/-! the law's moves -/
def ltM (R : Rk) (r : Nat) (mv : MvN) : Bool := mv.2.all fun a => match rkA R a.2.2 with | some s => decide (s < r) | none => false
theorem good_lt (nds : List NdN) (r : Nat) (h1 : 1 ≤ r) (h2 : r ≤ nds.length) (mv : MvN) : goodM (rkF nds (r - 1)) mv = ltM (rankS nds) r mv := by
  unfold goodM ltM
  refine congrArg (fun f => mv.2.all f) (funext fun a => ?_)
  rw [isK_lt nds (by omega)]
  unfold rkA
  cases (rankS nds).getD a.2.2 none with
  | none => rfl
  | some s =>
    show decide (s ≤ r - 1) = decide (s < r)
    congr 1
    rw [eq_iff_iff]
    omega
theorem to_comp (nds : List NdN) (R : Rk) (hR : R.length = nds.length) (k r : Nat) (hk : k < nds.length) (hr : rkA R k = some r) (mv : MvN) (h : ∀ a ∈ mv.2, a.2.2 < nds.length) {y0 y1 y2 y4 y6 y7 y8 y12 : Option T} {o : Bool} :
    compL [9, 10, 11] (gTp 3 (gCn (gN 9) (gCn (gN 10) (gCn (gN 11) gNl)))) b_law_k10_D1 (sVar 11) (mv.2.map ansND) [y0, y1, y2, some (o, .lst (rkL R)), y4, some (false, .int k), y6, y7, y8, none, none, none, y12] =
      .ok ((mv.2.filter fun a => !(match rkA R a.2.2 with | some s => decide (s < r) | none => false)).map fun a => numD a.2.2) [y0, y1, y2, some (o, .lst (rkL R)), y4, some (false, .int k), y6, y7, y8, none, none, none, y12] :=
  compL_mf fun a ha => by
    have h1 := rk_at (f := R) (k := a.2.2) (by rw [hR]; exact h a ha)
    have h2 := rk_at (f := R) (k := k) (by omega)
    rw [hr] at h2
    refine ⟨[y0, y1, y2, some (o, .lst (rkL R)), y4, some (false, .int k), y6, y7, y8, some (false, setD a.1), some (false, .int a.2.1), some (false, .int a.2.2), y12], by simp [ansND], rfl, ?_, fun _ => ⟨false, by simp [numD]⟩⟩
    cases e : rkA R a.2.2 with
    | none =>
      rw [e] at h1
      cases o <;> simp [b_law_k10_D1, h1, optD, isNon]
    | some s =>
      rw [e] at h1
      by_cases q : s < r
      · have q2 : ¬ (r : Int) ≤ s := by omega
        cases o <;> simp [b_law_k10_D1, h1, h2, optD, numD, isNon, q, q2]
      · have q2 : (r : Int) ≤ s := by omega
        cases o <;> simp [b_law_k10_D1, h1, h2, optD, numD, isNon, q, q2]
theorem to_empty (R : Rk) (r : Nat) (mv : MvN) : (mv.2.filter fun a => !(match rkA R a.2.2 with | some s => decide (s < r) | none => false)).isEmpty = ltM R r mv := by
  unfold ltM
  induction mv.2 with
  | nil => rfl
  | cons a l ih =>
    rw [List.filter_cons, List.all_cons]
    cases (match rkA R a.2.2 with | some s => decide (s < r) | none => false : Bool) with
    | true => simpa using ih
    | false => simp
theorem k10_loop1 (nds : List NdN) (R : Rk) (hR : R.length = nds.length) (k r : Nat) (hk : k < nds.length) (hr : rkA R k = some r) {y0 y1 y2 y4 y12 : Option T} {o : Bool} : ∀ (mvs : List MvN) (acc : List (List Bool)) (x7 x8 : Option T), (∀ mv ∈ mvs, ∀ a ∈ mv.2, a.2.2 < nds.length) → acc.length + mvs.length ≤ 1000 →
    ∃ y7 y8, forL (gTp 2 (gCn (gN 7) (gCn (gN 8) gNl))) b_law_k10_L1 (mvs.map mvD) [y0, y1, y2, some (o, .lst (rkL R)), y4, some (false, .int k), some (true, .lst (acc.map setD)), x7, x8, none, none, none, y12] =
      .ok .nx [y0, y1, y2, some (o, .lst (rkL R)), y4, some (false, .int k), some (true, .lst ((acc ++ (mvs.filter (ltM R r)).map (·.1)).map setD)), y7, y8, none, none, none, y12] := by
  intro mvs
  induction mvs with
  | nil => exact fun acc x7 x8 _ _ => ⟨x7, x8, by simp⟩
  | cons mv mvs ih =>
    intro acc x7 x8 hm ha
    simp only [List.length_cons] at ha
    have hc := fun y0 y1 y2 y4 y6 y7 y8 y12 => to_comp nds R hR k r hk hr mv (hm mv List.mem_cons_self) (o := o) (y0 := y0) (y1 := y1) (y2 := y2) (y4 := y4) (y6 := y6) (y7 := y7) (y8 := y8) (y12 := y12)
    have en := eqd_nil (w := fun a : AnsN => numD a.2.2) (α := AnsN) (n := 0)
    have en2 : eqD (.lst ((mv.2.filter fun a => !(match rkA R a.2.2 with | some s => decide (s < r) | none => false)).map fun a => numD a.2.2)) (.lst []) = some (ltM R r mv) := by
      have := eqd_nil PT.nat (by decide) ((mv.2.filter fun a => !(match rkA R a.2.2 with | some s => decide (s < r) | none => false)).map fun a => a.2.2)
      rw [List.map_map, List.isEmpty_map, to_empty] at this
      exact this
    have hz : acc.length < 16777216 := by omega
    rw [List.map_cons]
    generalize (mv.2.filter fun a => !(match rkA R a.2.2 with | some s => decide (s < r) | none => false)).map (fun a => numD a.2.2) = TO at *
    cases q : ltM R r mv with
    | false =>
      rw [q] at en2
      obtain ⟨y7, y8, h⟩ := ih acc (some (false, setD mv.1)) (some (false, .tup (mv.2.map ansND))) (fun q hq => hm q (List.mem_cons_of_mem _ hq)) (by omega)
      refine ⟨y7, y8, ?_⟩
      rw [List.filter_cons_of_neg (by simp [q]), ← h]
      simp [b_law_k10_L1, mvD, hc, en2]
    | true =>
      rw [q] at en2
      obtain ⟨y7, y8, h⟩ := ih (acc ++ [mv.1]) (some (false, setD mv.1)) (some (false, .tup (mv.2.map ansND))) (fun q hq => hm q (List.mem_cons_of_mem _ hq)) (by simp; omega)
      refine ⟨y7, y8, ?_⟩
      have e : acc ++ ((mv :: mvs).filter (ltM R r)).map (·.1) = acc ++ [mv.1] ++ (mvs.filter (ltM R r)).map (·.1) := by
        rw [List.filter_cons_of_pos (by simp [q])]; simp
      rw [e, ← h]
      simp [b_law_k10_L1, mvD, hc, en2, hz]
theorem k10_loop2 (nds : List NdN) (ok : NdsOk nds) {y0 y1 y12 : Option T} : ∀ (m a : Nat) (x5 x6 x7 x8 : Option T), a + m = nds.length →
    ∃ y5 y6 y7 y8, forL (gN 5) b_law_k10_L2 (rngL a 1 m) [y0, y1, some (true, .lst (nds.map ndD)), some (true, .lst (rkL (rankS nds))), some (true, .lst (((List.range a).map fun k => (moveS nds).getD k none).map (optD setD))), x5, x6, x7, x8, none, none, none, y12] =
      .ok .nx [y0, y1, some (true, .lst (nds.map ndD)), some (true, .lst (rkL (rankS nds))), some (true, .lst (moL (moveS nds))), y5, y6, y7, y8, none, none, none, y12] := by
  intro m
  induction m with
  | zero =>
    intro a x5 x6 x7 x8 ha
    have e : a = nds.length := by omega
    subst e
    have e2 : ((List.range nds.length).map fun k => (moveS nds).getD k none) = moveS nds := by
      refine List.ext_getElem (by simp [moveS, moF_len]) fun i h1 h2 => ?_
      simp [List.getElem?_eq_getElem h2]
    rw [e2]
    exact ⟨x5, x6, x7, x8, rfl⟩
  | succ m ih =>
    intro a x5 x6 x7 x8 ha
    have l16 := ok.l16
    have hk : a < nds.length := by omega
    have hR : (rankS nds).length = nds.length := rkF_len nds _
    have h1 := node_at hk
    have h2 := node_1 (nds.getD a ([], []))
    have e2 : (nds.getD a ([], [])).2 = mvsAt nds a := rfl
    have hix : ∀ mv ∈ mvsAt nds a, ∀ x ∈ mv.2, x.2.2 < nds.length := fun mv hm x hx => ok.ix _ (mvsAt_mem hk) mv hm x hx
    have h4m : (mvsAt nds a).length ≤ 4 := ok.mv4 _ (mvsAt_mem hk)
    rw [e2] at h2
    generalize nds.getD a ([], []) = nd at h1 h2
    have h3 := rk_at (f := rankS nds) (k := a) (by omega)
    have hm := mo_at nds nds.length a
    have er : (rkF nds nds.length).getD a none = rkA (rankS nds) a := rfl
    have em : (moF nds nds.length).getD a none = (moveS nds).getD a none := rfl
    rw [er, em] at hm
    have eR : (List.range (a + 1)).map (fun k => (moveS nds).getD k none) = (List.range a).map (fun k => (moveS nds).getD k none) ++ [(moveS nds).getD a none] := by rw [List.range_succ]; simp
    have hz : a < 16777216 := by omega
    have fin := fun x6 x7 x8 => ih (a + 1) (some (false, .int a)) x6 x7 x8 (by omega)
    rw [eR, List.map_append, Int.natCast_add, Int.natCast_one] at fin
    generalize hA : ((List.range a).map fun k => (moveS nds).getD k none).map (optD setD) = A at *
    have lA : A.length = a := by rw [← hA]; simp
    generalize moL (moveS nds) = ML at *
    rw [rngL_cons]
    cases q : rkA (rankS nds) a with
    | none =>
      rw [q] at h3 hm
      dsimp only at hm
      rw [hm] at fin
      obtain ⟨y5, y6, y7, y8, h⟩ := fin (some (true, .lst [.non])) x7 x8
      refine ⟨y5, y6, y7, y8, ?_⟩
      rw [← h]
      simp [b_law_k10_L2, h3, optD, isNon, lA, hz]
    | some r =>
      have q' := q
      rw [q] at h3 hm
      dsimp only at hm
      have hrl := rk_le nds nds.length a r q'
      have hbr : brM (mvsAt nds a) (rkF nds (r - 1)) = ((mvsAt nds a).filter (ltM (rankS nds) r)).map (·.1) := by
        unfold brM
        rw [List.filter_congr fun mv _ => good_lt nds r hrl.1 hrl.2 mv]
      have hne := (rk_has nds nds.length a r q').2
      obtain ⟨z7, z8, hl⟩ := k10_loop1 nds (rankS nds) hR a r hk q' (y0 := y0) (y1 := y1) (y2 := some (true, .lst (nds.map ndD))) (y4 := some (true, .lst A)) (y12 := y12) (o := true) (mvsAt nds a) [] x7 x8 hix (by simp; omega)
      rw [List.nil_append, ← hbr] at hl
      rw [hm] at fin
      generalize brM (mvsAt nds a) (rkF nds (r - 1)) = BR at *
      obtain ⟨x, l, rfl⟩ : ∃ x l, BR = x :: l := by
        cases BR with
        | nil => exact absurd rfl hne
        | cons x l => exact ⟨x, l, rfl⟩
      obtain ⟨y5, y6, y7, y8, h⟩ := fin (some (true, .lst ((x :: l).map setD))) z7 z8
      refine ⟨y5, y6, y7, y8, ?_⟩
      rw [← h]
      simp only [List.map_nil, List.map_cons] at hl ⊢
      simp [b_law_k10_L2, h1, h2, h3, optD, numD, isNon, lA, hz, hl]
end Lz
namespace Lz
open PySem PySem.Spec PyProof.Rows L2
theorem eqd_same {α : Type} {w : α → D} {n : Nat} (p : PT w n) (hn : n < 64) (l : List α) : eqD (.lst (l.map w)) (.lst (l.map w)) = some true := by
  have hle : n + 1 ≤ 64 := by omega
  classical
  have := p.lst.eqD hle l l
  rw [this, decide_eq_true rfl]
theorem nrm_set (x : List Bool) : nrm (setD x) ≠ .non := by simp [setD, nrm]
theorem nrm_num (x : Nat) : nrm (numD x) ≠ .non := by simp [numD, nrm]
theorem law_k10 (ns : List Int) (hl : ns.length ≤ 63) : ∃ outs, F_law_k10 [(false, .scr ns)] = .ok (false, .bl true) outs := by
  obtain ⟨b, g, h1⟩ := book_sp ns hl 0 3 3 (by decide)
  have hb := g.ok (by decide) (by decide)
  have ok := gameS_ok b hb
  have l16 := ok.l16
  have h2 := game_sp b hb
  have h3 := l_ranks_sp (gameS b) ok true
  have h4 := lost_in_sp b hb
  have h5 := breaking_sp b hb
  obtain ⟨y5, y6, y7, y8, h⟩ := k10_loop2 (gameS b) ok (y0 := some (false, .scr ns)) (y1 := some (false, b.toD)) (y12 := none) (gameS b).length 0 none none none none (by omega)
  have q1 : eqD (.lst (rkL (rankS (gameS b)))) (.lst (rkL (rankS (gameS b)))) = some true := eqd_same (PT.nat.opt nrm_num) (by decide) _
  have q2 : eqD (.lst (moL (moveS (gameS b)))) (.lst (moL (moveS (gameS b)))) = some true := eqd_same (ptSet.opt nrm_set) (by decide) _
  have r1 : ((gameS b).length : Int) ≤ 16777216 := by omega
  generalize rkL (rankS (gameS b)) = R at *
  generalize moL (moveS (gameS b)) = M at *
  simp at h h1
  refine ⟨[some (false, .scr ns)], ?_⟩
  simp [F_law_k10, b_law_k10, h1, h2, h3, h4, h5, q1, q2, r1, h]
end Lz
namespace Lz
open PySem PySem.Spec PyProof.Rows L2
abbrev LW : PySem.W.OpenLaw := PySem.Challenge.rw_leastloss_k10_lost_in
def topS (i : Nat) : Stmt := PySem.Challenge.pw_leastloss_k10_lost_in.main.body.getD i (.Pass ⟨0, 0, 0, 0⟩)
abbrev s_is_whole : Stmt := topS 10
abbrev s_between : Stmt := topS 11
abbrev s_is_name : Stmt := topS 12
abbrev s_is_saying : Stmt := topS 13
abbrev s_parts_of : Stmt := topS 14
abbrev s_gathered : Stmt := topS 15
abbrev s_are_names : Stmt := topS 19
abbrev s_stands_free : Stmt := topS 20
abbrev s_are_sayings : Stmt := topS 21
abbrev s_is_wish : Stmt := topS 22
abbrev s_sayings_of : Stmt := topS 23
abbrev s_pieces_of : Stmt := topS 24
abbrev s_is_book : Stmt := topS 25
abbrev s_checked : Stmt := topS 26
abbrev s_settings_of : Stmt := topS 28
abbrev s_Teller___init__ : Stmt := inClass (topS 29) 0
abbrev s_Teller_first : Stmt := inClass (topS 29) 1
abbrev s_Teller_past : Stmt := inClass (topS 29) 2
abbrev s_Teller_holds : Stmt := inClass (topS 29) 3
abbrev s_Teller_behind : Stmt := inClass (topS 29) 4
abbrev s_Teller_keeps : Stmt := inClass (topS 29) 5
abbrev s_Teller_loss : Stmt := inClass (topS 29) 6
abbrev s_answers_to : Stmt := topS 30
abbrev s_game_of : Stmt := topS 31
abbrev s_game : Stmt := topS 32
abbrev s_is_breaking : Stmt := topS 34
abbrev s_ranks_of : Stmt := topS 35
abbrev s_lost_in : Stmt := topS 36
abbrev s_breaking_moves : Stmt := topS 37
abbrev s_l_cell_at : Stmt := topS 39
abbrev s_l_mixed : Stmt := topS 40
abbrev s_l_next : Stmt := topS 41
abbrev s_l_names : Stmt := topS 42
abbrev s_l_saying : Stmt := topS 43
abbrev s_l_promise : Stmt := topS 44
abbrev s_l_book : Stmt := topS 45
abbrev s_l_ranks : Stmt := topS 46
abbrev s_l_good : Stmt := topS 47
abbrev s_law : Stmt := topS 48
structure Tx (K : PySem.W.Frag) (mg : Str → Option Value) : Prop where
  n_all : mg "all" = none
  n_any : mg "any" = none
  n_bool : mg "bool" = none
  n_int : mg "int" = none
  n_isinstance : mg "isinstance" = none
  n_len : mg "len" = none
  n_list : mg "list" = none
  n_range : mg "range" = none
  n_str : mg "str" = none
  n_sum : mg "sum" = none
  n_tuple : mg "tuple" = none
  g_is_whole : mg "is_whole" = some (.ref (He.fAd K ("is_whole", none)))
  g_between : mg "between" = some (.ref (He.fAd K ("between", none)))
  g_is_name : mg "is_name" = some (.ref (He.fAd K ("is_name", none)))
  g_is_saying : mg "is_saying" = some (.ref (He.fAd K ("is_saying", none)))
  g_parts_of : mg "parts_of" = some (.ref (He.fAd K ("parts_of", none)))
  g_gathered : mg "gathered" = some (.ref (He.fAd K ("gathered", none)))
  g_are_names : mg "are_names" = some (.ref (He.fAd K ("are_names", none)))
  g_stands_free : mg "stands_free" = some (.ref (He.fAd K ("stands_free", none)))
  g_are_sayings : mg "are_sayings" = some (.ref (He.fAd K ("are_sayings", none)))
  g_is_wish : mg "is_wish" = some (.ref (He.fAd K ("is_wish", none)))
  g_sayings_of : mg "sayings_of" = some (.ref (He.fAd K ("sayings_of", none)))
  g_pieces_of : mg "pieces_of" = some (.ref (He.fAd K ("pieces_of", none)))
  g_is_book : mg "is_book" = some (.ref (He.fAd K ("is_book", none)))
  g_checked : mg "checked" = some (.ref (He.fAd K ("checked", none)))
  g_settings_of : mg "settings_of" = some (.ref (He.fAd K ("settings_of", none)))
  g_answers_to : mg "answers_to" = some (.ref (He.fAd K ("answers_to", none)))
  g_game_of : mg "game_of" = some (.ref (He.fAd K ("game_of", none)))
  g_game : mg "game" = some (.ref (He.fAd K ("game", none)))
  g_is_breaking : mg "is_breaking" = some (.ref (He.fAd K ("is_breaking", none)))
  g_ranks_of : mg "ranks_of" = some (.ref (He.fAd K ("ranks_of", none)))
  g_lost_in : mg "lost_in" = some (.ref (He.fAd K ("lost_in", none)))
  g_breaking_moves : mg "breaking_moves" = some (.ref (He.fAd K ("breaking_moves", none)))
  g_l_cell_at : mg "_law_cell_at" = some (.ref (He.fAd K ("_law_cell_at", none)))
  g_l_mixed : mg "_law_mixed" = some (.ref (He.fAd K ("_law_mixed", none)))
  g_l_next : mg "_law_next" = some (.ref (He.fAd K ("_law_next", none)))
  g_l_names : mg "_law_names" = some (.ref (He.fAd K ("_law_names", none)))
  g_l_saying : mg "_law_saying" = some (.ref (He.fAd K ("_law_saying", none)))
  g_l_promise : mg "_law_promise" = some (.ref (He.fAd K ("_law_promise", none)))
  g_l_book : mg "_law_book" = some (.ref (He.fAd K ("_law_book", none)))
  g_l_ranks : mg "_law_ranks" = some (.ref (He.fAd K ("_law_ranks", none)))
  g_l_good : mg "_law_good" = some (.ref (He.fAd K ("_law_good", none)))
  g_law : mg "law" = some (.ref (He.fAd K ("law", none)))
  d_is_whole : ∃ fd, FunD K "is_whole" "is_whole" (defArgs s_is_whole) (defBody s_is_whole) (defScope s_is_whole) [] [] (He.fAd K ("is_whole", none)) fd
  d_between : ∃ fd, FunD K "between" "between" (defArgs s_between) (defBody s_between) (defScope s_between) [] [] (He.fAd K ("between", none)) fd
  d_is_name : ∃ fd, FunD K "is_name" "is_name" (defArgs s_is_name) (defBody s_is_name) (defScope s_is_name) [] [] (He.fAd K ("is_name", none)) fd
  d_is_saying : ∃ fd, FunD K "is_saying" "is_saying" (defArgs s_is_saying) (defBody s_is_saying) (defScope s_is_saying) [] [] (He.fAd K ("is_saying", none)) fd
  d_parts_of : ∃ fd, FunD K "parts_of" "parts_of" (defArgs s_parts_of) (defBody s_parts_of) (defScope s_parts_of) [] [] (He.fAd K ("parts_of", none)) fd
  d_gathered : ∃ fd, FunD K "gathered" "gathered" (defArgs s_gathered) (defBody s_gathered) (defScope s_gathered) [] [] (He.fAd K ("gathered", none)) fd
  d_are_names : ∃ fd, FunD K "are_names" "are_names" (defArgs s_are_names) (defBody s_are_names) (defScope s_are_names) [] [] (He.fAd K ("are_names", none)) fd
  d_stands_free : ∃ fd, FunD K "stands_free" "stands_free" (defArgs s_stands_free) (defBody s_stands_free) (defScope s_stands_free) [] [] (He.fAd K ("stands_free", none)) fd
  d_are_sayings : ∃ fd, FunD K "are_sayings" "are_sayings" (defArgs s_are_sayings) (defBody s_are_sayings) (defScope s_are_sayings) [] [] (He.fAd K ("are_sayings", none)) fd
  d_is_wish : ∃ fd, FunD K "is_wish" "is_wish" (defArgs s_is_wish) (defBody s_is_wish) (defScope s_is_wish) [] [] (He.fAd K ("is_wish", none)) fd
  d_sayings_of : ∃ fd, FunD K "sayings_of" "sayings_of" (defArgs s_sayings_of) (defBody s_sayings_of) (defScope s_sayings_of) [] [] (He.fAd K ("sayings_of", none)) fd
  d_pieces_of : ∃ fd, FunD K "pieces_of" "pieces_of" (defArgs s_pieces_of) (defBody s_pieces_of) (defScope s_pieces_of) [] [] (He.fAd K ("pieces_of", none)) fd
  d_is_book : ∃ fd, FunD K "is_book" "is_book" (defArgs s_is_book) (defBody s_is_book) (defScope s_is_book) [] [] (He.fAd K ("is_book", none)) fd
  d_checked : ∃ fd, FunD K "checked" "checked" (defArgs s_checked) (defBody s_checked) (defScope s_checked) [] [] (He.fAd K ("checked", none)) fd
  d_settings_of : ∃ fd, FunD K "settings_of" "settings_of" (defArgs s_settings_of) (defBody s_settings_of) (defScope s_settings_of) [] [] (He.fAd K ("settings_of", none)) fd
  d_Teller___init__ : ∃ fd, FunD K "__init__" "Teller.__init__" (defArgs s_Teller___init__) (defBody s_Teller___init__) (defScope s_Teller___init__) [] [] (He.fAd K ("Teller", some "__init__")) fd
  d_Teller_first : ∃ fd, FunD K "first" "Teller.first" (defArgs s_Teller_first) (defBody s_Teller_first) (defScope s_Teller_first) [] [] (He.fAd K ("Teller", some "first")) fd
  d_Teller_past : ∃ fd, FunD K "past" "Teller.past" (defArgs s_Teller_past) (defBody s_Teller_past) (defScope s_Teller_past) [] [] (He.fAd K ("Teller", some "past")) fd
  d_Teller_holds : ∃ fd, FunD K "holds" "Teller.holds" (defArgs s_Teller_holds) (defBody s_Teller_holds) (defScope s_Teller_holds) [] [] (He.fAd K ("Teller", some "holds")) fd
  d_Teller_behind : ∃ fd, FunD K "behind" "Teller.behind" (defArgs s_Teller_behind) (defBody s_Teller_behind) (defScope s_Teller_behind) [] [] (He.fAd K ("Teller", some "behind")) fd
  d_Teller_keeps : ∃ fd, FunD K "keeps" "Teller.keeps" (defArgs s_Teller_keeps) (defBody s_Teller_keeps) (defScope s_Teller_keeps) [] [] (He.fAd K ("Teller", some "keeps")) fd
  d_Teller_loss : ∃ fd, FunD K "loss" "Teller.loss" (defArgs s_Teller_loss) (defBody s_Teller_loss) (defScope s_Teller_loss) [] [] (He.fAd K ("Teller", some "loss")) fd
  d_answers_to : ∃ fd, FunD K "answers_to" "answers_to" (defArgs s_answers_to) (defBody s_answers_to) (defScope s_answers_to) [] [] (He.fAd K ("answers_to", none)) fd
  d_game_of : ∃ fd, FunD K "game_of" "game_of" (defArgs s_game_of) (defBody s_game_of) (defScope s_game_of) [] [] (He.fAd K ("game_of", none)) fd
  d_game : ∃ fd, FunD K "game" "game" (defArgs s_game) (defBody s_game) (defScope s_game) [] [] (He.fAd K ("game", none)) fd
  d_is_breaking : ∃ fd, FunD K "is_breaking" "is_breaking" (defArgs s_is_breaking) (defBody s_is_breaking) (defScope s_is_breaking) [] [] (He.fAd K ("is_breaking", none)) fd
  d_ranks_of : ∃ fd, FunD K "ranks_of" "ranks_of" (defArgs s_ranks_of) (defBody s_ranks_of) (defScope s_ranks_of) [] [] (He.fAd K ("ranks_of", none)) fd
  d_lost_in : ∃ fd, FunD K "lost_in" "lost_in" (defArgs s_lost_in) (defBody s_lost_in) (defScope s_lost_in) [] [] (He.fAd K ("lost_in", none)) fd
  d_breaking_moves : ∃ fd, FunD K "breaking_moves" "breaking_moves" (defArgs s_breaking_moves) (defBody s_breaking_moves) (defScope s_breaking_moves) [] [] (He.fAd K ("breaking_moves", none)) fd
  d_l_cell_at : ∃ fd, FunD K "_law_cell_at" "_law_cell_at" (defArgs s_l_cell_at) (defBody s_l_cell_at) (defScope s_l_cell_at) [] [] (He.fAd K ("_law_cell_at", none)) fd
  d_l_mixed : ∃ fd, FunD K "_law_mixed" "_law_mixed" (defArgs s_l_mixed) (defBody s_l_mixed) (defScope s_l_mixed) [] [] (He.fAd K ("_law_mixed", none)) fd
  d_l_next : ∃ fd, FunD K "_law_next" "_law_next" (defArgs s_l_next) (defBody s_l_next) (defScope s_l_next) [] [] (He.fAd K ("_law_next", none)) fd
  d_l_names : ∃ fd, FunD K "_law_names" "_law_names" (defArgs s_l_names) (defBody s_l_names) (defScope s_l_names) [] [] (He.fAd K ("_law_names", none)) fd
  d_l_saying : ∃ fd, FunD K "_law_saying" "_law_saying" (defArgs s_l_saying) (defBody s_l_saying) (defScope s_l_saying) [] [] (He.fAd K ("_law_saying", none)) fd
  d_l_promise : ∃ fd, FunD K "_law_promise" "_law_promise" (defArgs s_l_promise) (defBody s_l_promise) (defScope s_l_promise) [] [] (He.fAd K ("_law_promise", none)) fd
  d_l_book : ∃ fd, FunD K "_law_book" "_law_book" (defArgs s_l_book) (defBody s_l_book) (defScope s_l_book) [] [] (He.fAd K ("_law_book", none)) fd
  d_l_ranks : ∃ fd, FunD K "_law_ranks" "_law_ranks" (defArgs s_l_ranks) (defBody s_l_ranks) (defScope s_l_ranks) [] [] (He.fAd K ("_law_ranks", none)) fd
  d_l_good : ∃ fd, FunD K "_law_good" "_law_good" (defArgs s_l_good) (defBody s_l_good) (defScope s_l_good) [] [] (He.fAd K ("_law_good", none)) fd
  d_law : ∃ fd, FunD K "law" "law" (defArgs s_law) (defBody s_law) (defScope s_law) [] [] (He.fAd K ("law", none)) fd
  g_Teller : mg "Teller" = some (.ref (He.ga K "Teller"))
  cl_Teller : Cls K (He.ga K "Teller")
  mk_Teller : Mk K (He.ga K "Teller") (He.fAd K ("Teller", some "__init__"))
  na_Teller_book : NoAttr K (He.ga K "Teller") "book"
  na_Teller_names : NoAttr K (He.ga K "Teller") "names"
  na_Teller_pieces : NoAttr K (He.ga K "Teller") "pieces"
  me_Teller_first : Meth K (He.ga K "Teller") "first" (He.fAd K ("Teller", some "first"))
  me_Teller_past : Meth K (He.ga K "Teller") "past" (He.fAd K ("Teller", some "past"))
  me_Teller_holds : Meth K (He.ga K "Teller") "holds" (He.fAd K ("Teller", some "holds"))
  me_Teller_behind : Meth K (He.ga K "Teller") "behind" (He.fAd K ("Teller", some "behind"))
  me_Teller_keeps : Meth K (He.ga K "Teller") "keeps" (He.fAd K ("Teller", some "keeps"))
  me_Teller_loss : Meth K (He.ga K "Teller") "loss" (He.fAd K ("Teller", some "loss"))
  c_DEPTH : ∃ t, mg "DEPTH" = some (.int 8 t)
  c_DOUBLE : ∃ a, mg "DOUBLE" = some (.ref a) ∧ KTup K a ((["and", "or", "then", "same", "since"] : List Str).map V.str)
  c_LETTERS : ∃ t, mg "LETTERS" = some (.str "abcdefghijklmnopqrstuvwxyz" t)
  c_PAST : ∃ a, mg "PAST" = some (.ref a) ∧ KTup K a ((["before", "once", "sofar", "since"] : List Str).map V.str)
  c_PIECES : ∃ t, mg "PIECES" = some (.int 4 t)
  c_PRICE : ∃ t, mg "PRICE" = some (.int 99 t)
  c_SINGLE : ∃ a, mg "SINGLE" = some (.ref a) ∧ KTup K a ((["not", "before", "once", "sofar"] : List Str).map V.str)
  c_WORDS : ∃ a, mg "WORDS" = some (.ref a) ∧ KTup K a ((["yes", "no", "not", "and", "or", "then", "same", "before", "once", "sofar", "since", "foe", "friend", "promise", "must", "wish"] : List Str).map V.str)
  e_NoBook : mg "NoBook" = some (.ref (He.ga K "NoBook"))
  q_NoBook : (He.Fa.exc "NoBook").ok K = true
section
variable {P : Program} {w : World} {K : PySem.W.Frag} {mg : Str → Option Value} {base : Heap}
theorem sc_is_whole : FnScope ["thing"] ["thing"] (defScope s_is_whole) := ⟨rfl, rfl, rfl, by decide +kernel, rfl, by decide +kernel, by decide +kernel⟩
theorem ok_is_whole (t : Tx K mg) : OkF P w K mg base "is_whole" 1 F_is_whole := by
  obtain ⟨fd, F⟩ := t.d_is_whole
  refine ⟨_, fd, ["thing"], fn_ok F sc_is_whole (by decide) (by decide) (fun cdv A outer s H E hr => ?_), t.g_is_whole, F.kp, F.bindsN fun _ _ _ _ _ _ us hl => match us, hl with | [_], _ => rfl⟩
  have hu := room_u hr
  exact (ss_cons (ss_ret (se_and (isi t.n_isinstance t.n_int (va 0)) (se_one (se_not (isi t.n_isinstance t.n_bool (va 0)))))) ss_nil)
theorem sc_between : FnScope ["thing", "low", "most"] ["thing", "low", "most"] (defScope s_between) := ⟨rfl, rfl, rfl, by decide +kernel, rfl, by decide +kernel, by decide +kernel⟩
theorem ok_between (t : Tx K mg) : OkF P w K mg base "between" 2 F_between := by
  obtain ⟨fd, F⟩ := t.d_between
  refine ⟨_, fd, ["thing", "low", "most"], fn_ok F sc_between (by decide) (by decide) (fun cdv A outer s H E hr => ?_), t.g_between, F.kp, F.bindsN fun _ _ _ _ _ _ us hl => match us, hl with | [_, _, _], _ => rfl⟩
  have hu := room_u hr
  exact (ss_cons (ss_ret (se_and (cf (ok_is_whole t) (hr.mono (by first | omega | decide)) (takes_of rfl rfl rfl rfl) (ac (va 0) an)) (se_one (chn (or_le) (or_le) (va 1) (va 0) (va 2))))) ss_nil)
theorem sc_is_name : FnScope ["thing", "sign"] ["thing"] (defScope s_is_name) := ⟨rfl, rfl, rfl, by decide +kernel, rfl, by decide +kernel, by decide +kernel⟩
theorem ok_is_name (t : Tx K mg) : OkF P w K mg base "is_name" 1 F_is_name := by
  obtain ⟨fd, F⟩ := t.d_is_name
  refine ⟨_, fd, ["thing"], fn_ok F sc_is_name (by decide) (by decide) (fun cdv A outer s H E hr => ?_), t.g_is_name, F.kp, F.bindsN fun _ _ _ _ _ _ us hl => match us, hl with | [_], _ => rfl⟩
  have hu := room_u hr
  exact (ss_cons (ss_if (sw_or (sb_not (tv (isi t.n_isinstance t.n_str (va 0)))) (sw_or (sb_not (chnB (or_le) (or_le) se_int (cb (cr_len) t.n_len (ac (va 0) an)) se_int)) (sw_or1 (cmB (or_in hu) (va 0) (gTup (zs := ["yes", "no", "not", "and", "or", "then", "same", "before", "once", "sofar", "since", "foe", "friend", "promise", "must", "wish"]) t.c_WORDS))))).sb (ss_cons (ss_ret se_bl) ss_nil) ss_nil) (ss_cons (ss_ret (cb (cr_allD rfl) t.n_all (ac (se_comp (own := [("sign", 1)]) rfl sc_is_name.nd (si_seq (va 0)) (blkOk_by (N := ["thing", "sign"]) (sc := defScope s_is_name) (by decide +kernel)) (fun _ _ _ _ _ => (gn (pin := notOwn 2 [1]) 1 sc_is_name.nd (by decide))) (fun _ _ _ _ _ => sc_nil) (fun _ _ _ _ _ => (cm (or_in hu) (va 1) (gStr t.c_LETTERS))) (by intro _; rfl)) an))) ss_nil))
theorem sc_is_saying : FnScope ["names", "thing", "most", "part"] ["names", "thing", "most"] (defScope s_is_saying) := ⟨rfl, rfl, rfl, by decide +kernel, rfl, by decide +kernel, by decide +kernel⟩
theorem okR_is_saying (t : Tx K mg) : ∀ n, OkF P w K mg base "is_saying" (0 + n) (R_is_saying n)
  | 0 => by
    obtain ⟨fd, F⟩ := t.d_is_saying
    exact ⟨_, fd, ["names", "thing", "most"], fn_bad (N := ["names", "thing", "most"]), t.g_is_saying, F.kp, F.bindsN fun _ _ _ _ _ _ us hl => match us, hl with | [_, _, _], _ => rfl⟩
  | n + 1 => by
    have ih := okR_is_saying t n
    exact by
      obtain ⟨fd, F⟩ := t.d_is_saying
      refine ⟨_, fd, ["names", "thing", "most"], fn_ok F sc_is_saying (by decide) (by decide) (fun cdv A outer s H E hr => ?_), t.g_is_saying, F.kp, F.bindsN fun _ _ _ _ _ _ us hl => match us, hl with | [_, _, _], _ => rfl⟩
      have hr : Room (0 + n) _ := hr
      have hu := room_u hr
      exact (ss_cons (ss_if (sw_or (cmB (or_eq (hu64 hu)) (va 2) se_int) (sw_or (sb_not (tv (isi t.n_isinstance t.n_tuple (va 1)))) (sw_or (cmB (or_eq (hu64 hu)) (cb (cr_len) t.n_len (ac (va 1) an)) se_int) (sw_or1 (sb_not (tv (isi t.n_isinstance t.n_str (ix (va 1) se_int)))))))).sb (ss_cons (ss_ret se_bl) ss_nil) ss_nil) (ss_cons (ss_if (cmB (or_eq (hu64 hu)) (ix (va 1) se_int) se_str) (ss_cons (ss_ret (se_and (cm (or_eq (hu64 hu)) (cb (cr_len) t.n_len (ac (va 1) an)) se_int) (se_and (isi t.n_isinstance t.n_str (ix (va 1) se_int)) (se_one (cm (or_in hu) (ix (va 1) se_int) (va 0)))))) ss_nil) ss_nil) (ss_cons (ss_if (sw_or (cmB (or_eq (hu64 hu)) (ix (va 1) se_int) se_str) (sw_or1 (cmB (or_eq (hu64 hu)) (ix (va 1) se_int) se_str))).sb (ss_cons (ss_ret (cm (or_eq (hu64 hu)) (cb (cr_len) t.n_len (ac (va 1) an)) se_int)) ss_nil) ss_nil) (ss_cons (ss_if (sw_and (cmB (or_notIn hu) (ix (va 1) se_int) (gTup (zs := ["not", "before", "once", "sofar"]) t.c_SINGLE)) (sw_and1 (cmB (or_notIn hu) (ix (va 1) se_int) (gTup (zs := ["and", "or", "then", "same", "since"]) t.c_DOUBLE)))).sb (ss_cons (ss_ret se_bl) ss_nil) ss_nil) (ss_cons (ss_if (cmB (or_ne (hu64 hu)) (cb (cr_len) t.n_len (ac (va 1) an)) (se_bin or_add se_int (ct (cr_int) t.n_int (ac (cm (or_in hu) (ix (va 1) se_int) (gTup (zs := ["and", "or", "then", "same", "since"]) t.c_DOUBLE)) an)))) (ss_cons (ss_ret se_bl) ss_nil) ss_nil) (ss_cons (ss_ret (cb (cr_allD rfl) t.n_all (ac (se_comp (own := [("part", 3)]) rfl sc_is_saying.nd (si_seq (sl (va 1) (so_some se_int) so_none)) (blkOk_by (N := ["names", "thing", "most", "part"]) (sc := defScope s_is_saying) (by decide +kernel)) (fun _ _ _ _ _ => (gn (pin := notOwn 4 [3]) 3 sc_is_saying.nd (by decide))) (fun _ _ _ _ _ => sc_nil) (fun _ _ _ _ _ => (cf ih (hr.mono (by first | omega | decide)) takes0 (ac (va 0) (ac (va 3) (ac (se_bin or_sub (va 2) se_int) an))))) (by intro _; rfl)) an))) ss_nil))))))
theorem ok_is_saying (t : Tx K mg) : OkF P w K mg base "is_saying" 24 F_is_saying := (okR_is_saying t 24)
theorem sc_parts_of : FnScope ["saying"] ["saying"] (defScope s_parts_of) := ⟨rfl, rfl, rfl, by decide +kernel, rfl, by decide +kernel, by decide +kernel⟩
theorem ok_parts_of (t : Tx K mg) : OkF P w K mg base "parts_of" 1 F_parts_of := by
  obtain ⟨fd, F⟩ := t.d_parts_of
  refine ⟨_, fd, ["saying"], fn_ok F sc_parts_of (by decide) (by decide) (fun cdv A outer s H E hr => ?_), t.g_parts_of, F.kp, F.bindsN fun _ _ _ _ _ _ us hl => match us, hl with | [_], _ => rfl⟩
  have hu := room_u hr
  exact (ss_cons (ss_if (cmB (or_eq (hu64 hu)) (ix (va 0) se_int) se_str) (ss_cons (ss_ret (se_tup an)) ss_nil) ss_nil) (ss_cons (ss_ret (sl (va 0) (so_some se_int) so_none)) ss_nil))
theorem sc_gathered : FnScope ["saying", "made", "part"] ["saying", "made"] (defScope s_gathered) := ⟨rfl, rfl, rfl, by decide +kernel, rfl, by decide +kernel, by decide +kernel⟩
theorem okR_gathered (t : Tx K mg) : ∀ n, OkF P w K mg base "gathered" (1 + n) (R_gathered n)
  | 0 => by
    obtain ⟨fd, F⟩ := t.d_gathered
    exact ⟨_, fd, ["saying", "made"], fn_bad (N := ["saying", "made"]), t.g_gathered, F.kp, F.bindsN fun _ _ _ _ _ _ us hl => match us, hl with | [_, _], _ => rfl⟩
  | n + 1 => by
    have ih := okR_gathered t n
    exact by
      obtain ⟨fd, F⟩ := t.d_gathered
      refine ⟨_, fd, ["saying", "made"], fn_ok F sc_gathered (by decide) (by decide) (fun cdv A outer s H E hr => ?_), t.g_gathered, F.kp, F.bindsN fun _ _ _ _ _ _ us hl => match us, hl with | [_, _], _ => rfl⟩
      have hr : Room (1 + n) _ := hr
      have hu := room_u hr
      exact (ss_cons (ss_if (sw_and (cmB (or_in hu) (ix (va 0) se_int) (gTup (zs := ["before", "once", "sofar", "since"]) t.c_PAST)) (sw_and1 (cmB (or_notIn hu) (va 0) (va 1)))).sb (ss_cons (ex (mApp (va 1) (ac (va 0) an))) ss_nil) ss_nil) (ss_cons (fr (pin' := [0, 1]) (passes_of rfl) (by decide) (by decide) (si_seq (cf (ok_parts_of t) (hr.mono (by first | omega | decide)) (takes_of rfl rfl rfl rfl) (ac (va 0) an))) (gn 2 sc_gathered.nd (by decide)) (ss_cons (ex (cf ih (hr.mono (by first | omega | decide)) (takes_of rfl rfl rfl rfl) (ac (va 2) (ac (va 1) an)))) ss_nil)) ss_nil))
theorem ok_gathered (t : Tx K mg) : OkF P w K mg base "gathered" 25 F_gathered := (okR_gathered t 24)
theorem sc_are_names : FnScope ["thing", "name"] ["thing"] (defScope s_are_names) := ⟨rfl, rfl, rfl, by decide +kernel, rfl, by decide +kernel, by decide +kernel⟩
theorem ok_are_names (t : Tx K mg) : OkF P w K mg base "are_names" 2 F_are_names := by
  obtain ⟨fd, F⟩ := t.d_are_names
  refine ⟨_, fd, ["thing"], fn_ok F sc_are_names (by decide) (by decide) (fun cdv A outer s H E hr => ?_), t.g_are_names, F.kp, F.bindsN fun _ _ _ _ _ _ us hl => match us, hl with | [_], _ => rfl⟩
  have hu := room_u hr
  exact (ss_cons (ss_ret (se_and (isi t.n_isinstance t.n_tuple (va 0)) (se_and (chn (or_le) (or_le) se_int (cb (cr_len) t.n_len (ac (va 0) an)) se_int) (se_one (cb (cr_allD rfl) t.n_all (ac (se_comp (own := [("name", 1)]) rfl sc_are_names.nd (si_seq (va 0)) (blkOk_by (N := ["thing", "name"]) (sc := defScope s_are_names) (by decide +kernel)) (fun _ _ _ _ _ => (gn (pin := notOwn 2 [1]) 1 sc_are_names.nd (by decide))) (fun _ _ _ _ _ => sc_nil) (fun _ _ _ _ _ => (cf (ok_is_name t) (hr.mono (by first | omega | decide)) takes0 (ac (va 1) an))) (by intro _; rfl)) an)))))) ss_nil)
theorem sc_stands_free : FnScope ["saying", "names", "part"] ["saying", "names"] (defScope s_stands_free) := ⟨rfl, rfl, rfl, by decide +kernel, rfl, by decide +kernel, by decide +kernel⟩
theorem okR_stands_free (t : Tx K mg) : ∀ n, OkF P w K mg base "stands_free" (1 + n) (R_stands_free n)
  | 0 => by
    obtain ⟨fd, F⟩ := t.d_stands_free
    exact ⟨_, fd, ["saying", "names"], fn_bad (N := ["saying", "names"]), t.g_stands_free, F.kp, F.bindsN fun _ _ _ _ _ _ us hl => match us, hl with | [_, _], _ => rfl⟩
  | n + 1 => by
    have ih := okR_stands_free t n
    exact by
      obtain ⟨fd, F⟩ := t.d_stands_free
      refine ⟨_, fd, ["saying", "names"], fn_ok F sc_stands_free (by decide) (by decide) (fun cdv A outer s H E hr => ?_), t.g_stands_free, F.kp, F.bindsN fun _ _ _ _ _ _ us hl => match us, hl with | [_, _], _ => rfl⟩
      have hr : Room (1 + n) _ := hr
      have hu := room_u hr
      exact (ss_cons (ss_if (cmB (or_eq (hu64 hu)) (ix (va 0) se_int) se_str) (ss_cons (ss_ret (cm (or_in hu) (ix (va 0) se_int) (va 1))) ss_nil) ss_nil) (ss_cons (ss_if (cmB (or_eq (hu64 hu)) (ix (va 0) se_int) se_str) (ss_cons (ss_ret se_bl) ss_nil) ss_nil) (ss_cons (ss_ret (cb (cr_anyD rfl) t.n_any (ac (se_comp (own := [("part", 2)]) rfl sc_stands_free.nd (si_seq (cf (ok_parts_of t) (hr.mono (by first | omega | decide)) (takes_of rfl rfl rfl rfl) (ac (va 0) an))) (blkOk_by (N := ["saying", "names", "part"]) (sc := defScope s_stands_free) (by decide +kernel)) (fun _ _ _ _ _ => (gn (pin := notOwn 3 [2]) 2 sc_stands_free.nd (by decide))) (fun _ _ _ _ _ => sc_nil) (fun _ _ _ _ _ => (cf ih (hr.mono (by first | omega | decide)) takes0 (ac (va 2) (ac (va 1) an)))) (by intro _; rfl)) an))) ss_nil)))
theorem ok_stands_free (t : Tx K mg) : OkF P w K mg base "stands_free" 25 F_stands_free := (okR_stands_free t 24)
theorem sc_are_sayings : FnScope ["thing", "names", "most", "saying"] ["thing", "names", "most"] (defScope s_are_sayings) := ⟨rfl, rfl, rfl, by decide +kernel, rfl, by decide +kernel, by decide +kernel⟩
theorem ok_are_sayings (t : Tx K mg) : OkF P w K mg base "are_sayings" 25 F_are_sayings := by
  obtain ⟨fd, F⟩ := t.d_are_sayings
  refine ⟨_, fd, ["thing", "names", "most"], fn_ok F sc_are_sayings (by decide) (by decide) (fun cdv A outer s H E hr => ?_), t.g_are_sayings, F.kp, F.bindsN fun _ _ _ _ _ _ us hl => match us, hl with | [_, _, _], _ => rfl⟩
  have hu := room_u hr
  exact (ss_cons (ss_if (sw_or (sb_not (tv (isi t.n_isinstance t.n_tuple (va 0)))) (sw_or1 (cmB (or_gt) (cb (cr_len) t.n_len (ac (va 0) an)) (va 2)))).sb (ss_cons (ss_ret se_bl) ss_nil) ss_nil) (ss_cons (ss_ret (cb (cr_allD rfl) t.n_all (ac (se_comp (own := [("saying", 3)]) rfl sc_are_sayings.nd (si_seq (va 0)) (blkOk_by (N := ["thing", "names", "most", "saying"]) (sc := defScope s_are_sayings) (by decide +kernel)) (fun _ _ _ _ _ => (gn (pin := notOwn 4 [3]) 3 sc_are_sayings.nd (by decide))) (fun _ _ _ _ _ => sc_nil) (fun _ _ _ _ _ => (cf (ok_is_saying t) (hr.mono (by first | omega | decide)) takes0 (ac (va 1) (ac (va 3) (ac (gInt t.c_DEPTH) an))))) (by intro _; rfl)) an))) ss_nil))
theorem sc_is_wish : FnScope ["thing", "names"] ["thing", "names"] (defScope s_is_wish) := ⟨rfl, rfl, rfl, by decide +kernel, rfl, by decide +kernel, by decide +kernel⟩
theorem ok_is_wish (t : Tx K mg) : OkF P w K mg base "is_wish" 25 F_is_wish := by
  obtain ⟨fd, F⟩ := t.d_is_wish
  refine ⟨_, fd, ["thing", "names"], fn_ok F sc_is_wish (by decide) (by decide) (fun cdv A outer s H E hr => ?_), t.g_is_wish, F.kp, F.bindsN fun _ _ _ _ _ _ us hl => match us, hl with | [_, _], _ => rfl⟩
  have hu := room_u hr
  exact (ss_cons (ss_if (sw_or (sb_not (tv (isi t.n_isinstance t.n_tuple (va 0)))) (sw_or1 (cmB (or_ne (hu64 hu)) (cb (cr_len) t.n_len (ac (va 0) an)) se_int))).sb (ss_cons (ss_ret se_bl) ss_nil) ss_nil) (ss_cons (ss_ret (se_and (cf (ok_between t) (hr.mono (by first | omega | decide)) (takes_of rfl rfl rfl rfl) (ac (ix (va 0) se_int) (ac se_int (ac (gInt t.c_PRICE) an)))) (se_one (cf (ok_is_saying t) (hr.mono (by first | omega | decide)) (takes_of rfl rfl rfl rfl) (ac (va 1) (ac (ix (va 0) se_int) (ac (gInt t.c_DEPTH) an))))))) ss_nil))
theorem sc_sayings_of : FnScope ["book", "wish"] ["book"] (defScope s_sayings_of) := ⟨rfl, rfl, rfl, by decide +kernel, rfl, by decide +kernel, by decide +kernel⟩
theorem ok_sayings_of (t : Tx K mg) : OkF P w K mg base "sayings_of" 1 F_sayings_of := by
  obtain ⟨fd, F⟩ := t.d_sayings_of
  refine ⟨_, fd, ["book"], fn_ok F sc_sayings_of (by decide) (by decide) (fun cdv A outer s H E hr => ?_), t.g_sayings_of, F.kp, F.bindsN fun _ _ _ _ _ _ us hl => match us, hl with | [_], _ => rfl⟩
  have hu := room_u hr
  exact (ss_cons (ss_ret (se_bin or_add (se_bin or_add (ix (va 0) se_int) (ix (va 0) se_int)) (ct (cr_tuple) t.n_tuple (ac (se_comp (own := [("wish", 1)]) rfl sc_sayings_of.nd (si_seq (ix (va 0) se_int)) (blkOk_by (N := ["book", "wish"]) (sc := defScope s_sayings_of) (by decide +kernel)) (fun _ _ _ _ _ => (gn (pin := notOwn 2 [1]) 1 sc_sayings_of.nd (by decide))) (fun _ _ _ _ _ => sc_nil) (fun _ _ _ _ _ => (ix (va 1) se_int)) (by intro _; rfl)) an)))) ss_nil)
theorem sc_pieces_of : FnScope ["book", "made", "saying"] ["book"] (defScope s_pieces_of) := ⟨rfl, rfl, rfl, by decide +kernel, rfl, by decide +kernel, by decide +kernel⟩
theorem ok_pieces_of (t : Tx K mg) : OkF P w K mg base "pieces_of" 26 F_pieces_of := by
  obtain ⟨fd, F⟩ := t.d_pieces_of
  refine ⟨_, fd, ["book"], fn_ok F sc_pieces_of (by decide) (by decide) (fun cdv A outer s H E hr => ?_), t.g_pieces_of, F.kp, F.bindsN fun _ _ _ _ _ _ us hl => match us, hl with | [_], _ => rfl⟩
  have hu := room_u hr
  exact (ss_cons (st sc_pieces_of.nd (by decide) (se_lst an)) (ss_cons (fr (pin' := [0]) (passes_of rfl) (by decide) (by decide) (si_seq (cf (ok_sayings_of t) (hr.mono (by first | omega | decide)) (takes_of rfl rfl rfl rfl) (ac (va 0) an))) (gn 2 sc_pieces_of.nd (by decide)) (ss_cons (ex (cf (ok_gathered t) (hr.mono (by first | omega | decide)) (takes_of rfl rfl rfl rfl) (ac (va 2) (ac (va 1) an)))) ss_nil)) (ss_cons (ss_ret (va 1)) ss_nil)))
theorem sc_is_book : FnScope ["thing", "names", "name", "wish", "saying"] ["thing"] (defScope s_is_book) := ⟨rfl, rfl, rfl, by decide +kernel, rfl, by decide +kernel, by decide +kernel⟩
theorem ok_is_book (t : Tx K mg) : OkF P w K mg base "is_book" 27 F_is_book := by
  obtain ⟨fd, F⟩ := t.d_is_book
  refine ⟨_, fd, ["thing"], fn_ok F sc_is_book (by decide) (by decide) (fun cdv A outer s H E hr => ?_), t.g_is_book, F.kp, F.bindsN fun _ _ _ _ _ _ us hl => match us, hl with | [_], _ => rfl⟩
  have hu := room_u hr
  exact (ss_cons (ss_if (sw_or (sb_not (tv (isi t.n_isinstance t.n_tuple (va 0)))) (sw_or (cmB (or_ne (hu64 hu)) (cb (cr_len) t.n_len (ac (va 0) an)) se_int) (sw_or (sb_not (tv (cf (ok_are_names t) (hr.mono (by first | omega | decide)) (takes_of rfl rfl rfl rfl) (ac (ix (va 0) se_int) an)))) (sw_or1 (sb_not (tv (cf (ok_are_names t) (hr.mono (by first | omega | decide)) (takes_of rfl rfl rfl rfl) (ac (ix (va 0) se_int) an)))))))).sb (ss_cons (ss_ret se_bl) ss_nil) ss_nil) (ss_cons (st sc_is_book.nd (by decide) (se_bin or_add (ix (va 0) se_int) (ix (va 0) se_int))) (ss_cons (ss_if (sb_not (tv (cb (cr_allD rfl) t.n_all (ac (se_comp (own := [("name", 2)]) rfl sc_is_book.nd (si_seq (va 1)) (blkOk_by (N := ["thing", "names", "name", "wish", "saying"]) (sc := defScope s_is_book) (by decide +kernel)) (fun _ _ _ _ _ => (gn (pin := notOwn 5 [2]) 2 sc_is_book.nd (by decide))) (fun _ _ _ _ _ => sc_nil) (fun _ _ _ _ _ => (cm (or_eq (hu64 hu)) (tCount (va 1) (ac (va 2) an)) se_int)) (by intro _; rfl)) an)))) (ss_cons (ss_ret se_bl) ss_nil) ss_nil) (ss_cons (ss_if (sw_or (sb_not (tv (cf (ok_are_sayings t) (hr.mono (by first | omega | decide)) (takes_of rfl rfl rfl rfl) (ac (ix (va 0) se_int) (ac (va 1) (ac se_int an)))))) (sw_or1 (sb_not (tv (cf (ok_are_sayings t) (hr.mono (by first | omega | decide)) (takes_of rfl rfl rfl rfl) (ac (ix (va 0) se_int) (ac (va 1) (ac se_int an)))))))).sb (ss_cons (ss_ret se_bl) ss_nil) ss_nil) (ss_cons (ss_if (sw_or (sb_not (tv (isi t.n_isinstance t.n_tuple (ix (va 0) se_int)))) (sw_or1 (sb_not (chnB (or_le) (or_le) se_int (cb (cr_len) t.n_len (ac (ix (va 0) se_int) an)) se_int)))).sb (ss_cons (ss_ret se_bl) ss_nil) ss_nil) (ss_cons (ss_if (sb_not (tv (cb (cr_allD rfl) t.n_all (ac (se_comp (own := [("wish", 3)]) rfl sc_is_book.nd (si_seq (ix (va 0) se_int)) (blkOk_by (N := ["thing", "names", "name", "wish", "saying"]) (sc := defScope s_is_book) (by decide +kernel)) (fun _ _ _ _ _ => (gn (pin := notOwn 5 [3]) 3 sc_is_book.nd (by decide))) (fun _ _ _ _ _ => sc_nil) (fun _ _ _ _ _ => (cf (ok_is_wish t) (hr.mono (by first | omega | decide)) takes0 (ac (va 3) (ac (va 1) an)))) (by intro _; rfl)) an)))) (ss_cons (ss_ret se_bl) ss_nil) ss_nil) (ss_cons (ss_if (tv (cb (cr_anyD rfl) t.n_any (ac (se_comp (own := [("saying", 4)]) rfl sc_is_book.nd (si_seq (ix (va 0) se_int)) (blkOk_by (N := ["thing", "names", "name", "wish", "saying"]) (sc := defScope s_is_book) (by decide +kernel)) (fun _ _ _ _ _ => (gn (pin := notOwn 5 [4]) 4 sc_is_book.nd (by decide))) (fun _ _ _ _ _ => sc_nil) (fun _ _ _ _ _ => (cf (ok_stands_free t) (hr.mono (by first | omega | decide)) takes0 (ac (va 4) (ac (ix (va 0) se_int) an)))) (by intro _; rfl)) an))) (ss_cons (ss_ret se_bl) ss_nil) ss_nil) (ss_cons (ss_ret (cm (or_le) (cb (cr_len) t.n_len (ac (cf (ok_pieces_of t) (hr.mono (by first | omega | decide)) (takes_of rfl rfl rfl rfl) (ac (va 0) an)) an)) (gInt t.c_PIECES))) ss_nil))))))))
theorem sc_checked : FnScope ["book"] ["book"] (defScope s_checked) := ⟨rfl, rfl, rfl, by decide +kernel, rfl, by decide +kernel, by decide +kernel⟩
theorem ok_checked (t : Tx K mg) : OkF P w K mg base "checked" 28 F_checked := by
  obtain ⟨fd, F⟩ := t.d_checked
  refine ⟨_, fd, ["book"], fn_ok F sc_checked (by decide) (by decide) (fun cdv A outer s H E hr => ?_), t.g_checked, F.kp, F.bindsN fun _ _ _ _ _ _ us hl => match us, hl with | [_], _ => rfl⟩
  have hu := room_u hr
  exact (ss_cons (ss_if (sb_not (tv (cf (ok_is_book t) (hr.mono (by first | omega | decide)) (takes_of rfl rfl rfl rfl) (ac (va 0) an)))) (ss_cons (ss_raise rfl (takes_of rfl rfl rfl rfl) t.q_NoBook t.e_NoBook rfl (by decide)) ss_nil) ss_nil) (ss_cons (ss_ret (va 0)) ss_nil))
theorem sc_settings_of : FnScope ["many", "made", "turn", "longer", "setting"] ["many"] (defScope s_settings_of) := ⟨rfl, rfl, rfl, by decide +kernel, rfl, by decide +kernel, by decide +kernel⟩
theorem ok_settings_of (t : Tx K mg) : OkF P w K mg base "settings_of" 1 F_settings_of := by
  obtain ⟨fd, F⟩ := t.d_settings_of
  refine ⟨_, fd, ["many"], fn_ok F sc_settings_of (by decide) (by decide) (fun cdv A outer s H E hr => ?_), t.g_settings_of, F.kp, F.bindsN fun _ _ _ _ _ _ us hl => match us, hl with | [_], _ => rfl⟩
  have hu := room_u hr
  exact (ss_cons (st sc_settings_of.nd (by decide) (se_lst (ac (se_tup an) an))) (ss_cons (fr (pin' := [0]) (passes_of rfl) (by decide) (by decide) (rg1 t.n_range (ac (va 0) an)) (gn 2 sc_settings_of.nd (by decide)) (ss_cons (st sc_settings_of.nd (by decide) (se_lst an)) (ss_cons (fr (pin' := [0, 1]) (passes_of rfl) (by decide) (by decide) (si_seq (va 1)) (gn 4 sc_settings_of.nd (by decide)) (ss_cons (ex (mExt (va 3) (ac (se_lst (ac (se_bin or_add (va 4) (se_tup (ac se_bl an))) (ac (se_bin or_add (va 4) (se_tup (ac se_bl an))) an))) an))) ss_nil)) (ss_cons (st sc_settings_of.nd (by decide) (va 3)) ss_nil)))) (ss_cons (ss_ret (va 1)) ss_nil)))
theorem sc_Teller___init__ : FnScope ["self", "book"] ["self", "book"] (defScope s_Teller___init__) := ⟨rfl, rfl, rfl, by decide +kernel, rfl, by decide +kernel, by decide +kernel⟩
theorem ok_Teller___init__ (t : Tx K mg) : OkC P w K mg base "Teller" 27 F_Teller___init__ := by
  obtain ⟨fd, F⟩ := t.d_Teller___init__
  refine ⟨_, fd, ["self", "book"], fn_ok F sc_Teller___init__ (by decide) (by decide) (fun cdv A outer s H E hr => ?_), t.mk_Teller, F.bindsN fun _ _ _ _ _ _ us hl => match us, hl with | [_, _], _ => rfl, t.g_Teller⟩
  have hu := room_u hr
  exact (ss_cons (ss_fset t.cl_Teller t.na_Teller_book (va 1)) (ss_cons (ss_fset t.cl_Teller t.na_Teller_names (se_bin or_add (ix (va 1) se_int) (ix (va 1) se_int))) (ss_cons (ss_fset t.cl_Teller t.na_Teller_pieces (cf (ok_pieces_of t) (hr.mono (by first | omega | decide)) (takes_of rfl rfl rfl rfl) (ac (va 1) an))) ss_nil)))
theorem sc_Teller_first : FnScope ["self", "piece"] ["self"] (defScope s_Teller_first) := ⟨rfl, rfl, rfl, by decide +kernel, rfl, by decide +kernel, by decide +kernel⟩
theorem ok_Teller_first (t : Tx K mg) : OkM P w K mg base "Teller" "first" 1 F_Teller_first := by
  obtain ⟨fd, F⟩ := t.d_Teller_first
  refine ⟨_, fd, ["self"], fn_ok F sc_Teller_first (by decide) (by decide) (fun cdv A outer s H E hr => ?_), t.me_Teller_first, F.bindsN fun _ _ _ _ _ _ us hl => match us, hl with | [_], _ => rfl⟩
  have hu := room_u hr
  exact (ss_cons (ss_ret (ct (cr_tuple) t.n_tuple (ac (se_comp (own := [("piece", 1)]) rfl sc_Teller_first.nd (si_seq (se_fld t.cl_Teller t.na_Teller_pieces (va 0))) (blkOk_by (N := ["self", "piece"]) (sc := defScope s_Teller_first) (by decide +kernel)) (fun _ _ _ _ _ => (gn (pin := notOwn 2 [1]) 1 sc_Teller_first.nd (by decide))) (fun _ _ _ _ _ => sc_nil) (fun _ _ _ _ _ => (cm (or_eq (hu64 hu)) (ix (va 1) se_int) se_str)) (by intro _; rfl)) an))) ss_nil)
theorem sc_Teller_past : FnScope ["self", "saying", "memory", "setting", "old", "here", "part"] ["self", "saying", "memory", "setting"] (defScope s_Teller_past) := ⟨rfl, rfl, rfl, by decide +kernel, rfl, by decide +kernel, by decide +kernel⟩
theorem sc_Teller_holds : FnScope ["self", "saying", "memory", "setting", "here", "part"] ["self", "saying", "memory", "setting"] (defScope s_Teller_holds) := ⟨rfl, rfl, rfl, by decide +kernel, rfl, by decide +kernel, by decide +kernel⟩
theorem okR_Teller_past (t : Tx K mg) : ∀ n, OkM P w K mg base "Teller" "past" (1 + n) (R_Teller_past n) ∧ OkM P w K mg base "Teller" "holds" (1 + n) (R_Teller_holds n)
  | 0 => ⟨(by
    obtain ⟨fd, F⟩ := t.d_Teller_past
    exact ⟨_, fd, ["self", "saying", "memory", "setting"], fn_bad (N := ["self", "saying", "memory", "setting"]), t.me_Teller_past, F.bindsN fun _ _ _ _ _ _ us hl => match us, hl with | [_, _, _, _], _ => rfl⟩), (by
    obtain ⟨fd, F⟩ := t.d_Teller_holds
    exact ⟨_, fd, ["self", "saying", "memory", "setting"], fn_bad (N := ["self", "saying", "memory", "setting"]), t.me_Teller_holds, F.bindsN fun _ _ _ _ _ _ us hl => match us, hl with | [_, _, _, _], _ => rfl⟩)⟩
  | n + 1 => by
    have ih := okR_Teller_past t n
    exact ⟨(by
      obtain ⟨fd, F⟩ := t.d_Teller_past
      refine ⟨_, fd, ["self", "saying", "memory", "setting"], fn_ok F sc_Teller_past (by decide) (by decide) (fun cdv A outer s H E hr => ?_), t.me_Teller_past, F.bindsN fun _ _ _ _ _ _ us hl => match us, hl with | [_, _, _, _], _ => rfl⟩
      have hr : Room (1 + n) _ := hr
      have hu := room_u hr
      exact (ss_cons (st sc_Teller_past.nd (by decide) (ix (va 2) (lIndex hu (se_fld t.cl_Teller t.na_Teller_pieces (va 0)) (ac (va 1) an)))) (ss_cons (ss_if (cmB (or_eq (hu64 hu)) (ix (va 1) se_int) se_str) (ss_cons (ss_ret (va 4)) ss_nil) ss_nil) (ss_cons (stLc (own := [("part", 6)]) sc_Teller_past.nd (by decide) (sw_true rfl rfl rfl (by decide +kernel)) (si_seq (cf (ok_parts_of t) (hr.mono (by first | omega | decide)) (takes_of rfl rfl rfl rfl) (ac (va 1) an))) (blkOk_by (N := ["self", "saying", "memory", "setting", "old", "here", "part"]) (sc := defScope s_Teller_past) (by decide +kernel)) (fun _ _ _ _ _ => (gn (pin := notOwn 7 [6]) 6 sc_Teller_past.nd (by decide))) (fun _ _ _ _ _ => sc_nil) (fun _ _ _ _ _ => (se_meth ih.2 t.cl_Teller (hr.mono (by first | omega | decide)) (va 0) (ac (va 6) (ac (va 2) (ac (va 3) an))))) (by intro _; rfl)) (ss_cons (ss_if (cmB (or_eq (hu64 hu)) (ix (va 1) se_int) se_str) (ss_cons (ss_ret (se_or (ix (va 5) se_int) (se_one (va 4)))) ss_nil) ss_nil) (ss_cons (ss_if (cmB (or_eq (hu64 hu)) (ix (va 1) se_int) se_str) (ss_cons (ss_ret (se_and (ix (va 5) se_int) (se_one (va 4)))) ss_nil) ss_nil) (ss_cons (ss_ret (se_or (ix (va 5) se_int) (se_one (se_and (ix (va 5) se_int) (se_one (va 4)))))) ss_nil))))))), (by
      obtain ⟨fd, F⟩ := t.d_Teller_holds
      refine ⟨_, fd, ["self", "saying", "memory", "setting"], fn_ok F sc_Teller_holds (by decide) (by decide) (fun cdv A outer s H E hr => ?_), t.me_Teller_holds, F.bindsN fun _ _ _ _ _ _ us hl => match us, hl with | [_, _, _, _], _ => rfl⟩
      have hr : Room (1 + n) _ := hr
      have hu := room_u hr
      exact (ss_cons (ss_if (cmB (or_eq (hu64 hu)) (ix (va 1) se_int) se_str) (ss_cons (ss_ret (ix (va 3) (tIndex (se_fld t.cl_Teller t.na_Teller_names (va 0)) (ac (ix (va 1) se_int) an)))) ss_nil) ss_nil) (ss_cons (ss_if (sw_or (cmB (or_eq (hu64 hu)) (ix (va 1) se_int) se_str) (sw_or1 (cmB (or_eq (hu64 hu)) (ix (va 1) se_int) se_str))).sb (ss_cons (ss_ret (cm (or_eq (hu64 hu)) (ix (va 1) se_int) se_str)) ss_nil) ss_nil) (ss_cons (ss_if (cmB (or_in hu) (ix (va 1) se_int) (se_tup (ac se_str (ac se_str (ac se_str (ac se_str an)))))) (ss_cons (ss_ret (se_meth ih.1 t.cl_Teller (hr.mono (by first | omega | decide)) (va 0) (ac (va 1) (ac (va 2) (ac (va 3) an))))) ss_nil) ss_nil) (ss_cons (stLc (own := [("part", 5)]) sc_Teller_holds.nd (by decide) (sw_true rfl rfl rfl (by decide +kernel)) (si_seq (cf (ok_parts_of t) (hr.mono (by first | omega | decide)) (takes_of rfl rfl rfl rfl) (ac (va 1) an))) (blkOk_by (N := ["self", "saying", "memory", "setting", "here", "part"]) (sc := defScope s_Teller_holds) (by decide +kernel)) (fun _ _ _ _ _ => (gn (pin := notOwn 6 [5]) 5 sc_Teller_holds.nd (by decide))) (fun _ _ _ _ _ => sc_nil) (fun _ _ _ _ _ => (se_meth ih.2 t.cl_Teller (hr.mono (by first | omega | decide)) (va 0) (ac (va 5) (ac (va 2) (ac (va 3) an))))) (by intro _; rfl)) (ss_cons (ss_if (cmB (or_eq (hu64 hu)) (ix (va 1) se_int) se_str) (ss_cons (ss_ret (se_not (ix (va 4) se_int))) ss_nil) ss_nil) (ss_cons (ss_if (cmB (or_eq (hu64 hu)) (ix (va 1) se_int) se_str) (ss_cons (ss_ret (se_and (ix (va 4) se_int) (se_one (ix (va 4) se_int)))) ss_nil) ss_nil) (ss_cons (ss_if (cmB (or_eq (hu64 hu)) (ix (va 1) se_int) se_str) (ss_cons (ss_ret (se_or (ix (va 4) se_int) (se_one (ix (va 4) se_int)))) ss_nil) ss_nil) (ss_cons (ss_if (cmB (or_eq (hu64 hu)) (ix (va 1) se_int) se_str) (ss_cons (ss_ret (se_or (ix (va 4) se_int) (se_one (se_not (ix (va 4) se_int))))) ss_nil) ss_nil) (ss_cons (ss_ret (cm (or_eq (hu64 hu)) (ix (va 4) se_int) (ix (va 4) se_int))) ss_nil))))))))))⟩
theorem ok_Teller_past (t : Tx K mg) : OkM P w K mg base "Teller" "past" 25 F_Teller_past := (okR_Teller_past t 24).1
theorem ok_Teller_holds (t : Tx K mg) : OkM P w K mg base "Teller" "holds" 25 F_Teller_holds := (okR_Teller_past t 24).2
theorem sc_Teller_behind : FnScope ["self", "memory", "setting", "made", "piece"] ["self", "memory", "setting"] (defScope s_Teller_behind) := ⟨rfl, rfl, rfl, by decide +kernel, rfl, by decide +kernel, by decide +kernel⟩
theorem ok_Teller_behind (t : Tx K mg) : OkM P w K mg base "Teller" "behind" 26 F_Teller_behind := by
  obtain ⟨fd, F⟩ := t.d_Teller_behind
  refine ⟨_, fd, ["self", "memory", "setting"], fn_ok F sc_Teller_behind (by decide) (by decide) (fun cdv A outer s H E hr => ?_), t.me_Teller_behind, F.bindsN fun _ _ _ _ _ _ us hl => match us, hl with | [_, _, _], _ => rfl⟩
  have hu := room_u hr
  exact (ss_cons (st sc_Teller_behind.nd (by decide) (se_lst an)) (ss_cons (fr (pin' := [0, 1, 2]) (passes_of rfl) (by decide) (by decide) (si_seq (se_fld t.cl_Teller t.na_Teller_pieces (va 0))) (gn 4 sc_Teller_behind.nd (by decide)) (ss_cons (ss_if (cmB (or_eq (hu64 hu)) (ix (va 4) se_int) se_str) (ss_cons (ex (mApp (va 3) (ac (se_meth (ok_Teller_holds t) t.cl_Teller (hr.mono (by first | omega | decide)) (va 0) (ac (ix (va 4) se_int) (ac (va 1) (ac (va 2) an)))) an))) ss_nil) (ss_cons (ex (mApp (va 3) (ac (se_meth (ok_Teller_holds t) t.cl_Teller (hr.mono (by first | omega | decide)) (va 0) (ac (va 4) (ac (va 1) (ac (va 2) an)))) an))) ss_nil)) ss_nil)) (ss_cons (ss_ret (ct (cr_tuple) t.n_tuple (ac (va 3) an))) ss_nil)))
theorem sc_Teller_keeps : FnScope ["self", "sayings", "memory", "setting", "saying"] ["self", "sayings", "memory", "setting"] (defScope s_Teller_keeps) := ⟨rfl, rfl, rfl, by decide +kernel, rfl, by decide +kernel, by decide +kernel⟩
theorem ok_Teller_keeps (t : Tx K mg) : OkM P w K mg base "Teller" "keeps" 26 F_Teller_keeps := by
  obtain ⟨fd, F⟩ := t.d_Teller_keeps
  refine ⟨_, fd, ["self", "sayings", "memory", "setting"], fn_ok F sc_Teller_keeps (by decide) (by decide) (fun cdv A outer s H E hr => ?_), t.me_Teller_keeps, F.bindsN fun _ _ _ _ _ _ us hl => match us, hl with | [_, _, _, _], _ => rfl⟩
  have hu := room_u hr
  exact (ss_cons (ss_ret (cb (cr_allD rfl) t.n_all (ac (se_comp (own := [("saying", 4)]) rfl sc_Teller_keeps.nd (si_seq (va 1)) (blkOk_by (N := ["self", "sayings", "memory", "setting", "saying"]) (sc := defScope s_Teller_keeps) (by decide +kernel)) (fun _ _ _ _ _ => (gn (pin := notOwn 5 [4]) 4 sc_Teller_keeps.nd (by decide))) (fun _ _ _ _ _ => sc_nil) (fun _ _ _ _ _ => (se_meth (ok_Teller_holds t) t.cl_Teller (hr.mono (by first | omega | decide)) (va 0) (ac (va 4) (ac (va 2) (ac (va 3) an))))) (by intro _; rfl)) an))) ss_nil)
theorem sc_Teller_loss : FnScope ["self", "memory", "setting", "price", "saying"] ["self", "memory", "setting"] (defScope s_Teller_loss) := ⟨rfl, rfl, rfl, by decide +kernel, rfl, by decide +kernel, by decide +kernel⟩
theorem ok_Teller_loss (t : Tx K mg) : OkM P w K mg base "Teller" "loss" 26 F_Teller_loss := by
  obtain ⟨fd, F⟩ := t.d_Teller_loss
  refine ⟨_, fd, ["self", "memory", "setting"], fn_ok F sc_Teller_loss (by decide) (by decide) (fun cdv A outer s H E hr => ?_), t.me_Teller_loss, F.bindsN fun _ _ _ _ _ _ us hl => match us, hl with | [_, _, _], _ => rfl⟩
  have hu := room_u hr
  exact (ss_cons (ss_ret (cb (cr_sumD rfl) t.n_sum (ac (se_comp (own := [("price", 3), ("saying", 4)]) rfl sc_Teller_loss.nd (si_seq (ix (se_fld t.cl_Teller t.na_Teller_book (va 0)) se_int)) (blkOk_by (N := ["self", "memory", "setting", "price", "saying"]) (sc := defScope s_Teller_loss) (by decide +kernel)) (fun _ _ _ _ _ => (gT (gc (gn (pin := notOwn 5 [3, 4]) 3 sc_Teller_loss.nd (by decide)) (gc (gn (pin := notOwn 5 [3, 4]) 4 sc_Teller_loss.nd (by decide)) sg_nil)))) (fun _ _ _ _ _ => (sc_one (sb_not (tv (se_meth (ok_Teller_holds t) t.cl_Teller (hr.mono (by first | omega | decide)) (va 0) (ac (va 4) (ac (va 1) (ac (va 2) an)))))))) (fun _ _ _ _ _ => (va 3)) (by intro _; rfl)) an))) ss_nil)
theorem sc_answers_to : FnScope ["teller", "memory", "foe", "made", "friend"] ["teller", "memory", "foe"] (defScope s_answers_to) := ⟨rfl, rfl, rfl, by decide +kernel, rfl, by decide +kernel, by decide +kernel⟩
theorem ok_answers_to (t : Tx K mg) : OkF P w K mg base "answers_to" 27 F_answers_to := by
  obtain ⟨fd, F⟩ := t.d_answers_to
  refine ⟨_, fd, ["teller", "memory", "foe"], fn_ok F sc_answers_to (by decide) (by decide) (fun cdv A outer s H E hr => ?_), t.g_answers_to, F.kp, F.bindsN fun _ _ _ _ _ _ us hl => match us, hl with | [_, _, _], _ => rfl⟩
  have hu := room_u hr
  exact (ss_cons (st sc_answers_to.nd (by decide) (se_lst an)) (ss_cons (fr (pin' := [0, 1, 2]) (passes_of rfl) (by decide) (by decide) (si_seq (cf (ok_settings_of t) (hr.mono (by first | omega | decide)) (takes_of rfl rfl rfl rfl) (ac (cb (cr_len) t.n_len (ac (ix (se_fld t.cl_Teller t.na_Teller_book (va 0)) se_int) an)) an))) (gn 4 sc_answers_to.nd (by decide)) (ss_cons (ss_if (tv (se_meth (ok_Teller_keeps t) t.cl_Teller (hr.mono (by first | omega | decide)) (va 0) (ac (ix (se_fld t.cl_Teller t.na_Teller_book (va 0)) se_int) (ac (va 1) (ac (se_bin or_add (va 2) (va 4)) an))))) (ss_cons (ex (mApp (va 3) (ac (se_tup (ac (va 4) (ac (se_meth (ok_Teller_loss t) t.cl_Teller (hr.mono (by first | omega | decide)) (va 0) (ac (va 1) (ac (se_bin or_add (va 2) (va 4)) an))) (ac (se_meth (ok_Teller_behind t) t.cl_Teller (hr.mono (by first | omega | decide)) (va 0) (ac (va 1) (ac (se_bin or_add (va 2) (va 4)) an))) an)))) an))) ss_nil) ss_nil) ss_nil)) (ss_cons (ss_ret (va 3)) ss_nil)))
theorem sc_game_of : FnScope ["book", "teller", "met", "row", "made", "memory", "moves", "foe", "answers", "friend", "loss", "behind"] ["book"] (defScope s_game_of) := ⟨rfl, rfl, rfl, by decide +kernel, rfl, by decide +kernel, by decide +kernel⟩
theorem ok_game_of (t : Tx K mg) : OkF P w K mg base "game_of" 29 F_game_of := by
  obtain ⟨fd, F⟩ := t.d_game_of
  refine ⟨_, fd, ["book"], fn_ok F sc_game_of (by decide) (by decide) (fun cdv A outer s H E hr => ?_), t.g_game_of, F.kp, F.bindsN fun _ _ _ _ _ _ us hl => match us, hl with | [_], _ => rfl⟩
  have hu := room_u hr
  exact (ss_cons (st sc_game_of.nd (by decide) (se_make (ok_Teller___init__ t) (hr.mono (by first | omega | decide)) (ac (va 0) an))) (ss_cons (st sc_game_of.nd (by decide) (se_disp1 hu (se_meth0 (ok_Teller_first t) t.cl_Teller (hr.mono (by first | omega | decide)) (va 1)) se_int)) (ss_cons (st sc_game_of.nd (by decide) (se_lst (ac (se_meth0 (ok_Teller_first t) t.cl_Teller (hr.mono (by first | omega | decide)) (va 1)) an))) (ss_cons (st sc_game_of.nd (by decide) (se_lst an)) (ss_cons (wh wN (passes_of rfl) (cmB (or_lt) (cb (cr_len) t.n_len (ac (va 4) an)) (cb (cr_len) t.n_len (ac (va 3) an))) (ss_cons (st sc_game_of.nd (by decide) (ix (va 3) (cb (cr_len) t.n_len (ac (va 4) an)))) (ss_cons (st sc_game_of.nd (by decide) (se_lst an)) (ss_cons (fr (pin' := [0]) (passes_of rfl) (by decide) (by decide) (si_seq (cf (ok_settings_of t) (hr.mono (by first | omega | decide)) (takes_of rfl rfl rfl rfl) (ac (cb (cr_len) t.n_len (ac (ix (va 0) se_int) an)) an))) (gn 7 sc_game_of.nd (by decide)) (ss_cons (ss_if (tv (se_meth (ok_Teller_keeps t) t.cl_Teller (hr.mono (by first | omega | decide)) (va 1) (ac (ix (va 0) se_int) (ac (va 5) (ac (se_bin or_add (va 7) (se_bin or_mul (se_tup (ac se_bl an)) (cb (cr_len) t.n_len (ac (ix (va 0) se_int) an)))) an))))) (ss_cons (st sc_game_of.nd (by decide) (se_lst an)) (ss_cons (fr (pin' := [0]) (passes_of rfl) (by decide) (by decide) (si_seq (cf (ok_answers_to t) (hr.mono (by first | omega | decide)) (takes_of rfl rfl rfl rfl) (ac (va 1) (ac (va 5) (ac (va 7) an))))) (gT (gc (gn 9 sc_game_of.nd (by decide)) (gc (gn 10 sc_game_of.nd (by decide)) (gc (gn 11 sc_game_of.nd (by decide)) sg_nil)))) (ss_cons (ss_if (cmB (or_notInT hu) (va 11) (va 2)) (ss_cons (siT hu (cb (cr_len) t.n_len (ac (va 3) an)) (va 2) (va 11)) (ss_cons (ex (mApp (va 3) (ac (va 11) an))) ss_nil)) ss_nil) (ss_cons (ex (mApp (va 8) (ac (se_tup (ac (va 9) (ac (va 10) (ac (ixT hu (va 2) (va 11)) an)))) an))) ss_nil))) (ss_cons (ex (mApp (va 6) (ac (se_tup (ac (va 7) (ac (ct (cr_tuple) t.n_tuple (ac (va 8) an)) an))) an))) ss_nil))) ss_nil) ss_nil)) (ss_cons (ex (mApp (va 4) (ac (se_tup (ac (va 5) (ac (ct (cr_tuple) t.n_tuple (ac (va 6) an)) an))) an))) ss_nil))))) (ss_cons (ss_ret (va 4)) ss_nil))))))
theorem sc_game : FnScope ["book"] ["book"] (defScope s_game) := ⟨rfl, rfl, rfl, by decide +kernel, rfl, by decide +kernel, by decide +kernel⟩
theorem ok_game (t : Tx K mg) : OkF P w K mg base "game" 30 F_game := by
  obtain ⟨fd, F⟩ := t.d_game
  refine ⟨_, fd, ["book"], fn_ok F sc_game (by decide) (by decide) (fun cdv A outer s H E hr => ?_), t.g_game, F.kp, F.bindsN fun _ _ _ _ _ _ us hl => match us, hl with | [_], _ => rfl⟩
  have hu := room_u hr
  exact (ss_cons (ss_ret (cf (ok_game_of t) (hr.mono (by first | omega | decide)) (takes_of rfl rfl rfl rfl) (ac (cf (ok_checked t) (hr.mono (by first | omega | decide)) (takes_of rfl rfl rfl rfl) (ac (va 0) an)) an))) ss_nil)
theorem sc_is_breaking : FnScope ["answers", "known", "friend", "loss", "node"] ["answers", "known"] (defScope s_is_breaking) := ⟨rfl, rfl, rfl, by decide +kernel, rfl, by decide +kernel, by decide +kernel⟩
theorem ok_is_breaking (t : Tx K mg) : OkF P w K mg base "is_breaking" 1 F_is_breaking := by
  obtain ⟨fd, F⟩ := t.d_is_breaking
  refine ⟨_, fd, ["answers", "known"], fn_ok F sc_is_breaking (by decide) (by decide) (fun cdv A outer s H E hr => ?_), t.g_is_breaking, F.kp, F.bindsN fun _ _ _ _ _ _ us hl => match us, hl with | [_, _], _ => rfl⟩
  have hu := room_u hr
  exact (ss_cons (ss_ret (cb (cr_allD rfl) t.n_all (ac (se_comp (own := [("friend", 2), ("loss", 3), ("node", 4)]) rfl sc_is_breaking.nd (si_seq (va 0)) (blkOk_by (N := ["answers", "known", "friend", "loss", "node"]) (sc := defScope s_is_breaking) (by decide +kernel)) (fun _ _ _ _ _ => (gT (gc (gn (pin := notOwn 5 [2, 3, 4]) 2 sc_is_breaking.nd (by decide)) (gc (gn (pin := notOwn 5 [2, 3, 4]) 3 sc_is_breaking.nd (by decide)) (gc (gn (pin := notOwn 5 [2, 3, 4]) 4 sc_is_breaking.nd (by decide)) sg_nil))))) (fun _ _ _ _ _ => sc_nil) (fun _ _ _ _ _ => (cm (or_isNotN) (ix (va 1) (va 4)) se_non)) (by intro _; rfl)) an))) ss_nil)
theorem sc_ranks_of : FnScope ["nodes", "found", "node", "moves", "turns", "before", "known", "k", "some", "rank", "foe", "answers"] ["nodes"] (defScope s_ranks_of) := ⟨rfl, rfl, rfl, by decide +kernel, rfl, by decide +kernel, by decide +kernel⟩
theorem ok_ranks_of (t : Tx K mg) : OkF P w K mg base "ranks_of" 2 F_ranks_of := by
  obtain ⟨fd, F⟩ := t.d_ranks_of
  refine ⟨_, fd, ["nodes"], fn_ok F sc_ranks_of (by decide) (by decide) (fun cdv A outer s H E hr => ?_), t.g_ranks_of, F.kp, F.bindsN fun _ _ _ _ _ _ us hl => match us, hl with | [_], _ => rfl⟩
  have hu := room_u hr
  exact (ss_cons (stLc (own := [("node", 2)]) sc_ranks_of.nd (by decide) (sw_true rfl rfl rfl (by decide +kernel)) (si_seq (va 0)) (blkOk_by (N := ["nodes", "found", "node", "moves", "turns", "before", "known", "k", "some", "rank", "foe", "answers"]) (sc := defScope s_ranks_of) (by decide +kernel)) (fun _ _ _ _ _ => (gn (pin := notOwn 12 [2]) 2 sc_ranks_of.nd (by decide))) (fun _ _ _ _ _ => sc_nil) (fun _ _ _ _ _ => se_non) (by intro _; rfl)) (ss_cons (stLc (own := [("node", 2)]) sc_ranks_of.nd (by decide) (sw_true rfl rfl rfl (by decide +kernel)) (si_seq (va 0)) (blkOk_by (N := ["nodes", "found", "node", "moves", "turns", "before", "known", "k", "some", "rank", "foe", "answers"]) (sc := defScope s_ranks_of) (by decide +kernel)) (fun _ _ _ _ _ => (gn (pin := notOwn 12 [2]) 2 sc_ranks_of.nd (by decide))) (fun _ _ _ _ _ => sc_nil) (fun _ _ _ _ _ => se_non) (by intro _; rfl)) (ss_cons (st sc_ranks_of.nd (by decide) se_int) (ss_cons (st sc_ranks_of.nd (by decide) (se_un (f := opNeg) un_negD se_int)) (ss_cons (wh wN (passes_of rfl) (cmB (or_ne (hu64 hu)) (va 5) (cb (cr_len) t.n_len (ac (se_comp (own := [("rank", 9)]) rfl sc_ranks_of.nd (si_seq (va 1)) (blkOk_by (N := ["nodes", "found", "node", "moves", "turns", "before", "known", "k", "some", "rank", "foe", "answers"]) (sc := defScope s_ranks_of) (by decide +kernel)) (fun _ _ _ _ _ => (gn (pin := notOwn 12 [9]) 9 sc_ranks_of.nd (by decide))) (fun _ _ _ _ _ => (sc_one (cmB (or_isNotN) (va 9) se_non))) (fun _ _ _ _ _ => (va 9)) (by intro _; rfl)) an))) (ss_cons (st sc_ranks_of.nd (by decide) (cb (cr_len) t.n_len (ac (se_comp (own := [("rank", 9)]) rfl sc_ranks_of.nd (si_seq (va 1)) (blkOk_by (N := ["nodes", "found", "node", "moves", "turns", "before", "known", "k", "some", "rank", "foe", "answers"]) (sc := defScope s_ranks_of) (by decide +kernel)) (fun _ _ _ _ _ => (gn (pin := notOwn 12 [9]) 9 sc_ranks_of.nd (by decide))) (fun _ _ _ _ _ => (sc_one (cmB (or_isNotN) (va 9) se_non))) (fun _ _ _ _ _ => (va 9)) (by intro _; rfl)) an))) (ss_cons (st sc_ranks_of.nd (by decide) (se_bin or_add (va 4) se_int)) (ss_cons (st sc_ranks_of.nd (by decide) (ct (cr_list) t.n_list (ac (va 1) an))) (ss_cons (fr (pin' := [0]) (passes_of rfl) (by decide) (by decide) (rg1 t.n_range (ac (cb (cr_len) t.n_len (ac (va 0) an)) an)) (gn 7 sc_ranks_of.nd (by decide)) (ss_cons (stLc (own := [("foe", 10), ("answers", 11)]) sc_ranks_of.nd (by decide) (sw_true rfl rfl rfl (by decide +kernel)) (si_seq (ix (ix (va 0) (va 7)) se_int)) (blkOk_by (N := ["nodes", "found", "node", "moves", "turns", "before", "known", "k", "some", "rank", "foe", "answers"]) (sc := defScope s_ranks_of) (by decide +kernel)) (fun _ _ _ _ _ => (gT (gc (gn (pin := notOwn 12 [10, 11]) 10 sc_ranks_of.nd (by decide)) (gc (gn (pin := notOwn 12 [10, 11]) 11 sc_ranks_of.nd (by decide)) sg_nil)))) (fun _ _ _ _ _ => (sc_one (tv (cf (ok_is_breaking t) (hr.mono (by first | omega | decide)) takes0 (ac (va 11) (ac (va 6) an)))))) (fun _ _ _ _ _ => (va 10)) (by intro _; rfl)) (ss_cons (ss_if (sw_and (cmB (or_isN) (ix (va 6) (va 7)) se_non) (sw_and1 (cmB (or_ne (hu64 hu)) (va 8) (se_lst an)))).sb (ss_cons (si' (va 4) (va 1) (va 7)) (ss_cons (si' (ix (va 8) se_int) (va 3) (va 7)) ss_nil)) ss_nil) ss_nil))) ss_nil))))) (ss_cons (ss_ret (se_tup (ac (va 1) (ac (va 3) an)))) ss_nil))))))
theorem sc_lost_in : FnScope ["book"] ["book"] (defScope s_lost_in) := ⟨rfl, rfl, rfl, by decide +kernel, rfl, by decide +kernel, by decide +kernel⟩
theorem ok_lost_in (t : Tx K mg) : OkF P w K mg base "lost_in" 30 F_lost_in := by
  obtain ⟨fd, F⟩ := t.d_lost_in
  refine ⟨_, fd, ["book"], fn_ok F sc_lost_in (by decide) (by decide) (fun cdv A outer s H E hr => ?_), t.g_lost_in, F.kp, F.bindsN fun _ _ _ _ _ _ us hl => match us, hl with | [_], _ => rfl⟩
  have hu := room_u hr
  exact (ss_cons (ss_ret (ix (cf (ok_ranks_of t) (hr.mono (by first | omega | decide)) (takes_of rfl rfl rfl rfl) (ac (cf (ok_game_of t) (hr.mono (by first | omega | decide)) (takes_of rfl rfl rfl rfl) (ac (cf (ok_checked t) (hr.mono (by first | omega | decide)) (takes_of rfl rfl rfl rfl) (ac (va 0) an)) an)) an)) se_int)) ss_nil)
theorem sc_breaking_moves : FnScope ["book"] ["book"] (defScope s_breaking_moves) := ⟨rfl, rfl, rfl, by decide +kernel, rfl, by decide +kernel, by decide +kernel⟩
theorem ok_breaking_moves (t : Tx K mg) : OkF P w K mg base "breaking_moves" 30 F_breaking_moves := by
  obtain ⟨fd, F⟩ := t.d_breaking_moves
  refine ⟨_, fd, ["book"], fn_ok F sc_breaking_moves (by decide) (by decide) (fun cdv A outer s H E hr => ?_), t.g_breaking_moves, F.kp, F.bindsN fun _ _ _ _ _ _ us hl => match us, hl with | [_], _ => rfl⟩
  have hu := room_u hr
  exact (ss_cons (ss_ret (ix (cf (ok_ranks_of t) (hr.mono (by first | omega | decide)) (takes_of rfl rfl rfl rfl) (ac (cf (ok_game_of t) (hr.mono (by first | omega | decide)) (takes_of rfl rfl rfl rfl) (ac (cf (ok_checked t) (hr.mono (by first | omega | decide)) (takes_of rfl rfl rfl rfl) (ac (va 0) an)) an)) an)) se_int)) ss_nil)
theorem sc_l_cell_at : FnScope ["_law_script", "_law_k"] ["_law_script", "_law_k"] (defScope s_l_cell_at) := ⟨rfl, rfl, rfl, by decide +kernel, rfl, by decide +kernel, by decide +kernel⟩
theorem ok_l_cell_at (t : Tx K mg) : OkF P w K mg base "_law_cell_at" 1 F_l_cell_at := by
  obtain ⟨fd, F⟩ := t.d_l_cell_at
  refine ⟨_, fd, ["_law_script", "_law_k"], fn_ok F sc_l_cell_at (by decide) (by decide) (fun cdv A outer s H E hr => ?_), t.g_l_cell_at, F.kp, F.bindsN fun _ _ _ _ _ _ us hl => match us, hl with | [_, _], _ => rfl⟩
  have hu := room_u hr
  exact (ss_cons (ss_if (cmB (or_lt) (va 1) (cb (cr_len) t.n_len (ac (va 0) an))) (ss_cons (ss_ret (ix (va 0) (va 1))) ss_nil) ss_nil) (ss_cons (ss_if (cmB (or_eq (hu64 hu)) (va 0) (se_lst an)) (ss_cons (ss_ret se_int) ss_nil) ss_nil) (ss_cons (ss_ret (se_bin or_add (se_bin or_mul (ix (va 0) (se_bin or_mod (va 1) (cb (cr_len) t.n_len (ac (va 0) an)))) se_int) (va 1))) ss_nil)))
theorem sc_l_mixed : FnScope ["_law_script", "_law_k", "_law_many", "_law_drawn"] ["_law_script", "_law_k", "_law_many"] (defScope s_l_mixed) := ⟨rfl, rfl, rfl, by decide +kernel, rfl, by decide +kernel, by decide +kernel⟩
theorem ok_l_mixed (t : Tx K mg) : OkF P w K mg base "_law_mixed" 2 F_l_mixed := by
  obtain ⟨fd, F⟩ := t.d_l_mixed
  refine ⟨_, fd, ["_law_script", "_law_k", "_law_many"], fn_ok F sc_l_mixed (by decide) (by decide) (fun cdv A outer s H E hr => ?_), t.g_l_mixed, F.kp, F.bindsN fun _ _ _ _ _ _ us hl => match us, hl with | [_, _, _], _ => rfl⟩
  have hu := room_u hr
  exact (ss_cons (st sc_l_mixed.nd (by decide) (se_bin or_mod (se_bin or_mul (se_bin or_add (se_bin or_add (cf (ok_l_cell_at t) (hr.mono (by first | omega | decide)) (takes_of rfl rfl rfl rfl) (ac (va 0) (ac (va 1) an))) (se_bin or_mul se_int (va 1))) se_int) se_int) se_int)) (ss_cons (ss_ret (se_bin or_mod (se_bin or_mod (se_bin or_add (se_bin or_add (se_bin or_mul (va 3) (va 3)) (se_bin or_mul se_int (va 3))) (va 1)) se_int) (va 2))) ss_nil))
theorem sc_l_next : FnScope ["_law_script", "_law_m", "_law_many"] ["_law_script", "_law_m", "_law_many"] (defScope s_l_next) := ⟨rfl, rfl, rfl, by decide +kernel, rfl, by decide +kernel, by decide +kernel⟩
theorem ok_l_next (t : Tx K mg) : OkF P w K mg base "_law_next" 3 F_l_next := by
  obtain ⟨fd, F⟩ := t.d_l_next
  refine ⟨_, fd, ["_law_script", "_law_m", "_law_many"], fn_ok F sc_l_next (by decide) (by decide) (fun cdv A outer s H E hr => ?_), t.g_l_next, F.kp, F.bindsN fun _ _ _ _ _ _ us hl => match us, hl with | [_, _, _], _ => rfl⟩
  have hu := room_u hr
  exact (ss_cons (si' (se_bin or_add (ix (va 1) se_int) se_int) (va 1) se_int) (ss_cons (ss_ret (cf (ok_l_mixed t) (hr.mono (by first | omega | decide)) (takes_of rfl rfl rfl rfl) (ac (va 0) (ac (ix (va 1) se_int) (ac (va 2) an))))) ss_nil))
theorem sc_l_names : FnScope ["_law_script", "_law_m", "_law_some", "_law_turn", "_law_row", "_law_foe", "_law_friend"] ["_law_script", "_law_m"] (defScope s_l_names) := ⟨rfl, rfl, rfl, by decide +kernel, rfl, by decide +kernel, by decide +kernel⟩
theorem ok_l_names (t : Tx K mg) : OkF P w K mg base "_law_names" 4 F_l_names := by
  obtain ⟨fd, F⟩ := t.d_l_names
  refine ⟨_, fd, ["_law_script", "_law_m"], fn_ok F sc_l_names (by decide) (by decide) (fun cdv A outer s H E hr => ?_), t.g_l_names, F.kp, F.bindsN fun _ _ _ _ _ _ us hl => match us, hl with | [_, _], _ => rfl⟩
  have hu := room_u hr
  exact (ss_cons (st sc_l_names.nd (by decide) (se_lst (ac se_str (ac se_str (ac se_str (ac se_str (ac se_str (ac se_str (ac se_str (ac se_str an)))))))))) (ss_cons (st sc_l_names.nd (by decide) (cf (ok_l_next t) (hr.mono (by first | omega | decide)) (takes_of rfl rfl rfl rfl) (ac (va 0) (ac (va 1) (ac se_int an))))) (ss_cons (st sc_l_names.nd (by decide) (se_bin or_add (sl (va 2) (so_some (va 3)) so_none) (sl (va 2) so_none (so_some (va 3))))) (ss_cons (st sc_l_names.nd (by decide) (se_bin or_add se_int (cf (ok_l_next t) (hr.mono (by first | omega | decide)) (takes_of rfl rfl rfl rfl) (ac (va 0) (ac (va 1) (ac se_int an)))))) (ss_cons (st sc_l_names.nd (by decide) (se_bin or_add se_int (cf (ok_l_next t) (hr.mono (by first | omega | decide)) (takes_of rfl rfl rfl rfl) (ac (va 0) (ac (va 1) (ac se_int an)))))) (ss_cons (ss_ret (se_tup (ac (ct (cr_tuple) t.n_tuple (ac (sl (va 4) so_none (so_some (va 5))) an)) (ac (ct (cr_tuple) t.n_tuple (ac (sl (va 4) (so_some (va 5)) (so_some (se_bin or_add (va 5) (va 6)))) an)) an)))) ss_nil))))))
theorem sc_l_saying : FnScope ["_law_script", "_law_m", "_law_names_here", "_law_deep", "_law_left", "_law_way", "_law_one"] ["_law_script", "_law_m", "_law_names_here", "_law_deep", "_law_left"] (defScope s_l_saying) := ⟨rfl, rfl, rfl, by decide +kernel, rfl, by decide +kernel, by decide +kernel⟩
theorem okR_l_saying (t : Tx K mg) : ∀ n, OkF P w K mg base "_law_saying" (3 + n) (R_l_saying n)
  | 0 => by
    obtain ⟨fd, F⟩ := t.d_l_saying
    exact ⟨_, fd, ["_law_script", "_law_m", "_law_names_here", "_law_deep", "_law_left"], fn_bad (N := ["_law_script", "_law_m", "_law_names_here", "_law_deep", "_law_left"]), t.g_l_saying, F.kp, F.bindsN fun _ _ _ _ _ _ us hl => match us, hl with | [_, _, _, _, _], _ => rfl⟩
  | n + 1 => by
    have ih := okR_l_saying t n
    exact by
      obtain ⟨fd, F⟩ := t.d_l_saying
      refine ⟨_, fd, ["_law_script", "_law_m", "_law_names_here", "_law_deep", "_law_left"], fn_ok F sc_l_saying (by decide) (by decide) (fun cdv A outer s H E hr => ?_), t.g_l_saying, F.kp, F.bindsN fun _ _ _ _ _ _ us hl => match us, hl with | [_, _, _, _, _], _ => rfl⟩
      have hr : Room (3 + n) _ := hr
      have hu := room_u hr
      exact (ss_cons (st sc_l_saying.nd (by decide) (cf (ok_l_next t) (hr.mono (by first | omega | decide)) (takes_of rfl rfl rfl rfl) (ac (va 0) (ac (va 1) (ac se_int an))))) (ss_cons (ss_if (sw_or (cmB (or_eq (hu64 hu)) (va 3) se_int) (sw_or1 (cmB (or_lt) (va 5) se_int))).sb (ss_cons (ss_ret (se_tup (ac se_str (ac (ix (va 2) (cf (ok_l_next t) (hr.mono (by first | omega | decide)) (takes_of rfl rfl rfl rfl) (ac (va 0) (ac (va 1) (ac (cb (cr_len) t.n_len (ac (va 2) an)) an))))) an)))) ss_nil) ss_nil) (ss_cons (ss_if (cmB (or_eq (hu64 hu)) (va 5) se_int) (ss_cons (ss_ret (se_tup (ac (ix (se_lst (ac se_str (ac se_str an))) (cf (ok_l_next t) (hr.mono (by first | omega | decide)) (takes_of rfl rfl rfl rfl) (ac (va 0) (ac (va 1) (ac se_int an))))) an))) ss_nil) ss_nil) (ss_cons (ss_if (sw_and (cmB (or_gt) (va 5) se_int) (sw_and1 (cmB (or_gt) (ix (va 4) se_int) se_int))).sb (ss_cons (si' (se_bin or_sub (ix (va 4) se_int) se_int) (va 4) se_int) (ss_cons (st sc_l_saying.nd (by decide) (cf ih (hr.mono (by first | omega | decide)) (takes_of rfl rfl rfl rfl) (ac (va 0) (ac (va 1) (ac (va 2) (ac (se_bin or_sub (va 3) se_int) (ac (va 4) an))))))) (ss_cons (ss_if (cmB (or_eq (hu64 hu)) (va 5) se_int) (ss_cons (ss_ret (se_tup (ac se_str (ac (va 6) (ac (cf ih (hr.mono (by first | omega | decide)) (takes_of rfl rfl rfl rfl) (ac (va 0) (ac (va 1) (ac (va 2) (ac (se_bin or_sub (va 3) se_int) (ac (va 4) an)))))) an))))) ss_nil) ss_nil) (ss_cons (ss_ret (se_tup (ac (ix (se_lst (ac se_str (ac se_str (ac se_str an)))) (se_bin or_sub (va 5) se_int)) (ac (va 6) an)))) ss_nil)))) ss_nil) (ss_cons (st sc_l_saying.nd (by decide) (cf ih (hr.mono (by first | omega | decide)) (takes_of rfl rfl rfl rfl) (ac (va 0) (ac (va 1) (ac (va 2) (ac (se_bin or_sub (va 3) se_int) (ac (va 4) an))))))) (ss_cons (ss_if (sw_or (cmB (or_eq (hu64 hu)) (va 5) se_int) (sw_or1 (cmB (or_gt) (va 5) se_int))).sb (ss_cons (ss_ret (se_tup (ac se_str (ac (va 6) an)))) ss_nil) ss_nil) (ss_cons (ss_ret (se_tup (ac (ix (se_lst (ac se_str (ac se_str (ac se_str (ac se_str an))))) (se_bin or_sub (va 5) se_int)) (ac (va 6) (ac (cf ih (hr.mono (by first | omega | decide)) (takes_of rfl rfl rfl rfl) (ac (va 0) (ac (va 1) (ac (va 2) (ac (se_bin or_sub (va 3) se_int) (ac (va 4) an)))))) an))))) ss_nil)))))))
theorem ok_l_saying (t : Tx K mg) : OkF P w K mg base "_law_saying" 27 F_l_saying := (okR_l_saying t 24)
theorem sc_l_promise : FnScope ["_law_script", "_law_m", "_law_foe", "_law_names_here", "_law_left", "_law_one", "_law_other"] ["_law_script", "_law_m", "_law_foe", "_law_names_here", "_law_left"] (defScope s_l_promise) := ⟨rfl, rfl, rfl, by decide +kernel, rfl, by decide +kernel, by decide +kernel⟩
theorem ok_l_promise (t : Tx K mg) : OkF P w K mg base "_law_promise" 28 F_l_promise := by
  obtain ⟨fd, F⟩ := t.d_l_promise
  refine ⟨_, fd, ["_law_script", "_law_m", "_law_foe", "_law_names_here", "_law_left"], fn_ok F sc_l_promise (by decide) (by decide) (fun cdv A outer s H E hr => ?_), t.g_l_promise, F.kp, F.bindsN fun _ _ _ _ _ _ us hl => match us, hl with | [_, _, _, _, _], _ => rfl⟩
  have hu := room_u hr
  exact (ss_cons (st sc_l_promise.nd (by decide) (cf (ok_l_saying t) (hr.mono (by first | omega | decide)) (takes_of rfl rfl rfl rfl) (ac (va 0) (ac (va 1) (ac (va 2) (ac se_int (ac (se_lst (ac se_int an)) an))))))) (ss_cons (ss_if (sw_and (cmB (or_gt) (ix (va 4) se_int) se_int) (sw_and1 (cmB (or_eq (hu64 hu)) (cf (ok_l_next t) (hr.mono (by first | omega | decide)) (takes_of rfl rfl rfl rfl) (ac (va 0) (ac (va 1) (ac se_int an)))) se_int))).sb (ss_cons (si' (se_bin or_sub (ix (va 4) se_int) se_int) (va 4) se_int) (ss_cons (st sc_l_promise.nd (by decide) (cf (ok_l_saying t) (hr.mono (by first | omega | decide)) (takes_of rfl rfl rfl rfl) (ac (va 0) (ac (va 1) (ac (va 3) (ac se_int (ac (se_lst (ac se_int an)) an))))))) (ss_cons (ss_ret (se_tup (ac (ix (se_lst (ac se_str (ac se_str (ac se_str an)))) (cf (ok_l_next t) (hr.mono (by first | omega | decide)) (takes_of rfl rfl rfl rfl) (ac (va 0) (ac (va 1) (ac se_int an))))) (ac (se_tup (ac se_str (ac (va 6) an))) (ac (va 5) an))))) ss_nil))) ss_nil) (ss_cons (ss_ret (va 5)) ss_nil)))
theorem sc_l_book : FnScope ["_law_script", "_law_at", "_law_pieces", "_law_musts", "_law_m", "_law_foe", "_law_friend", "_law_names_here", "_law_left", "_law_wishes", "_law_k", "_law_price", "_law_some", "_law_known"] ["_law_script", "_law_at", "_law_pieces", "_law_musts"] (defScope s_l_book) := ⟨rfl, rfl, rfl, by decide +kernel, rfl, by decide +kernel, by decide +kernel⟩
theorem ok_l_book (t : Tx K mg) : OkF P w K mg base "_law_book" 29 F_l_book := by
  obtain ⟨fd, F⟩ := t.d_l_book
  refine ⟨_, fd, ["_law_script", "_law_at", "_law_pieces", "_law_musts"], fn_ok F sc_l_book (by decide) (by decide) (fun cdv A outer s H E hr => ?_), t.g_l_book, F.kp, F.bindsN fun _ _ _ _ _ _ us hl => match us, hl with | [_, _, _, _], _ => rfl⟩
  have hu := room_u hr
  exact (ss_cons (st sc_l_book.nd (by decide) (se_lst (ac (va 1) an))) (ss_cons (sg (cf (ok_l_names t) (hr.mono (by first | omega | decide)) (takes_of rfl rfl rfl rfl) (ac (va 0) (ac (va 4) an))) (gT (gc (gn 5 sc_l_book.nd (by decide)) (gc (gn 6 sc_l_book.nd (by decide)) sg_nil)))) (ss_cons (st sc_l_book.nd (by decide) (se_bin or_add (va 5) (va 6))) (ss_cons (st sc_l_book.nd (by decide) (se_lst (ac (cf (ok_l_next t) (hr.mono (by first | omega | decide)) (takes_of rfl rfl rfl rfl) (ac (va 0) (ac (va 4) (ac (se_bin or_add (va 2) se_int) an)))) an))) (ss_cons (st sc_l_book.nd (by decide) (se_lst an)) (ss_cons (fr (pin' := [0, 1, 2, 3]) (passes_of rfl) (by decide) (by decide) (rg1 t.n_range (ac (se_bin or_add se_int (cf (ok_l_next t) (hr.mono (by first | omega | decide)) (takes_of rfl rfl rfl rfl) (ac (va 0) (ac (va 4) (ac se_int an))))) an)) (gn 10 sc_l_book.nd (by decide)) (ss_cons (st sc_l_book.nd (by decide) (se_bin or_add se_int (cf (ok_l_next t) (hr.mono (by first | omega | decide)) (takes_of rfl rfl rfl rfl) (ac (va 0) (ac (va 4) (ac (ix (se_lst (ac se_int (ac se_int (ac se_int an)))) (cf (ok_l_next t) (hr.mono (by first | omega | decide)) (takes_of rfl rfl rfl rfl) (ac (va 0) (ac (va 4) (ac se_int an))))) an)))))) (ss_cons (ex (mApp (va 9) (ac (se_tup (ac (va 11) (ac (cf (ok_l_saying t) (hr.mono (by first | omega | decide)) (takes_of rfl rfl rfl rfl) (ac (va 0) (ac (va 4) (ac (va 7) (ac se_int (ac (va 8) an)))))) an))) an))) ss_nil))) (ss_cons (stLc (own := [("_law_k", 10)]) sc_l_book.nd (by decide) (sw_true rfl rfl rfl (by decide +kernel)) (rg1 t.n_range (ac (cf (ok_l_next t) (hr.mono (by first | omega | decide)) (takes_of rfl rfl rfl rfl) (ac (va 0) (ac (va 4) (ac (se_bin or_add (va 3) se_int) an)))) an)) (blkOk_by (N := ["_law_script", "_law_at", "_law_pieces", "_law_musts", "_law_m", "_law_foe", "_law_friend", "_law_names_here", "_law_left", "_law_wishes", "_law_k", "_law_price", "_law_some", "_law_known"]) (sc := defScope s_l_book) (by decide +kernel)) (fun _ _ _ _ _ => (gn (pin := notOwn 14 [10]) 10 sc_l_book.nd (by decide))) (fun _ _ _ _ _ => sc_nil) (fun _ _ _ _ _ => (cf (ok_l_saying t) (hr.mono (by first | omega | decide)) takes0 (ac (va 0) (ac (va 4) (ac (va 7) (ac se_int (ac (va 8) an))))))) (by intro _; rfl)) (ss_cons (stLc (own := [("_law_k", 10)]) sc_l_book.nd (by decide) (sw_true rfl rfl rfl (by decide +kernel)) (rg1 t.n_range (ac (cf (ok_l_next t) (hr.mono (by first | omega | decide)) (takes_of rfl rfl rfl rfl) (ac (va 0) (ac (va 4) (ac se_int an)))) an)) (blkOk_by (N := ["_law_script", "_law_at", "_law_pieces", "_law_musts", "_law_m", "_law_foe", "_law_friend", "_law_names_here", "_law_left", "_law_wishes", "_law_k", "_law_price", "_law_some", "_law_known"]) (sc := defScope s_l_book) (by decide +kernel)) (fun _ _ _ _ _ => (gn (pin := notOwn 14 [10]) 10 sc_l_book.nd (by decide))) (fun _ _ _ _ _ => sc_nil) (fun _ _ _ _ _ => (cf (ok_l_promise t) (hr.mono (by first | omega | decide)) takes0 (ac (va 0) (ac (va 4) (ac (va 5) (ac (va 7) (ac (va 8) an))))))) (by intro _; rfl)) (ss_cons (ss_ret (se_tup (ac (va 5) (ac (va 6) (ac (ct (cr_tuple) t.n_tuple (ac (va 13) an)) (ac (ct (cr_tuple) t.n_tuple (ac (va 12) an)) (ac (ct (cr_tuple) t.n_tuple (ac (va 9) an)) an))))))) ss_nil)))))))))
theorem sc_l_ranks : FnScope ["_law_nodes", "_law_ranks_here", "_law_node", "_law_turn", "_law_known", "_law_k", "_law_foe", "_law_answers", "_law_answer"] ["_law_nodes"] (defScope s_l_ranks) := ⟨rfl, rfl, rfl, by decide +kernel, rfl, by decide +kernel, by decide +kernel⟩
theorem ok_l_ranks (t : Tx K mg) : OkF P w K mg base "_law_ranks" 1 F_l_ranks := by
  obtain ⟨fd, F⟩ := t.d_l_ranks
  refine ⟨_, fd, ["_law_nodes"], fn_ok F sc_l_ranks (by decide) (by decide) (fun cdv A outer s H E hr => ?_), t.g_l_ranks, F.kp, F.bindsN fun _ _ _ _ _ _ us hl => match us, hl with | [_], _ => rfl⟩
  have hu := room_u hr
  exact (ss_cons (stLc (own := [("_law_node", 2)]) sc_l_ranks.nd (by decide) (sw_true rfl rfl rfl (by decide +kernel)) (si_seq (va 0)) (blkOk_by (N := ["_law_nodes", "_law_ranks_here", "_law_node", "_law_turn", "_law_known", "_law_k", "_law_foe", "_law_answers", "_law_answer"]) (sc := defScope s_l_ranks) (by decide +kernel)) (fun _ _ _ _ _ => (gn (pin := notOwn 9 [2]) 2 sc_l_ranks.nd (by decide))) (fun _ _ _ _ _ => sc_nil) (fun _ _ _ _ _ => se_non) (by intro _; rfl)) (ss_cons (fr (pin' := [0]) (passes_of rfl) (by decide) (by decide) (rg2 t.n_range (ac se_int (ac (se_bin or_add (cb (cr_len) t.n_len (ac (va 0) an)) se_int) an))) (gn 3 sc_l_ranks.nd (by decide)) (ss_cons (st sc_l_ranks.nd (by decide) (ct (cr_list) t.n_list (ac (va 1) an))) (ss_cons (fr (pin' := [0]) (passes_of rfl) (by decide) (by decide) (rg1 t.n_range (ac (cb (cr_len) t.n_len (ac (va 0) an)) an)) (gn 5 sc_l_ranks.nd (by decide)) (ss_cons (fr (pin' := [0]) (passes_of rfl) (by decide) (by decide) (si_seq (ix (ix (va 0) (va 5)) se_int)) (gT (gc (gn 6 sc_l_ranks.nd (by decide)) (gc (gn 7 sc_l_ranks.nd (by decide)) sg_nil))) (ss_cons (ss_if (sw_and (cmB (or_isN) (ix (va 4) (va 5)) se_non) (sw_and1 (cmB (or_eq (hu64 hu)) (se_comp (own := [("_law_answer", 8)]) rfl sc_l_ranks.nd (si_seq (va 7)) (blkOk_by (N := ["_law_nodes", "_law_ranks_here", "_law_node", "_law_turn", "_law_known", "_law_k", "_law_foe", "_law_answers", "_law_answer"]) (sc := defScope s_l_ranks) (by decide +kernel)) (fun _ _ _ _ _ => (gn (pin := notOwn 9 [8]) 8 sc_l_ranks.nd (by decide))) (fun _ _ _ _ _ => (sc_one (cmB (or_isN) (ix (va 4) (ix (va 8) se_int)) se_non))) (fun _ _ _ _ _ => (va 8)) (by intro _; rfl)) (se_lst an)))).sb (ss_cons (si' (va 3) (va 1) (va 5)) ss_nil) ss_nil) ss_nil)) ss_nil)) ss_nil))) (ss_cons (ss_ret (va 1)) ss_nil)))
theorem sc_l_good : FnScope ["_law_nodes", "_law_ranks_here", "_law_found", "_law_k", "_law_moves", "_law_foe", "_law_answers", "_law_answer"] ["_law_nodes"] (defScope s_l_good) := ⟨rfl, rfl, rfl, by decide +kernel, rfl, by decide +kernel, by decide +kernel⟩
theorem ok_l_good (t : Tx K mg) : OkF P w K mg base "_law_good" 2 F_l_good := by
  obtain ⟨fd, F⟩ := t.d_l_good
  refine ⟨_, fd, ["_law_nodes"], fn_ok F sc_l_good (by decide) (by decide) (fun cdv A outer s H E hr => ?_), t.g_l_good, F.kp, F.bindsN fun _ _ _ _ _ _ us hl => match us, hl with | [_], _ => rfl⟩
  have hu := room_u hr
  exact (ss_cons (st sc_l_good.nd (by decide) (cf (ok_l_ranks t) (hr.mono (by first | omega | decide)) (takes_of rfl rfl rfl rfl) (ac (va 0) an))) (ss_cons (st sc_l_good.nd (by decide) (se_lst an)) (ss_cons (fr (pin' := [0]) (passes_of rfl) (by decide) (by decide) (rg1 t.n_range (ac (cb (cr_len) t.n_len (ac (va 0) an)) an)) (gn 3 sc_l_good.nd (by decide)) (ss_cons (st sc_l_good.nd (by decide) (se_lst an)) (ss_cons (fr (pin' := [0]) (passes_of rfl) (by decide) (by decide) (si_seq (ix (ix (va 0) (va 3)) se_int)) (gT (gc (gn 5 sc_l_good.nd (by decide)) (gc (gn 6 sc_l_good.nd (by decide)) sg_nil))) (ss_cons (ex (mApp (va 4) (ac (se_tup (ac (va 5) (ac (se_comp (own := [("_law_answer", 7)]) rfl sc_l_good.nd (si_seq (va 6)) (blkOk_by (N := ["_law_nodes", "_law_ranks_here", "_law_found", "_law_k", "_law_moves", "_law_foe", "_law_answers", "_law_answer"]) (sc := defScope s_l_good) (by decide +kernel)) (fun _ _ _ _ _ => (gn (pin := notOwn 8 [7]) 7 sc_l_good.nd (by decide))) (fun _ _ _ _ _ => (sc_one (cmB (or_isN) (ix (va 1) (ix (va 7) se_int)) se_non))) (fun _ _ _ _ _ => (va 7)) (by intro _; rfl)) an))) an))) ss_nil)) (ss_cons (ex (mApp (va 2) (ac (ix (se_lst (ac (va 4) (ac se_non an))) (ct (cr_int) t.n_int (ac (cm (or_isNotN) (ix (va 1) (va 3)) se_non) an))) an))) ss_nil)))) (ss_cons (ss_ret (va 2)) ss_nil))))
theorem sc_law : FnScope ["_law_script", "_law_book_here", "_law_nodes", "_law_ranks_here", "_law_due", "_law_k", "_law_some", "_law_foe", "_law_answers", "_law_friend", "_law_loss", "_law_node", "_law_answer"] ["_law_script"] (defScope s_law) := ⟨rfl, rfl, rfl, by decide +kernel, rfl, by decide +kernel, by decide +kernel⟩
theorem fn_law (t : Tx K mg) {fd : FuncData} (F : FunD K "law" "law" (defArgs s_law) (defBody s_law) (defScope s_law) [] [] (He.fAd K ("law", none)) fd) : FnOk P w K mg base CX0 31 (He.fAd K ("law", none)) fd ["_law_script"] (spF K fun ts => noE (F_law_k10 ts)) := by
  refine fn_ok0 F sc_law (by decide) (by decide) (fun cdv A outer s H E hr => ?_)
  have hu := room_u hr
  exact (ss_cons (st sc_law.nd (by decide) (cf (ok_l_book t) (hr.mono (by first | omega | decide)) takes0 (ac (va 0) (ac se_int (ac se_int (ac se_int an)))))) (ss_cons (st sc_law.nd (by decide) (cf (ok_game t) (hr.mono (by first | omega | decide)) takes0 (ac (va 1) an))) (ss_cons (st sc_law.nd (by decide) (cf (ok_l_ranks t) (hr.mono (by first | omega | decide)) takes0 (ac (va 2) an))) (ss_cons (ss_if (cmB (or_ne (hu64 hu)) (cf (ok_lost_in t) (hr.mono (by first | omega | decide)) takes0 (ac (va 1) an)) (va 3)) (ss_cons (ss_ret se_bl) ss_nil) ss_nil) (ss_cons (st sc_law.nd (by decide) (se_lst an)) (ss_cons (fr (pin' := [0]) (passes_of rfl) (by decide) (by decide) (rg1 t.n_range (ac (cb (cr_len) t.n_len (ac (va 2) an)) an)) (gn 5 sc_law.nd (by decide)) (ss_cons (st sc_law.nd (by decide) (se_lst (ac se_non an))) (ss_cons (ss_if (cmB (or_isNotN) (ix (va 3) (va 5)) se_non) (ss_cons (st sc_law.nd (by decide) (se_lst an)) (ss_cons (fr (pin' := [0]) (passes_of rfl) (by decide) (by decide) (si_seq (ix (ix (va 2) (va 5)) se_int)) (gT (gc (gn 7 sc_law.nd (by decide)) (gc (gn 8 sc_law.nd (by decide)) sg_nil))) (ss_cons (ss_if (cmB (or_eq (hu64 hu)) (se_comp (own := [("_law_friend", 9), ("_law_loss", 10), ("_law_node", 11)]) rfl sc_law.nd (si_seq (va 8)) (blkOk_by (N := ["_law_script", "_law_book_here", "_law_nodes", "_law_ranks_here", "_law_due", "_law_k", "_law_some", "_law_foe", "_law_answers", "_law_friend", "_law_loss", "_law_node", "_law_answer"]) (sc := defScope s_law) (by decide +kernel)) (fun _ _ _ _ _ => (gT (gc (gn (pin := notOwn 13 [9, 10, 11]) 9 sc_law.nd (by decide)) (gc (gn (pin := notOwn 13 [9, 10, 11]) 10 sc_law.nd (by decide)) (gc (gn (pin := notOwn 13 [9, 10, 11]) 11 sc_law.nd (by decide)) sg_nil))))) (fun _ _ _ _ _ => (sc_one (sw_or (cmB (or_isN) (ix (va 3) (va 11)) se_non) (sw_or1 (cmB (or_ge) (ix (va 3) (va 11)) (ix (va 3) (va 5))))).sb)) (fun _ _ _ _ _ => (va 11)) (by intro _; rfl)) (se_lst an)) (ss_cons (ex (mApp (va 6) (ac (va 7) an))) ss_nil) ss_nil) ss_nil)) ss_nil)) ss_nil) (ss_cons (ex (mApp (va 4) (ac (ix (va 6) se_int) an))) ss_nil)))) (ss_cons (st sc_law.nd (by decide) (cf (ok_breaking_moves t) (hr.mono (by first | omega | decide)) takes0 (ac (va 1) an))) (ss_cons (ss_ret (se_and (isi t.n_isinstance t.n_list (va 12)) (se_one (cm (or_eq (hu64 hu)) (va 12) (va 4))))) ss_nil))))))))
end
def dd_is_whole : He.DefD := ⟨("is_whole", none), "is_whole", "is_whole", defArgs s_is_whole, defBody s_is_whole, defScope s_is_whole, [], []⟩
def dd_between : He.DefD := ⟨("between", none), "between", "between", defArgs s_between, defBody s_between, defScope s_between, [], []⟩
def dd_is_name : He.DefD := ⟨("is_name", none), "is_name", "is_name", defArgs s_is_name, defBody s_is_name, defScope s_is_name, [], []⟩
def dd_is_saying : He.DefD := ⟨("is_saying", none), "is_saying", "is_saying", defArgs s_is_saying, defBody s_is_saying, defScope s_is_saying, [], []⟩
def dd_parts_of : He.DefD := ⟨("parts_of", none), "parts_of", "parts_of", defArgs s_parts_of, defBody s_parts_of, defScope s_parts_of, [], []⟩
def dd_gathered : He.DefD := ⟨("gathered", none), "gathered", "gathered", defArgs s_gathered, defBody s_gathered, defScope s_gathered, [], []⟩
def dd_are_names : He.DefD := ⟨("are_names", none), "are_names", "are_names", defArgs s_are_names, defBody s_are_names, defScope s_are_names, [], []⟩
def dd_stands_free : He.DefD := ⟨("stands_free", none), "stands_free", "stands_free", defArgs s_stands_free, defBody s_stands_free, defScope s_stands_free, [], []⟩
def dd_are_sayings : He.DefD := ⟨("are_sayings", none), "are_sayings", "are_sayings", defArgs s_are_sayings, defBody s_are_sayings, defScope s_are_sayings, [], []⟩
def dd_is_wish : He.DefD := ⟨("is_wish", none), "is_wish", "is_wish", defArgs s_is_wish, defBody s_is_wish, defScope s_is_wish, [], []⟩
def dd_sayings_of : He.DefD := ⟨("sayings_of", none), "sayings_of", "sayings_of", defArgs s_sayings_of, defBody s_sayings_of, defScope s_sayings_of, [], []⟩
def dd_pieces_of : He.DefD := ⟨("pieces_of", none), "pieces_of", "pieces_of", defArgs s_pieces_of, defBody s_pieces_of, defScope s_pieces_of, [], []⟩
def dd_is_book : He.DefD := ⟨("is_book", none), "is_book", "is_book", defArgs s_is_book, defBody s_is_book, defScope s_is_book, [], []⟩
def dd_checked : He.DefD := ⟨("checked", none), "checked", "checked", defArgs s_checked, defBody s_checked, defScope s_checked, [], []⟩
def dd_settings_of : He.DefD := ⟨("settings_of", none), "settings_of", "settings_of", defArgs s_settings_of, defBody s_settings_of, defScope s_settings_of, [], []⟩
def dd_Teller___init__ : He.DefD := ⟨("Teller", some "__init__"), "__init__", "Teller.__init__", defArgs s_Teller___init__, defBody s_Teller___init__, defScope s_Teller___init__, [], []⟩
def dd_Teller_first : He.DefD := ⟨("Teller", some "first"), "first", "Teller.first", defArgs s_Teller_first, defBody s_Teller_first, defScope s_Teller_first, [], []⟩
def dd_Teller_past : He.DefD := ⟨("Teller", some "past"), "past", "Teller.past", defArgs s_Teller_past, defBody s_Teller_past, defScope s_Teller_past, [], []⟩
def dd_Teller_holds : He.DefD := ⟨("Teller", some "holds"), "holds", "Teller.holds", defArgs s_Teller_holds, defBody s_Teller_holds, defScope s_Teller_holds, [], []⟩
def dd_Teller_behind : He.DefD := ⟨("Teller", some "behind"), "behind", "Teller.behind", defArgs s_Teller_behind, defBody s_Teller_behind, defScope s_Teller_behind, [], []⟩
def dd_Teller_keeps : He.DefD := ⟨("Teller", some "keeps"), "keeps", "Teller.keeps", defArgs s_Teller_keeps, defBody s_Teller_keeps, defScope s_Teller_keeps, [], []⟩
def dd_Teller_loss : He.DefD := ⟨("Teller", some "loss"), "loss", "Teller.loss", defArgs s_Teller_loss, defBody s_Teller_loss, defScope s_Teller_loss, [], []⟩
def dd_answers_to : He.DefD := ⟨("answers_to", none), "answers_to", "answers_to", defArgs s_answers_to, defBody s_answers_to, defScope s_answers_to, [], []⟩
def dd_game_of : He.DefD := ⟨("game_of", none), "game_of", "game_of", defArgs s_game_of, defBody s_game_of, defScope s_game_of, [], []⟩
def dd_game : He.DefD := ⟨("game", none), "game", "game", defArgs s_game, defBody s_game, defScope s_game, [], []⟩
def dd_is_breaking : He.DefD := ⟨("is_breaking", none), "is_breaking", "is_breaking", defArgs s_is_breaking, defBody s_is_breaking, defScope s_is_breaking, [], []⟩
def dd_ranks_of : He.DefD := ⟨("ranks_of", none), "ranks_of", "ranks_of", defArgs s_ranks_of, defBody s_ranks_of, defScope s_ranks_of, [], []⟩
def dd_lost_in : He.DefD := ⟨("lost_in", none), "lost_in", "lost_in", defArgs s_lost_in, defBody s_lost_in, defScope s_lost_in, [], []⟩
def dd_breaking_moves : He.DefD := ⟨("breaking_moves", none), "breaking_moves", "breaking_moves", defArgs s_breaking_moves, defBody s_breaking_moves, defScope s_breaking_moves, [], []⟩
def dd_l_cell_at : He.DefD := ⟨("_law_cell_at", none), "_law_cell_at", "_law_cell_at", defArgs s_l_cell_at, defBody s_l_cell_at, defScope s_l_cell_at, [], []⟩
def dd_l_mixed : He.DefD := ⟨("_law_mixed", none), "_law_mixed", "_law_mixed", defArgs s_l_mixed, defBody s_l_mixed, defScope s_l_mixed, [], []⟩
def dd_l_next : He.DefD := ⟨("_law_next", none), "_law_next", "_law_next", defArgs s_l_next, defBody s_l_next, defScope s_l_next, [], []⟩
def dd_l_names : He.DefD := ⟨("_law_names", none), "_law_names", "_law_names", defArgs s_l_names, defBody s_l_names, defScope s_l_names, [], []⟩
def dd_l_saying : He.DefD := ⟨("_law_saying", none), "_law_saying", "_law_saying", defArgs s_l_saying, defBody s_l_saying, defScope s_l_saying, [], []⟩
def dd_l_promise : He.DefD := ⟨("_law_promise", none), "_law_promise", "_law_promise", defArgs s_l_promise, defBody s_l_promise, defScope s_l_promise, [], []⟩
def dd_l_book : He.DefD := ⟨("_law_book", none), "_law_book", "_law_book", defArgs s_l_book, defBody s_l_book, defScope s_l_book, [], []⟩
def dd_l_ranks : He.DefD := ⟨("_law_ranks", none), "_law_ranks", "_law_ranks", defArgs s_l_ranks, defBody s_l_ranks, defScope s_l_ranks, [], []⟩
def dd_l_good : He.DefD := ⟨("_law_good", none), "_law_good", "_law_good", defArgs s_l_good, defBody s_l_good, defScope s_l_good, [], []⟩
def dd_law : He.DefD := ⟨("law", none), "law", "law", defArgs s_law, defBody s_law, defScope s_law, [], []⟩
def fnL : List He.DefD := [dd_is_whole, dd_between, dd_is_name, dd_is_saying, dd_parts_of, dd_gathered, dd_are_names, dd_stands_free, dd_are_sayings, dd_is_wish, dd_sayings_of, dd_pieces_of, dd_is_book, dd_checked, dd_settings_of, dd_Teller___init__, dd_Teller_first, dd_Teller_past, dd_Teller_holds, dd_Teller_behind, dd_Teller_keeps, dd_Teller_loss, dd_answers_to, dd_game_of, dd_game, dd_is_breaking, dd_ranks_of, dd_lost_in, dd_breaking_moves, dd_l_cell_at, dd_l_mixed, dd_l_next, dd_l_names, dd_l_saying, dd_l_promise, dd_l_book, dd_l_ranks, dd_l_good, dd_law]
def faL : List He.Fa := [.free "all", .free "any", .free "bool", .free "int", .free "isinstance", .free "len", .free "list", .free "range", .free "str", .free "sum", .free "tuple", .glo "is_whole", .glo "between", .glo "is_name", .glo "is_saying", .glo "parts_of", .glo "gathered", .glo "are_names", .glo "stands_free", .glo "are_sayings", .glo "is_wish", .glo "sayings_of", .glo "pieces_of", .glo "is_book", .glo "checked", .glo "settings_of", .glo "answers_to", .glo "game_of", .glo "game", .glo "is_breaking", .glo "ranks_of", .glo "lost_in", .glo "breaking_moves", .glo "_law_cell_at", .glo "_law_mixed", .glo "_law_next", .glo "_law_names", .glo "_law_saying", .glo "_law_promise", .glo "_law_book", .glo "_law_ranks", .glo "_law_good", .glo "law", .glo "Teller", .cls "Teller", .mkr "Teller", .noat "Teller" "book", .noat "Teller" "names", .noat "Teller" "pieces", .meth "Teller" "first", .meth "Teller" "past", .meth "Teller" "holds", .meth "Teller" "behind", .meth "Teller" "keeps", .meth "Teller" "loss", .int "DEPTH" 8, .glo "DOUBLE", .str "LETTERS" "abcdefghijklmnopqrstuvwxyz", .glo "PAST", .int "PIECES" 4, .int "PRICE" 99, .glo "SINGLE", .glo "WORDS", .glo "NoBook", .exc "NoBook"]
def tbL : List (Str × List Str) := [("DOUBLE", ["and", "or", "then", "same", "since"]), ("PAST", ["before", "once", "sofar", "since"]), ("SINGLE", ["not", "before", "once", "sofar"]), ("WORDS", ["yes", "no", "not", "and", "or", "then", "same", "before", "once", "sofar", "since", "foe", "friend", "promise", "must", "wish"])]
def exaL (K : PySem.W.Frag) : Bool := exB tbL K && true
def loose0 : List Str := ["is_whole", "between", "is_name", "is_saying", "parts_of", "gathered", "are_names", "stands_free", "are_sayings", "is_wish", "sayings_of", "pieces_of", "is_book", "checked", "settings_of", "answers_to", "game_of", "game", "is_breaking", "ranks_of", "lost_in", "breaking_moves", "_law_cell_at", "_law_mixed", "_law_next", "_law_names", "_law_saying", "_law_promise", "_law_book", "_law_ranks"]
def loose1 : List Str := ["_law_good", "LossError", "NoBook", "Teller", "WORDS", "SINGLE", "DOUBLE", "PAST", "LETTERS", "DEPTH", "PIECES", "PRICE"]
def looseL : List Str := loose0 ++ loose1
abbrev RR : PySem.W.OpenRow := PySem.W.OpenLaw.row LW
abbrev hkL : PySem.W.Hook := He.hookX 5 faL fnL [] [] exaL
def obL (s : PySem.W.SharedT) : He.AlX := He.obsX 5 faL fnL [] [] exaL (HandSHeadRun.getT s)
theorem obL_eq (s : PySem.W.SharedT) : obL s = hkL.obs s.abs := He.obsX_eq (HandSHeadRun.getT_eq s)
theorem runL (w : World) : HandSHeadRun.RunEq RR (PySem.W.view RR.prog [48]) hkL obL 3000 looseL w := by
  intro os
  kernel_rfl
theorem tx_of {w : World} {K : PySem.W.Frag} {h : Heap} {mg : Str → Option Value} (X : K.In h) (G : h.Ns mainGlobals mg) (c : He.SaysX faL fnL [] [] exaL w h K) : Tx K mg where
  n_all := He.free_ok X G (c.t.d.fact 0 (f := .free "all") rfl)
  n_any := He.free_ok X G (c.t.d.fact 1 (f := .free "any") rfl)
  n_bool := He.free_ok X G (c.t.d.fact 2 (f := .free "bool") rfl)
  n_int := He.free_ok X G (c.t.d.fact 3 (f := .free "int") rfl)
  n_isinstance := He.free_ok X G (c.t.d.fact 4 (f := .free "isinstance") rfl)
  n_len := He.free_ok X G (c.t.d.fact 5 (f := .free "len") rfl)
  n_list := He.free_ok X G (c.t.d.fact 6 (f := .free "list") rfl)
  n_range := He.free_ok X G (c.t.d.fact 7 (f := .free "range") rfl)
  n_str := He.free_ok X G (c.t.d.fact 8 (f := .free "str") rfl)
  n_sum := He.free_ok X G (c.t.d.fact 9 (f := .free "sum") rfl)
  n_tuple := He.free_ok X G (c.t.d.fact 10 (f := .free "tuple") rfl)
  g_is_whole := He.glo_ok X G (c.t.d.fact 11 (f := .glo "is_whole") rfl)
  g_between := He.glo_ok X G (c.t.d.fact 12 (f := .glo "between") rfl)
  g_is_name := He.glo_ok X G (c.t.d.fact 13 (f := .glo "is_name") rfl)
  g_is_saying := He.glo_ok X G (c.t.d.fact 14 (f := .glo "is_saying") rfl)
  g_parts_of := He.glo_ok X G (c.t.d.fact 15 (f := .glo "parts_of") rfl)
  g_gathered := He.glo_ok X G (c.t.d.fact 16 (f := .glo "gathered") rfl)
  g_are_names := He.glo_ok X G (c.t.d.fact 17 (f := .glo "are_names") rfl)
  g_stands_free := He.glo_ok X G (c.t.d.fact 18 (f := .glo "stands_free") rfl)
  g_are_sayings := He.glo_ok X G (c.t.d.fact 19 (f := .glo "are_sayings") rfl)
  g_is_wish := He.glo_ok X G (c.t.d.fact 20 (f := .glo "is_wish") rfl)
  g_sayings_of := He.glo_ok X G (c.t.d.fact 21 (f := .glo "sayings_of") rfl)
  g_pieces_of := He.glo_ok X G (c.t.d.fact 22 (f := .glo "pieces_of") rfl)
  g_is_book := He.glo_ok X G (c.t.d.fact 23 (f := .glo "is_book") rfl)
  g_checked := He.glo_ok X G (c.t.d.fact 24 (f := .glo "checked") rfl)
  g_settings_of := He.glo_ok X G (c.t.d.fact 25 (f := .glo "settings_of") rfl)
  g_answers_to := He.glo_ok X G (c.t.d.fact 26 (f := .glo "answers_to") rfl)
  g_game_of := He.glo_ok X G (c.t.d.fact 27 (f := .glo "game_of") rfl)
  g_game := He.glo_ok X G (c.t.d.fact 28 (f := .glo "game") rfl)
  g_is_breaking := He.glo_ok X G (c.t.d.fact 29 (f := .glo "is_breaking") rfl)
  g_ranks_of := He.glo_ok X G (c.t.d.fact 30 (f := .glo "ranks_of") rfl)
  g_lost_in := He.glo_ok X G (c.t.d.fact 31 (f := .glo "lost_in") rfl)
  g_breaking_moves := He.glo_ok X G (c.t.d.fact 32 (f := .glo "breaking_moves") rfl)
  g_l_cell_at := He.glo_ok X G (c.t.d.fact 33 (f := .glo "_law_cell_at") rfl)
  g_l_mixed := He.glo_ok X G (c.t.d.fact 34 (f := .glo "_law_mixed") rfl)
  g_l_next := He.glo_ok X G (c.t.d.fact 35 (f := .glo "_law_next") rfl)
  g_l_names := He.glo_ok X G (c.t.d.fact 36 (f := .glo "_law_names") rfl)
  g_l_saying := He.glo_ok X G (c.t.d.fact 37 (f := .glo "_law_saying") rfl)
  g_l_promise := He.glo_ok X G (c.t.d.fact 38 (f := .glo "_law_promise") rfl)
  g_l_book := He.glo_ok X G (c.t.d.fact 39 (f := .glo "_law_book") rfl)
  g_l_ranks := He.glo_ok X G (c.t.d.fact 40 (f := .glo "_law_ranks") rfl)
  g_l_good := He.glo_ok X G (c.t.d.fact 41 (f := .glo "_law_good") rfl)
  g_law := He.glo_ok X G (c.t.d.fact 42 (f := .glo "law") rfl)
  d_is_whole := c.t.d.def_ 0 (d := dd_is_whole) rfl
  d_between := c.t.d.def_ 1 (d := dd_between) rfl
  d_is_name := c.t.d.def_ 2 (d := dd_is_name) rfl
  d_is_saying := c.t.d.def_ 3 (d := dd_is_saying) rfl
  d_parts_of := c.t.d.def_ 4 (d := dd_parts_of) rfl
  d_gathered := c.t.d.def_ 5 (d := dd_gathered) rfl
  d_are_names := c.t.d.def_ 6 (d := dd_are_names) rfl
  d_stands_free := c.t.d.def_ 7 (d := dd_stands_free) rfl
  d_are_sayings := c.t.d.def_ 8 (d := dd_are_sayings) rfl
  d_is_wish := c.t.d.def_ 9 (d := dd_is_wish) rfl
  d_sayings_of := c.t.d.def_ 10 (d := dd_sayings_of) rfl
  d_pieces_of := c.t.d.def_ 11 (d := dd_pieces_of) rfl
  d_is_book := c.t.d.def_ 12 (d := dd_is_book) rfl
  d_checked := c.t.d.def_ 13 (d := dd_checked) rfl
  d_settings_of := c.t.d.def_ 14 (d := dd_settings_of) rfl
  d_Teller___init__ := c.t.d.def_ 15 (d := dd_Teller___init__) rfl
  d_Teller_first := c.t.d.def_ 16 (d := dd_Teller_first) rfl
  d_Teller_past := c.t.d.def_ 17 (d := dd_Teller_past) rfl
  d_Teller_holds := c.t.d.def_ 18 (d := dd_Teller_holds) rfl
  d_Teller_behind := c.t.d.def_ 19 (d := dd_Teller_behind) rfl
  d_Teller_keeps := c.t.d.def_ 20 (d := dd_Teller_keeps) rfl
  d_Teller_loss := c.t.d.def_ 21 (d := dd_Teller_loss) rfl
  d_answers_to := c.t.d.def_ 22 (d := dd_answers_to) rfl
  d_game_of := c.t.d.def_ 23 (d := dd_game_of) rfl
  d_game := c.t.d.def_ 24 (d := dd_game) rfl
  d_is_breaking := c.t.d.def_ 25 (d := dd_is_breaking) rfl
  d_ranks_of := c.t.d.def_ 26 (d := dd_ranks_of) rfl
  d_lost_in := c.t.d.def_ 27 (d := dd_lost_in) rfl
  d_breaking_moves := c.t.d.def_ 28 (d := dd_breaking_moves) rfl
  d_l_cell_at := c.t.d.def_ 29 (d := dd_l_cell_at) rfl
  d_l_mixed := c.t.d.def_ 30 (d := dd_l_mixed) rfl
  d_l_next := c.t.d.def_ 31 (d := dd_l_next) rfl
  d_l_names := c.t.d.def_ 32 (d := dd_l_names) rfl
  d_l_saying := c.t.d.def_ 33 (d := dd_l_saying) rfl
  d_l_promise := c.t.d.def_ 34 (d := dd_l_promise) rfl
  d_l_book := c.t.d.def_ 35 (d := dd_l_book) rfl
  d_l_ranks := c.t.d.def_ 36 (d := dd_l_ranks) rfl
  d_l_good := c.t.d.def_ 37 (d := dd_l_good) rfl
  d_law := c.t.d.def_ 38 (d := dd_law) rfl
  g_Teller := He.glo_ok X G (c.t.d.fact 43 (f := .glo "Teller") rfl)
  cl_Teller := He.cls_ok (c.t.d.fact 44 (f := .cls "Teller") rfl)
  mk_Teller := He.mkr_ok (c.t.d.fact 45 (f := .mkr "Teller") rfl)
  na_Teller_book := He.noat_ok (c.t.d.fact 46 (f := .noat "Teller" "book") rfl)
  na_Teller_names := He.noat_ok (c.t.d.fact 47 (f := .noat "Teller" "names") rfl)
  na_Teller_pieces := He.noat_ok (c.t.d.fact 48 (f := .noat "Teller" "pieces") rfl)
  me_Teller_first := He.meth_ok (c.t.d.fact 49 (f := .meth "Teller" "first") rfl)
  me_Teller_past := He.meth_ok (c.t.d.fact 50 (f := .meth "Teller" "past") rfl)
  me_Teller_holds := He.meth_ok (c.t.d.fact 51 (f := .meth "Teller" "holds") rfl)
  me_Teller_behind := He.meth_ok (c.t.d.fact 52 (f := .meth "Teller" "behind") rfl)
  me_Teller_keeps := He.meth_ok (c.t.d.fact 53 (f := .meth "Teller" "keeps") rfl)
  me_Teller_loss := He.meth_ok (c.t.d.fact 54 (f := .meth "Teller" "loss") rfl)
  c_DEPTH := He.int_ok X G (c.t.d.fact 55 (f := .int "DEPTH" 8) rfl)
  c_DOUBLE := ⟨_, He.glo_ok X G (c.t.d.fact 56 (f := .glo "DOUBLE") rfl), ktupB_ok (ex_at (He.ba c.more).1 (i := 0) rfl)⟩
  c_LETTERS := He.str_ok X G (c.t.d.fact 57 (f := .str "LETTERS" "abcdefghijklmnopqrstuvwxyz") rfl)
  c_PAST := ⟨_, He.glo_ok X G (c.t.d.fact 58 (f := .glo "PAST") rfl), ktupB_ok (ex_at (He.ba c.more).1 (i := 1) rfl)⟩
  c_PIECES := He.int_ok X G (c.t.d.fact 59 (f := .int "PIECES" 4) rfl)
  c_PRICE := He.int_ok X G (c.t.d.fact 60 (f := .int "PRICE" 99) rfl)
  c_SINGLE := ⟨_, He.glo_ok X G (c.t.d.fact 61 (f := .glo "SINGLE") rfl), ktupB_ok (ex_at (He.ba c.more).1 (i := 2) rfl)⟩
  c_WORDS := ⟨_, He.glo_ok X G (c.t.d.fact 62 (f := .glo "WORDS") rfl), ktupB_ok (ex_at (He.ba c.more).1 (i := 3) rfl)⟩
  e_NoBook := He.glo_ok X G (c.t.d.fact 63 (f := .glo "NoBook") rfl)
  q_NoBook := c.t.d.fact 64 (f := .exc "NoBook") rfl
theorem factsL {P : Program} {w : World} {K : PySem.W.Frag} {h : Heap} {mg : Str → Option Value} {f : Addr} (X : K.In h) (G : h.Ns mainGlobals mg) (hfa : mg ("law" : Str) = some (.ref f)) (c : He.SaysX faL fnL [] [] exaL w h K) :
    ∃ fd : FuncData, (∀ (s : Shared) (v : Value), BindsTo s fd ⟨[v], []⟩ [("_law_script", v)]) ∧ ∀ base : Heap, K.In base → base.Ns mainGlobals mg → FnOk P w K mg base CX0 31 f fd ["_law_script"] (spF K fun ts => noE (F_law_k10 ts)) := by
  have t := tx_of X G c
  obtain ⟨fd, F⟩ := t.d_law
  have e := hfa.symm.trans t.g_law
  cases e
  have b := FunD.bindsA (ps := ["_law_script"]) F fun _ _ _ _ _ _ us hl => match us, hl with | [_], _ => rfl
  refine ⟨fd, fun s v => b s [v] rfl, fun base _ _ => ?_⟩
  exact fn_law t F
end Lz
open PySem PySem.W PySem.Calls PyProof.Rows
theorem PySem.Challenge.cw_leastloss_k10_lost_in_holds : PySem.Challenge.rw_leastloss_k10_lost_in.Holds := by
  w_on; o_law
  refine HandSHeadRun.head_any (r := OpenLaw.row PySem.Challenge.rw_leastloss_k10_lost_in) (q := view (OpenLaw.row PySem.Challenge.rw_leastloss_k10_lost_in).prog [48]) (H := Lz.hkL) (ob := Lz.obL) (M := 3000) (loose := Lz.looseL) (d := HandSHeadRun.topDef (OpenLaw.row PySem.Challenge.rw_leastloss_k10_lost_in).prog 48) (kwd := []) Lz.obL_eq
    (by kernel_rfl) (fun s => by kernel_rfl) Lz.runL (by kernel_rfl) (by kernel_rfl) (by kernel_rfl) (by rfl) (by first | assumption | decide +kernel) (by decide +kernel) ⟨rfl, rfl, rfl, rfl, rfl, by decide +kernel⟩ ?hw ?hc
  case hw => w_witness2
  case hc =>
    refine L2.walk_ofE (l := PySem.Challenge.rw_leastloss_k10_lost_in) (n := 63) (k := 31) (x := "_law_script") (CX := L2.CX0) rfl (by decide) (by kernel_rfl) ⟨rfl, by decide, by decide⟩ ?F (fun _ _ _ _ z => z)
    intro w mg fa h Y G hmg0
    obtain ⟨K, KX, c⟩ := Y
    have hmg : mg ("law" : PySem.Str) = some (.ref fa) := by
      have e : (HandSHeadRun.topDef (OpenLaw.row PySem.Challenge.rw_leastloss_k10_lost_in).prog 48).name = ("law" : PySem.Str) := by kernel_rfl
      rw [← e]
      exact hmg0
    obtain ⟨fd, hb, hF⟩ := Lz.factsL (P := (PySem.Challenge.rw_leastloss_k10_lost_in).prog) (w := w) KX G hmg c
    exact ⟨K, fd, Lz.spF K fun ts => Lz.noE (Lz.F_law_k10 ts), KX, hb, fun H a ns hl hO hS => Lz.law_end0 hO hS (Nat.le_trans hl (by decide)) (Lz.law_k10 ns hl), hF⟩
#print axioms PySem.Challenge.cw_leastloss_k10_lost_in_holds
