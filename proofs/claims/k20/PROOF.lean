import PyProof.Rows.All
import Wide.All
import OpenK.AllK
import Wide.FinOn
import HandS.ForExc
import HandS.Comp
import HandS.Iter
import HandS.Text
import HandS.Deep
import HandS.TupAny
import HandS.TupMul
import HandS.IsInst
import HandS.ExcIs
import HandS.Zip
import HandS.Defaults
import HandS.HeadEnd
import HandS.HeadHook1
import HandS.HeadHook2
import HandS.HeadHook4
import HandS.Head2
import KE.KDictKeyed
import KE.KDictDisplayH
import HandS.Strs
import HandS.ExcOwn
import HandS.TryOnly
import PyProof.EqAt
import PyProof.FactsAll.tuple_2
import PyProof.FactsAll.tuple_3
import HandS.Conv
import KE.KxIndex
import HandS.ForDict
import HandS.SetKeys
import HandS.TupLen
import KE.GoesEnum
import HandS.Style
import PyProof.Rows.StrMul
import KE.GoesZip
import KE.GoesMore
import PySem.Challenge.RW_leastloss_k20_whole_lesser
set_option Elab.async false
set_option linter.all false
set_option maxRecDepth 100000
set_option maxHeartbeats 0
namespace Lz
open PySem PySem.Spec PyProof.Rows L2

/-- a test that the kernel doesn't look into -/
noncomputable def cif {α : Type} (c : Prop) (a b : α) : α := @ite α c (Classical.propDecidable c) a b
theorem cif_pos {α : Type} {c : Prop} {a b : α} (h : c) : cif c a b = a := by unfold cif; rw [if_pos h]
theorem cif_neg {α : Type} {c : Prop} {a b : α} (h : ¬ c) : cif c a b = b := by unfold cif; rw [if_neg h]
@[simp] theorem cif_t {α : Type} {a b : α} : cif True a b = a := cif_pos trivial
@[simp] theorem cif_f {α : Type} {a b : α} : cif False a b = b := cif_neg id
inductive D where
  | non | bl (b : Bool) | int (i : Int) | str (s : Str)
  | tup (xs : List D) | lst (xs : List D) | scr (ns : List Int)
  | dct (ks : List (D × D)) | obj (c : Str) (fs : List (Str × D))
  | ob (c : Str) (fs : List (Str × Bool × D))
  | dk (ks : List (Key × D))
  | dkl (o : Obj) (ks : List (Key × D))
  | lol (rows : List D) | pin (o : HO) | fn (n : Str) | xc (a : Addr)

mutual
def D.toPy : D → PyData
  | .non => .none
  | .bl b => .bool b
  | .int i => .int i
  | .str s => .str s
  | .tup xs => .tuple (D.toPys xs)
  | .lst xs => .list (D.toPys xs)
  | .scr ns => .list (ns.map .int)
  | .dct _ => .dict []
  | .obj _ _ => .dict []
  | .ob _ _ => .dict []
  | .dk _ => .dict []
  | .dkl _ _ => .dict []
  | .lol _ => .dict []
  | .pin _ => .dict []
  | .fn _ => .dict []
  | .xc _ => .dict []
def D.toPys : List D → List PyData
  | [] => []
  | x :: xs => x.toPy :: D.toPys xs
end
theorem toPys_map : ∀ xs : List D, D.toPys xs = xs.map D.toPy
  | [] => by rw [D.toPys]; rfl
  | x :: xs => by rw [D.toPys, toPys_map xs]; rfl

/-- a slot's content: whether it is owned, the data -/
abbrev T := Bool × D
/-- an expression's answer: data (owned by nobody else if the flag is up), or the owned thing of a slot -/
inductive XV where
  | v (o : Bool) (d : D)
  | b (i : Nat)
abbrev Env := List (Option T)
/-- what running ends in -/
inductive R (α : Type) where
  | ok (a : α) (ρ : Env)
  | exc (c : Str) (ρ : Env)
  | bad
def R.bind {α β : Type} (r : R α) (k : α → Env → R β) : R β := match r with
  | .ok a ρ => k a ρ
  | .exc c ρ => .exc c ρ
  | .bad => .bad

mutual
def nkD : D → Option NestedKey
  | .bl b => some (.num (if b then 1 else 0))
  | .int i => some (.num i)
  | .tup xs => (nkDs xs).map .tup
  | _ => none
def nkDs : List D → Option (List NestedKey)
  | [] => some []
  | x :: xs => (nkD x).bind fun k => (nkDs xs).map (k :: ·)
end
-- no texts in it
mutual
def nkT : NestedKey → Bool
  | .none => true
  | .num _ => true
  | .text _ => false
  | .tup ks => nkTs ks
def nkTs : List NestedKey → Bool
  | [] => true
  | k :: ks => nkT k && nkTs ks
end
mutual
theorem nkT_hash (w w' : World) : ∀ k : NestedKey, nkT k = true → k.hash w = k.hash w'
  | .none, _ => by rw [NestedKey.hash, NestedKey.hash]
  | .num i, _ => by rw [NestedKey.hash, NestedKey.hash]
  | .text x, h => by rw [nkT] at h; cases h
  | .tup ks, h => by
    rw [nkT] at h
    rw [NestedKey.hash, NestedKey.hash, nkTs_hash w w' ks h]
theorem nkTs_hash (w w' : World) : ∀ ks : List NestedKey, nkTs ks = true → NestedKey.hashes w ks = NestedKey.hashes w' ks
  | [], _ => by rw [NestedKey.hashes, NestedKey.hashes]
  | k :: ks, h => by
    rw [nkTs, Bool.and_eq_true] at h
    rw [NestedKey.hashes, NestedKey.hashes, nkT_hash w w' k h.1, nkTs_hash w w' ks h.2]
end
mutual
theorem nkD_T : ∀ (d : D) (k : NestedKey), nkD d = some k → nkT k = true
  | .non, _, h => by rw [nkD] at h; cases h; all_goals exact nofun
  | .bl b, _, h => by rw [nkD] at h; cases h; rw [nkT]
  | .int i, _, h => by rw [nkD] at h; cases h; rw [nkT]
  | .str s, _, h => by rw [nkD] at h; cases h; all_goals exact nofun
  | .tup xs, _, h => by
    rw [nkD] at h
    cases e : nkDs xs with
    | none => rw [e] at h; cases h
    | some ks => rw [e] at h; cases h; rw [nkT]; exact nkDs_T xs ks e
  | .lst xs, _, h => by rw [nkD] at h; cases h; all_goals exact nofun
  | .scr xs, _, h => by rw [nkD] at h; cases h; all_goals exact nofun
  | .dct xs, _, h => by rw [nkD] at h; cases h; all_goals exact nofun
  | .obj c xs, _, h => by rw [nkD] at h; cases h; all_goals exact nofun
  | .ob c xs, _, h => by rw [nkD] at h; cases h; all_goals exact nofun
  | .dk xs, _, h => by rw [nkD] at h; cases h; all_goals exact nofun
  | .dkl o xs, _, h => by rw [nkD] at h; cases h; all_goals exact nofun
  | .lol xs, _, h => by rw [nkD] at h; cases h; all_goals exact nofun
  | .pin xs, _, h => by rw [nkD] at h; cases h; all_goals exact nofun
  | .fn xs, _, h => by rw [nkD] at h; cases h; all_goals exact nofun
  | .xc xs, _, h => by rw [nkD] at h; cases h; all_goals exact nofun
theorem nkDs_T : ∀ (ds : List D) (ks : List NestedKey), nkDs ds = some ks → nkTs ks = true
  | [], _, h => by rw [nkDs] at h; cases h; rw [nkTs]
  | d :: ds, _, h => by
    rw [nkDs] at h
    cases e : nkD d with
    | none => rw [e] at h; cases h
    | some k =>
      rw [e] at h
      cases e2 : nkDs ds with
      | none => rw [e2] at h; cases h
      | some ks =>
        rw [e2] at h
        cases h
        rw [nkTs, nkD_T d k e, nkDs_T ds ks e2]; rfl
end
abbrev DEnt := NestedKey × Addr × Value
/-- what is true of a dict's own object -/
def dPhi (a : Addr) (es : List DEnt) (h : Heap) : Prop := ∃ o arr ep, h.get? a = some o ∧ o.ExactDict ∧ o.data = .dict arr ep ∧ ∀ w : World, arr.toList = es.map fun x => (⟨x.1.hash w, .ref x.2.1, x.2.2⟩ : DictEntry)
structure DFm (a : Addr) (es : List DEnt) (vs : List V) (kvs : List (D × D)) : Prop where
  sys : (a == sysModules) = false
  nd : (es.map (·.1)).Nodup
  vals : Vals vs (es.map (·.2.2))
  keys : es.map (fun x => some x.1) = kvs.map (fun p => nkD p.1)
  dep : ∀ x ∈ es, x.1.depth ≤ 8
def KTup (K : PySem.W.Frag) (a : Addr) (xs : List V) : Prop :=
  ∃ (o : Obj) (its : Array Value) (n : Nat), K.lookup a = some o ∧ o.cls = .type "tuple" ∧ o.dict = none ∧ o.data = .seq its n ∧ its.size ≤ sizeLine ∧ Vals xs its.toList
def KLst (K : PySem.W.Frag) (a : Addr) (xs : List V) : Prop :=
  ∃ (o : Obj) (its : Array Value) (n : Nat), K.lookup a = some o ∧ o.cls = .type "list" ∧ o.dict = none ∧ o.data = .seq its n ∧ its.size ≤ sizeLine ∧ Vals xs its.toList

mutual
inductive Rep (K : PySem.W.Frag) (H : Hp) (av : Addr → Prop) : V → D → Prop
  | non : Rep K H av .non .non
  | bl (b : Bool) : Rep K H av (.bl b) (.bl b)
  | int (i : Int) : Rep K H av (.int i) (.int i)
  | str (x : Str) : Rep K H av (.str x) (.str x)
  | tup {a : Addr} {o : Obj} {vs : List V} {ds : List D} : ¬ av a → H a = some (.frz o (.tup vs)) → o.dict = none → RepAll K H av vs ds → Rep K H av (.ref a) (.tup ds)
  | ktup {a : Addr} {vs : List V} {ds : List D} : KTup K a vs → RepAll K H av vs ds → Rep K H av (.ref a) (.tup ds)
  | lst {a : Addr} {vs : List V} {ds : List D} : ¬ av a → H a = some (.lst vs) → RepAll K H av vs ds → Rep K H av (.ref a) (.lst ds)
  | scr {a : Addr} {o : Obj} {ns : List Int} : ¬ av a → H a = some (.frz o (.lst (ns.map V.int))) → Rep K H av (.ref a) (.scr ns)
  | kscr {a : Addr} {ns : List Int} : KLst K a (ns.map V.int) → Rep K H av (.ref a) (.scr ns)
  | obj {a C dx : Addr} {c : Str} {fs : List (Str × V)} {gs : List (Str × D)} : ¬ av a → H a = some (.ins C dx fs) → C = He.ga K c → fs.map (·.1) = gs.map (·.1) → RepAll K H av (fs.map (·.2)) (gs.map (·.2)) → Rep K H av (.ref a) (.obj c gs)
  | ob {a C dx : Addr} {c : Str} {fs : List (Str × V)} {gs : List (Str × Bool × D)} : ¬ av a → H a = some (.ins C dx fs) → C = He.ga K c → fs.map (·.1) = gs.map (·.1) → RepAll K H av (fs.map (·.2)) (gs.map (·.2.2)) → Rep K H av (.ref a) (.ob c gs)
  | dct {a : Addr} {es : List DEnt} {vs : List V} {kvs : List (D × D)} : ¬ av a → H a = some (.ext (dPhi a es)) → DFm a es vs kvs → RepAll K H av (es.map fun x => .ref x.2.1) (kvs.map (·.1)) → RepAll K H av vs (kvs.map (·.2)) → Rep K H av (.ref a) (.dct kvs)
  | dk {a : Addr} {es : List (Key × V)} {kvs : List (Key × D)} : ¬ av a → Rd H a (.dK es) → es.map (·.1) = kvs.map (·.1) → RepAll K H av (es.map (·.2)) (kvs.map (·.2)) → Rep K H av (.ref a) (.dk kvs)
  | dkl {a : Addr} {o : Obj} {es : List (Key × V)} {kvs : List (Key × D)} : ¬ av a → H a = some (.frz o (.dK es)) → es.map (·.1) = kvs.map (·.1) → RepAll K H av (es.map (·.2)) (kvs.map (·.2)) → Rep K H av (.ref a) (.dkl o kvs)
  | lol {a : Addr} {vs : List V} {ds : List D} : ¬ av a → H a = some (.lst vs) → RepAll K H av vs ds → Rep K H av (.ref a) (.lol ds)
  | pin {a : Addr} {o : HO} : ¬ av a → H a = some o → (∀ e, o ≠ .dK e) → Rep K H av (.ref a) (.pin o)
  | fn (n : Str) : Rep K H av (.ref (He.fAd K (n, none))) (.fn n)
  | xc (a : Addr) : Rep K H av (.ref a) (.xc a)
inductive RepAll (K : PySem.W.Frag) (H : Hp) (av : Addr → Prop) : List V → List D → Prop
  | nil : RepAll K H av [] []
  | cons {v : V} {vs : List V} {d : D} {ds : List D} : Rep K H av v d → RepAll K H av vs ds → RepAll K H av (v :: vs) (d :: ds)
end

section
variable {K : PySem.W.Frag} {H H' : Hp} {av av' : Addr → Prop}
/-- what may change under pure data -/
structure Kp (H H' : Hp) (av av' : Addr → Prop) : Prop where
  keep : ∀ b o, H b = some o → ¬ av b → H' b = some o
  less : ∀ b, av' b → av b ∨ H b = none
theorem Kp.not (k : Kp H H' av av') {a : Addr} {o : HO} (h : H a = some o) (n : ¬ av a) : ¬ av' a := fun q => by
  rcases k.less a q with q | q
  · exact n q
  · rw [h] at q; cases q
theorem Kp.rd (k : Kp H H' av av') {a : Addr} {u : HO} (h : Rd H a u) (n : ¬ av a) : Rd H' a u := by
  rcases h with h | ⟨o, h⟩
  · exact .inl (k.keep _ _ h n)
  · exact .inr ⟨o, k.keep _ _ h n⟩
theorem Kp.notR (k : Kp H H' av av') {a : Addr} {u : HO} (h : Rd H a u) (n : ¬ av a) : ¬ av' a := by
  rcases h with h | ⟨o, h⟩
  · exact k.not h n
  · exact k.not h n
mutual
theorem Rep.mono (k : Kp H H' av av') : ∀ {v : V} {d : D}, Rep K H av v d → Rep K H' av' v d
  | _, _, .non => .non
  | _, _, .bl b => .bl b
  | _, _, .int i => .int i
  | _, _, .str x => .str x
  | _, _, .tup n h e r => .tup (k.not h n) (k.keep _ _ h n) e (RepAll.mono k r)
  | _, _, .ktup h r => .ktup h (RepAll.mono k r)
  | _, _, .lst n h r => .lst (k.not h n) (k.keep _ _ h n) (RepAll.mono k r)
  | _, _, .scr n h => .scr (k.not h n) (k.keep _ _ h n)
  | _, _, .kscr h => .kscr h
  | _, _, .obj n h e m r => .obj (k.not h n) (k.keep _ _ h n) e m (RepAll.mono k r)
  | _, _, .ob n h e m r => .ob (k.not h n) (k.keep _ _ h n) e m (RepAll.mono k r)
  | _, _, .dct n h f r1 r2 => .dct (k.not h n) (k.keep _ _ h n) f (RepAll.mono k r1) (RepAll.mono k r2)
  | _, _, .dk n h f r => .dk (k.notR h n) (k.rd h n) f (RepAll.mono k r)
  | _, _, .dkl n h f r => .dkl (k.not h n) (k.keep _ _ h n) f (RepAll.mono k r)
  | _, _, .lol n h r => .lol (k.not h n) (k.keep _ _ h n) (RepAll.mono k r)
  | _, _, .pin n h q => .pin (k.not h n) (k.keep _ _ h n) q
  | _, _, .fn n => .fn n
  | _, _, .xc n => .xc n
theorem RepAll.mono (k : Kp H H' av av') : ∀ {vs : List V} {ds : List D}, RepAll K H av vs ds → RepAll K H' av' vs ds
  | _, _, .nil => .nil
  | _, _, .cons h r => .cons (Rep.mono k h) (RepAll.mono k r)
end
theorem Kp.weak (h : ∀ b, av' b → av b) : Kp H H av av' := ⟨fun _ _ h _ => h, fun b q => .inl (h b q)⟩
theorem Kp.laid {p : Addr} {o : HO} (h : H p = none) : Kp H (upd H p o) av av := ⟨fun b u q _ => by rw [upd_ne (ne_of_none q h)]; exact q, fun _ q => .inl q⟩
theorem RepAll.length : ∀ {vs : List V} {ds : List D}, RepAll K H av vs ds → vs.length = ds.length
  | _, _, .nil => rfl
  | _, _, .cons _ r => by rw [List.length_cons, List.length_cons, RepAll.length r]
theorem RepAll.get : ∀ {vs : List V} {ds : List D} {i : Nat} {v : V}, RepAll K H av vs ds → vs[i]? = some v → ∃ d, ds[i]? = some d ∧ Rep K H av v d
  | _, _, _, _, .nil, h => by simp at h
  | _, _, 0, v, .cons r _, h => by simp at h; subst h; exact ⟨_, rfl, r⟩
  | _, _, i + 1, v, .cons _ t, h => by
    obtain ⟨d, h1, h2⟩ := RepAll.get (i := i) (v := v) t (by simpa using h)
    exact ⟨d, by simpa using h1, h2⟩
theorem RepAll.getD : ∀ {vs : List V} {ds : List D} {i : Nat} {d : D}, RepAll K H av vs ds → ds[i]? = some d → ∃ v, vs[i]? = some v ∧ Rep K H av v d
  | _, _, _, _, .nil, h => by simp at h
  | _, _, 0, v, .cons r _, h => by simp at h; subst h; exact ⟨_, rfl, r⟩
  | _, _, i + 1, v, .cons _ t, h => by
    obtain ⟨d, h1, h2⟩ := RepAll.getD (i := i) (d := v) t (by simpa using h)
    exact ⟨d, by simpa using h1, h2⟩
theorem RepAll.append : ∀ {vs us : List V} {ds es : List D}, RepAll K H av vs ds → RepAll K H av us es → RepAll K H av (vs ++ us) (ds ++ es)
  | _, _, _, _, .nil, r => r
  | _, _, _, _, .cons h t, r => .cons h (RepAll.append t r)
theorem RepAll.take : ∀ {vs : List V} {ds : List D} (n : Nat), RepAll K H av vs ds → RepAll K H av (vs.take n) (ds.take n)
  | _, _, 0, _ => by simp; exact .nil
  | _, _, _ + 1, .nil => by simp; exact .nil
  | _, _, n + 1, .cons h t => .cons h (RepAll.take n t)
theorem RepAll.drop : ∀ {vs : List V} {ds : List D} (n : Nat), RepAll K H av vs ds → RepAll K H av (vs.drop n) (ds.drop n)
  | _, _, 0, r => r
  | _, _, _ + 1, .nil => by simp; exact .nil
  | _, _, n + 1, .cons _ t => RepAll.drop n t
theorem RepAll.set {x : V} {e : D} (q : Rep K H av x e) : ∀ {vs : List V} {ds : List D} (n : Nat), RepAll K H av vs ds → RepAll K H av (vs.set n x) (ds.set n e)
  | _, _, _, .nil => by simp; exact .nil
  | _, _, 0, .cons _ t => .cons q t
  | _, _, n + 1, .cons h t => .cons h (RepAll.set q n t)
theorem RepAll.rep {vs : List V} {ds : List D} (r : RepAll K H av vs ds) : ∀ n : Nat, RepAll K H av (List.replicate n vs).flatten (List.replicate n ds).flatten
  | 0 => .nil
  | n + 1 => by
    rw [List.replicate_succ, List.replicate_succ, List.flatten_cons, List.flatten_cons]
    exact r.append (RepAll.rep r n)
theorem KTup.sq {a : Addr} {vs : List V} (h : KTup K a vs) : SqT K H a vs := let ⟨o, its, n, h1, h2, _, h3⟩ := h; .inr ⟨o, its, n, h1, h2, h3⟩
/-- a tuple that has no dict of its own -/
def TupD (K : PySem.W.Frag) (H : Hp) (a : Addr) : Prop := (∃ o vs, H a = some (.frz o (.tup vs)) ∧ o.dict = none) ∨ ∃ o, K.lookup a = some o ∧ o.cls = .type "tuple" ∧ o.dict = none

/-- an owned object's attributes: pure ones, owned lists -/
inductive OwnFs (K : PySem.W.Frag) (H : Hp) (av : Addr → Prop) : List (Str × V) → List (Str × Bool × D) → List Addr → Prop
  | nil : OwnFs K H av [] [] []
  | pure {f : Str} {v : V} {d : D} {fs : List (Str × V)} {gs : List (Str × Bool × D)} {w : List Addr} : Rep K H av v d → OwnFs K H av fs gs w → OwnFs K H av ((f, v) :: fs) ((f, false, d) :: gs) w
  | lst {f : Str} {b : Addr} {vs : List V} {ds : List D} {fs : List (Str × V)} {gs : List (Str × Bool × D)} {w : List Addr} : H b = some (.lst vs) → RepAll K H av vs ds → OwnFs K H av fs gs w → OwnFs K H av ((f, .ref b) :: fs) ((f, true, .lst ds) :: gs) (b :: w)
theorem OwnFs.mono {K : PySem.W.Frag} {H H' : Hp} {av av' : Addr → Prop} (k : Kp H H' av av') : ∀ {fs : List (Str × V)} {gs : List (Str × Bool × D)} {w : List Addr}, (∀ b ∈ w, H' b = H b) → OwnFs K H av fs gs w → OwnFs K H' av' fs gs w
  | _, _, _, _, .nil => .nil
  | _, _, _, hw, .pure r t => .pure (r.mono k) (OwnFs.mono k hw t)
  | _, _, _, hw, .lst h r t => .lst (by rw [hw _ List.mem_cons_self]; exact h) (r.mono k) (OwnFs.mono k (fun b hb => hw b (List.mem_cons_of_mem _ hb)) t)
theorem OwnFs.there {K : PySem.W.Frag} {H : Hp} {av : Addr → Prop} : ∀ {fs : List (Str × V)} {gs : List (Str × Bool × D)} {w : List Addr}, OwnFs K H av fs gs w → ∀ b ∈ w, H b ≠ none
  | _, _, _, .nil, b, hb => by cases hb
  | _, _, _, .pure _ t, b, hb => OwnFs.there t b hb
  | _, _, _, .lst h _ t, b, hb => by
    rcases List.mem_cons.mp hb with rfl | hb
    · rw [h]; simp
    · exact OwnFs.there t b hb
theorem OwnFs.names {K : PySem.W.Frag} {H : Hp} {av : Addr → Prop} : ∀ {fs : List (Str × V)} {gs : List (Str × Bool × D)} {w : List Addr}, OwnFs K H av fs gs w → fs.map (·.1) = gs.map (·.1)
  | _, _, _, .nil => rfl
  | _, _, _, .pure _ t => by rw [List.map_cons, List.map_cons, OwnFs.names t]
  | _, _, _, .lst _ _ t => by rw [List.map_cons, List.map_cons, OwnFs.names t]
/-- all of them as pure data, where what was owned is given free -/
theorem OwnFs.rep {K : PySem.W.Frag} {H : Hp} {av av' : Addr → Prop} (k : ∀ b, av' b → av b) : ∀ {fs : List (Str × V)} {gs : List (Str × Bool × D)} {w : List Addr}, (∀ b ∈ w, ¬ av' b) → OwnFs K H av fs gs w → RepAll K H av' (fs.map (·.2)) (gs.map (·.2.2))
  | _, _, _, _, .nil => .nil
  | _, _, _, hw, .pure r t => .cons (r.mono (Kp.weak k)) (OwnFs.rep k hw t)
  | _, _, _, hw, .lst h r t => .cons (.lst (hw _ List.mem_cons_self) h (r.mono (Kp.weak k))) (OwnFs.rep k (fun b hb => hw b (List.mem_cons_of_mem _ hb)) t)
/-- rows that are owned lists -/
inductive OwnRs (K : PySem.W.Frag) (H : Hp) (av : Addr → Prop) : List V → List D → List Addr → Prop
  | nil : OwnRs K H av [] [] []
  | cons {b : Addr} {vs : List V} {ds : List D} {us : List V} {rs : List D} {w : List Addr} : H b = some (.lst vs) → RepAll K H av vs ds → OwnRs K H av us rs w → OwnRs K H av (.ref b :: us) (.lst ds :: rs) (b :: w)
theorem OwnRs.mono {K : PySem.W.Frag} {H H' : Hp} {av av' : Addr → Prop} (k : Kp H H' av av') : ∀ {us : List V} {rs : List D} {w : List Addr}, (∀ b ∈ w, H' b = H b) → OwnRs K H av us rs w → OwnRs K H' av' us rs w
  | _, _, _, _, .nil => .nil
  | _, _, _, hw, .cons h r t => .cons (by rw [hw _ List.mem_cons_self]; exact h) (r.mono k) (OwnRs.mono k (fun b hb => hw b (List.mem_cons_of_mem _ hb)) t)
theorem OwnRs.there {K : PySem.W.Frag} {H : Hp} {av : Addr → Prop} : ∀ {us : List V} {rs : List D} {w : List Addr}, OwnRs K H av us rs w → ∀ b ∈ w, H b ≠ none
  | _, _, _, .nil, b, hb => by cases hb
  | _, _, _, .cons h _ t, b, hb => by
    rcases List.mem_cons.mp hb with rfl | hb
    · rw [h]; simp
    · exact OwnRs.there t b hb
theorem OwnRs.rep {K : PySem.W.Frag} {H : Hp} {av av' : Addr → Prop} (k : ∀ b, av' b → av b) : ∀ {us : List V} {rs : List D} {w : List Addr}, (∀ b ∈ w, ¬ av' b) → OwnRs K H av us rs w → RepAll K H av' us rs
  | _, _, _, _, .nil => .nil
  | _, _, _, hw, .cons h r t => .cons (.lst (hw _ List.mem_cons_self) h (r.mono (Kp.weak k))) (OwnRs.rep k (fun b hb => hw b (List.mem_cons_of_mem _ hb)) t)
inductive Own (K : PySem.W.Frag) (H : Hp) (av : Addr → Prop) : V → T → List Addr → Prop
  | pure {v : V} {d : D} : Rep K H av v d → Own K H av v (false, d) []
  | lst {a : Addr} {vs : List V} {ds : List D} : H a = some (.lst vs) → RepAll K H av vs ds → Own K H av (.ref a) (true, .lst ds) [a]
  | obj {a C dx : Addr} {c : Str} {fs : List (Str × V)} {gs : List (Str × D)} : H a = some (.ins C dx fs) → C = He.ga K c → fs.map (·.1) = gs.map (·.1) → RepAll K H av (fs.map (·.2)) (gs.map (·.2)) → Own K H av (.ref a) (true, .obj c gs) [a]
  | ob {a C dx : Addr} {c : Str} {fs : List (Str × V)} {gs : List (Str × Bool × D)} {w : List Addr} : H a = some (.ins C dx fs) → C = He.ga K c → OwnFs K H av fs gs w → Own K H av (.ref a) (true, .ob c gs) (a :: w)
  | dct {a : Addr} {es : List DEnt} {vs : List V} {kvs : List (D × D)} : H a = some (.ext (dPhi a es)) → DFm a es vs kvs → RepAll K H av (es.map fun x => .ref x.2.1) (kvs.map (·.1)) → RepAll K H av vs (kvs.map (·.2)) → Own K H av (.ref a) (true, .dct kvs) [a]
  | dk {a : Addr} {es : List (Key × V)} {kvs : List (Key × D)} : H a = some (.dK es) → es.map (·.1) = kvs.map (·.1) → RepAll K H av (es.map (·.2)) (kvs.map (·.2)) → Own K H av (.ref a) (true, .dk kvs) [a]
  | lol {a : Addr} {us : List V} {rs : List D} {w : List Addr} : H a = some (.lst us) → OwnRs K H av us rs w → Own K H av (.ref a) (true, .lol rs) (a :: w)
  | pin {a : Addr} {o : HO} : H a = some o → (∀ e, o ≠ .dK e) → Own K H av (.ref a) (true, .pin o) [a]
abbrev VT := V × T
inductive OwnAll (K : PySem.W.Frag) (H : Hp) (av : Addr → Prop) : List VT → List Addr → Prop
  | nil : OwnAll K H av [] []
  | cons {v : V} {t : T} {L : List VT} {w ws : List Addr} : Own K H av v t w → OwnAll K H av L ws → OwnAll K H av ((v, t) :: L) (w ++ ws)
theorem Own.mono {v : V} {t : T} {w : List Addr} (k : Kp H H' av av') (hw : ∀ b ∈ w, H' b = H b) (h : Own K H av v t w) : Own K H' av' v t w := by
  cases h with
  | pure r => exact .pure (r.mono k)
  | lst h r => exact .lst (by rw [hw _ (by simp)]; exact h) (r.mono k)
  | obj h e m r => exact .obj (by rw [hw _ (by simp)]; exact h) e m (r.mono k)
  | ob h e r => exact .ob (by rw [hw _ (by simp)]; exact h) e (r.mono k fun b hb => hw b (List.mem_cons_of_mem _ hb))
  | dct h f r1 r2 => exact .dct (by rw [hw _ (by simp)]; exact h) f (r1.mono k) (r2.mono k)
  | dk h f r => exact .dk (by rw [hw _ (by simp)]; exact h) f (r.mono k)
  | lol h r => exact .lol (by rw [hw _ (by simp)]; exact h) (r.mono k fun b hb => hw b (List.mem_cons_of_mem _ hb))
  | pin h q => exact .pin (by rw [hw _ (by simp)]; exact h) q
theorem OwnAll.mono (k : Kp H H' av av') : ∀ {L : List VT} {ws : List Addr}, (∀ b ∈ ws, H' b = H b) → OwnAll K H av L ws → OwnAll K H' av' L ws
  | _, _, _, .nil => .nil
  | _, _, hw, .cons h t => .cons (h.mono k fun b hb => hw b (List.mem_append_left _ hb)) (OwnAll.mono k (fun b hb => hw b (List.mem_append_right _ hb)) t)
theorem Own.there {v : V} {t : T} {w : List Addr} (h : Own K H av v t w) : ∀ b ∈ w, H b ≠ none := by
  cases h with
  | pure r => intro b hb; cases hb
  | lst h r => intro b hb; have e : b = _ := List.mem_singleton.mp hb; subst e; rw [h]; simp
  | obj h e m r => intro b hb; have e : b = _ := List.mem_singleton.mp hb; subst e; rw [h]; simp
  | ob h e r =>
    intro b hb
    rcases List.mem_cons.mp hb with rfl | hb
    · rw [h]; simp
    · exact r.there b hb
  | dct h f r1 r2 => intro b hb; have e : b = _ := List.mem_singleton.mp hb; subst e; rw [h]; simp
  | dk h f r => intro b hb; have e : b = _ := List.mem_singleton.mp hb; subst e; rw [h]; simp
  | lol h r =>
    intro b hb
    rcases List.mem_cons.mp hb with rfl | hb
    · rw [h]; simp
    · exact r.there b hb
  | pin h q => intro b hb; have e : b = _ := List.mem_singleton.mp hb; subst e; rw [h]; simp
theorem OwnAll.there : ∀ {L : List VT} {ws : List Addr}, OwnAll K H av L ws → ∀ b ∈ ws, H b ≠ none
  | _, _, .nil, b, hb => by cases hb
  | _, _, .cons h t, b, hb => by
    rcases List.mem_append.mp hb with hb | hb
    · exact h.there b hb
    · exact OwnAll.there t b hb
theorem OwnAll.get : ∀ {L : List VT} {ws : List Addr} {v : V} {t : T}, OwnAll K H av L ws → (v, t) ∈ L → ∃ w, Own K H av v t w ∧ ∀ b ∈ w, b ∈ ws
  | _, _, _, _, .nil, h => by cases h
  | _, _, v, t, .cons (w := w) h r, hm => by
    rcases List.mem_cons.mp hm with e | hm
    · cases e; exact ⟨_, h, fun b hb => List.mem_append_left _ hb⟩
    · obtain ⟨w', h1, h2⟩ := OwnAll.get r hm
      exact ⟨w', h1, fun b hb => List.mem_append_right _ (h2 b hb)⟩
theorem OwnAll.perm {L L' : List VT} (p : L.Perm L') : ∀ {ws : List Addr}, OwnAll K H av L ws → ∃ ws', OwnAll K H av L' ws' ∧ ws.Perm ws' := by
  induction p with
  | nil => intro ws h; exact ⟨ws, h, .refl _⟩
  | cons x _ ih =>
    intro ws h
    cases h with
    | cons h t =>
      obtain ⟨ws', h1, h2⟩ := ih t
      exact ⟨_, .cons h h1, h2.append_left _⟩
  | swap x y l =>
    intro ws h
    cases h with
    | cons h t =>
      cases t with
      | cons h2 t =>
        refine ⟨_, .cons h2 (.cons h t), ?_⟩
        rw [← List.append_assoc, ← List.append_assoc]
        exact List.perm_append_comm.append_right _
  | trans _ _ ih1 ih2 =>
    intro ws h
    obtain ⟨w1, a1, b1⟩ := ih1 h
    obtain ⟨w2, a2, b2⟩ := ih2 a1
    exact ⟨w2, a2, b1.trans b2⟩

structure SepW (K : PySem.W.Frag) (H : Hp) (L : List VT) (ws : List Addr) : Prop where
  own : OwnAll K H (· ∈ ws) L ws
  nd : ws.Nodup
def Sep (K : PySem.W.Frag) (H : Hp) (L : List VT) : Prop := ∃ ws, SepW K H L ws
theorem Sep.perm {L L' : List VT} (p : L.Perm L') (s : Sep K H L) : Sep K H L' := by
  obtain ⟨ws, h, n⟩ := s
  obtain ⟨ws', h', q⟩ := h.perm p
  exact ⟨ws', h'.mono (Kp.weak fun b hb => q.mem_iff.mpr hb) (fun _ _ => rfl), q.nodup_iff.mp n⟩
theorem Sep.drop {x : VT} {L : List VT} (s : Sep K H (x :: L)) : Sep K H L := by
  obtain ⟨ws, h, n⟩ := s
  cases h with
  | cons h t => exact ⟨_, t.mono (Kp.weak fun b hb => List.mem_append_right _ hb) fun _ _ => rfl, (List.nodup_append.mp n).2.1⟩
theorem Sep.drops {L L' : List VT} (s : Sep K H (L ++ L')) : Sep K H L' := by
  induction L with
  | nil => exact s
  | cons x L ih => exact ih s.drop
theorem Sep.drop_mid {A B C : List VT} (s : Sep K H (A ++ (B ++ C))) : Sep K H (A ++ C) := by
  have p : (A ++ (B ++ C)).Perm (B ++ (A ++ C)) := by
    rw [← List.append_assoc, ← List.append_assoc]
    exact List.perm_append_comm.append_right _
  exact (s.perm p).drops
theorem SepW.pure {L : List VT} {ws : List Addr} {v : V} {d : D} (s : SepW K H L ws) (r : Rep K H (· ∈ ws) v d) : SepW K H ((v, (false, d)) :: L) ws :=
  ⟨.cons (w := []) (.pure r) s.own, s.nd⟩
theorem SepW.rep {L : List VT} {ws : List Addr} {v : V} {d : D} (s : SepW K H L ws) (h : (v, (false, d)) ∈ L) : Rep K H (· ∈ ws) v d := by
  obtain ⟨w, o, _⟩ := s.own.get h
  cases o with
  | pure r => exact r
theorem Sep.dup {L : List VT} {v : V} {d : D} (s : Sep K H L) (h : (v, (false, d)) ∈ L) : Sep K H ((v, (false, d)) :: L) := by
  obtain ⟨ws, s⟩ := s
  exact ⟨ws, s.pure (s.rep h)⟩
/-- nobody owns it any more -/
theorem Sep.freeze {L : List VT} {v : V} {o : Bool} {d : D} (s : Sep K H ((v, (o, d)) :: L)) : Sep K H ((v, (false, d)) :: L) := by
  cases o with
  | false => exact s
  | true =>
    obtain ⟨ws, h, n⟩ := s
    cases h with
    | @cons _ _ _ w ws' h t =>
      cases h with
      | @lst a vs ds h r =>
        obtain ⟨n1, n2⟩ := List.nodup_cons.mp n
        have k : Kp H H (fun b => b ∈ [a] ++ ws') (fun b => b ∈ ws') := Kp.weak fun b hb => List.mem_append_right _ hb
        exact ⟨ws', .cons (w := []) (.pure (.lst n1 h (r.mono k))) (t.mono k fun _ _ => rfl), n2⟩
      | @obj a C dx c fs gs h e m r =>
        obtain ⟨n1, n2⟩ := List.nodup_cons.mp n
        have k : Kp H H (fun b => b ∈ [a] ++ ws') (fun b => b ∈ ws') := Kp.weak fun b hb => List.mem_append_right _ hb
        exact ⟨ws', .cons (w := []) (.pure (.obj n1 h e m (r.mono k))) (t.mono k fun _ _ => rfl), n2⟩
      | @dct a es vs kvs h f r1 r2 =>
        obtain ⟨n1, n2⟩ := List.nodup_cons.mp n
        have k : Kp H H (fun b => b ∈ [a] ++ ws') (fun b => b ∈ ws') := Kp.weak fun b hb => List.mem_append_right _ hb
        exact ⟨ws', .cons (w := []) (.pure (.dct n1 h f (r1.mono k) (r2.mono k))) (t.mono k fun _ _ => rfl), n2⟩
      | @dk a es kvs h f r =>
        obtain ⟨n1, n2⟩ := List.nodup_cons.mp n
        have k : Kp H H (fun b => b ∈ [a] ++ ws') (fun b => b ∈ ws') := Kp.weak fun b hb => List.mem_append_right _ hb
        exact ⟨ws', .cons (w := []) (.pure (.dk n1 (.inl h) f (r.mono k))) (t.mono k fun _ _ => rfl), n2⟩
      | @pin a o h q =>
        obtain ⟨n1, n2⟩ := List.nodup_cons.mp n
        have k : Kp H H (fun b => b ∈ [a] ++ ws') (fun b => b ∈ ws') := Kp.weak fun b hb => List.mem_append_right _ hb
        exact ⟨ws', .cons (w := []) (.pure (.pin n1 h q)) (t.mono k fun _ _ => rfl), n2⟩
      | @lol a us rs w' h r =>
        have n' : (a :: (w' ++ ws')).Nodup := n
        obtain ⟨n1, n2⟩ := List.nodup_cons.mp n'
        obtain ⟨n3, n4, n5⟩ := List.nodup_append.mp n2
        have k : Kp H H (fun b => b ∈ (a :: w') ++ ws') (fun b => b ∈ ws') := Kp.weak fun b hb => List.mem_append_right _ hb
        exact ⟨ws', .cons (w := []) (.pure (.lol (fun q => n1 (List.mem_append_right _ q)) h (r.rep (fun b hb => List.mem_append_right _ hb) fun b hb q => n5 b hb b q rfl))) (t.mono k fun _ _ => rfl), n4⟩
      | @ob a C dx c fs gs w' h e r =>
        have n' : (a :: (w' ++ ws')).Nodup := n
        obtain ⟨n1, n2⟩ := List.nodup_cons.mp n'
        obtain ⟨n3, n4, n5⟩ := List.nodup_append.mp n2
        have k : Kp H H (fun b => b ∈ (a :: w') ++ ws') (fun b => b ∈ ws') := Kp.weak fun b hb => List.mem_append_right _ hb
        refine ⟨ws', .cons (w := []) (.pure (.ob (fun q => n1 (List.mem_append_right _ q)) h e r.names (r.rep (fun b hb => List.mem_append_right _ hb) fun b hb q => n5 b hb b q rfl))) (t.mono k fun _ _ => rfl), n4⟩
theorem SepW.fresh {L : List VT} {ws : List Addr} {p : Addr} (s : SepW K H L ws) (h : H p = none) : p ∉ ws := fun q => s.own.there p q h
/-- a new thing that nobody owns -/
theorem SepW.laid {L : List VT} {ws : List Addr} {p : Addr} {o : HO} (s : SepW K H L ws) (h : H p = none) : SepW K (upd H p o) L ws :=
  ⟨s.own.mono (Kp.laid h) fun b hb => upd_ne fun e => s.fresh h (e ▸ hb), s.nd⟩
theorem SepW.newTup {L : List VT} {ws : List Addr} {p : Addr} {o : Obj} {vs : List V} {ds : List D} (s : SepW K H L ws) (h : H p = none) (ho : o.dict = none) (r : RepAll K H (· ∈ ws) vs ds) : SepW K (upd H p (.frz o (.tup vs))) ((.ref p, (false, .tup ds)) :: L) ws :=
  (s.laid h).pure (.tup (s.fresh h) upd_same ho (r.mono (Kp.laid h)))
theorem Kp.laidO {p : Addr} {o : HO} {ws : List Addr} (h : H p = none) : Kp H (upd H p o) (· ∈ ws) (· ∈ p :: ws) :=
  ⟨fun b u q _ => by rw [upd_ne (ne_of_none q h)]; exact q, fun b q => by
    rcases List.mem_cons.mp q with e | q
    · exact .inr (e ▸ h)
    · exact .inl q⟩
theorem SepW.newLst {L : List VT} {ws : List Addr} {p : Addr} {vs : List V} {ds : List D} (s : SepW K H L ws) (h : H p = none) (r : RepAll K H (· ∈ ws) vs ds) : SepW K (upd H p (.lst vs)) ((.ref p, (true, .lst ds)) :: L) (p :: ws) :=
  ⟨.cons (w := [p]) (.lst upd_same (r.mono (Kp.laidO h))) (s.own.mono (Kp.laidO h) fun b hb => upd_ne fun e => s.fresh h (e ▸ hb)), List.nodup_cons.mpr ⟨s.fresh h, s.nd⟩⟩
/-- an owned list changes -/
theorem SepW.chgLst {L : List VT} {ws : List Addr} {v : V} {ds0 : List D} {vs : List V} {ds : List D} {a : Addr} (s : SepW K H ((v, (true, .lst ds0)) :: L) ws) (hv : v = .ref a) (r : RepAll K H (· ∈ ws) vs ds) : SepW K (upd H a (.lst vs)) ((.ref a, (true, .lst ds)) :: L) ws := by
  subst hv
  obtain ⟨h, n⟩ := s
  cases h with
  | @cons _ _ _ w ws' h t =>
    have ew : w = [a] := by cases h <;> rfl
    subst ew
    have n1 := (List.nodup_cons.mp n).1
    have k : Kp H (upd H a (.lst vs)) (· ∈ [a] ++ ws') (· ∈ [a] ++ ws') := ⟨fun b o q nb => by
      have ne : b ≠ a := fun e => nb (by rw [e]; simp)
      rw [upd_ne ne]; exact q, fun _ q => .inl q⟩
    exact ⟨.cons (.lst upd_same (r.mono k)) (t.mono k fun b hb => upd_ne fun e => n1 (by rw [← e]; exact hb)), n⟩
theorem SepW.tup {L : List VT} {ws : List Addr} {v : V} {o : Bool} {ds : List D} (s : SepW K H L ws) (hm0 : (v, (o, D.tup ds)) ∈ L) : ∃ a vs, v = .ref a ∧ SqT K H a vs ∧ RepAll K H (· ∈ ws) vs ds ∧ TupD K H a := by
  obtain ⟨w, q, _⟩ := s.own.get hm0
  cases q with
  | pure r =>
    cases r with
    | tup n h e r => exact ⟨_, _, rfl, .inl (.inr ⟨_, h⟩), r, .inl ⟨_, _, h, e⟩⟩
    | ktup h r =>
      have h' := h
      obtain ⟨o, its, n, h1, h2, h3, _⟩ := h'
      exact ⟨_, _, rfl, h.sq, r, .inr ⟨o, h1, h2, h3⟩⟩
theorem SepW.lst {L : List VT} {ws : List Addr} {v : V} {o : Bool} {ds : List D} (s : SepW K H L ws) (hm0 : (v, (o, D.lst ds)) ∈ L) : ∃ a vs, v = .ref a ∧ H a = some (.lst vs) ∧ RepAll K H (· ∈ ws) vs ds := by
  obtain ⟨w, q, _⟩ := s.own.get hm0
  cases q with
  | pure r =>
    cases r with
    | lst n h r => exact ⟨_, _, rfl, h, r⟩
  | lst h r => exact ⟨_, _, rfl, h, r⟩
theorem SepW.scr {L : List VT} {ws : List Addr} {v : V} {o : Bool} {ns : List Int} (s : SepW K H L ws) (hm0 : (v, (o, D.scr ns)) ∈ L) : ∃ a, v = .ref a ∧ SqL K H a (ns.map V.int) := by
  obtain ⟨w, q, _⟩ := s.own.get hm0
  cases q with
  | pure r =>
    cases r with
    | scr n h => exact ⟨_, rfl, .inl (.inr ⟨_, h⟩)⟩
    | kscr h => exact ⟨_, rfl, .inr h⟩
theorem SepW.obj {L : List VT} {ws : List Addr} {v : V} {o : Bool} {c : Str} {gs : List (Str × D)} (s : SepW K H L ws) (hm0 : (v, (o, D.obj c gs)) ∈ L) :
    ∃ a dx fs, v = .ref a ∧ H a = some (.ins (He.ga K c) dx fs) ∧ fs.map (·.1) = gs.map (·.1) ∧ RepAll K H (· ∈ ws) (fs.map (·.2)) (gs.map (·.2)) := by
  obtain ⟨w, q, _⟩ := s.own.get hm0
  cases q with
  | pure r =>
    cases r with
    | obj n h e m r => subst e; exact ⟨_, _, _, rfl, h, m, r⟩
  | obj h e m r => subst e; exact ⟨_, _, _, rfl, h, m, r⟩
theorem SepW.int {L : List VT} {ws : List Addr} {v : V} {o : Bool} {i : Int} (s : SepW K H L ws) (hm0 : (v, (o, D.int i)) ∈ L) : v = .int i := by
  obtain ⟨w, q, _⟩ := s.own.get hm0
  cases q with | pure r => cases r with | int i => rfl
theorem SepW.bl {L : List VT} {ws : List Addr} {v : V} {o : Bool} {i : Bool} (s : SepW K H L ws) (hm0 : (v, (o, D.bl i)) ∈ L) : v = .bl i := by
  obtain ⟨w, q, _⟩ := s.own.get hm0
  cases q with | pure r => cases r with | bl i => rfl
theorem SepW.str {L : List VT} {ws : List Addr} {v : V} {o : Bool} {i : Str} (s : SepW K H L ws) (hm0 : (v, (o, D.str i)) ∈ L) : v = .str i := by
  obtain ⟨w, q, _⟩ := s.own.get hm0
  cases q with | pure r => cases r with | str i => rfl
theorem SepW.non {L : List VT} {ws : List Addr} {v : V} {o : Bool} (s : SepW K H L ws) (hm0 : (v, (o, D.non)) ∈ L) : v = .non := by
  obtain ⟨w, q, _⟩ := s.own.get hm0
  cases q with | pure r => cases r with | non => rfl
/-- as data that is looked at -/
theorem SepW.any {L : List VT} {ws : List Addr} {v : V} {o : Bool} {d : D} (s : SepW K H L ws) (hm0 : (v, (o, d)) ∈ L) : Rep K H (fun _ => False) v d := by
  obtain ⟨w, q, _⟩ := s.own.get hm0
  have k : Kp H H (· ∈ ws) (fun _ => False) := Kp.weak fun b hb => hb.elim
  cases q with
  | pure r => exact r.mono k
  | lst h r => exact .lst (fun q => q) h (r.mono k)
  | obj h e m r => exact .obj (fun q => q) h e m (r.mono k)
  | ob h e r => exact .ob (fun q => q) h e r.names (r.rep (fun b hb => hb.elim) fun b _ q => q)
  | dct h f r1 r2 => exact .dct (fun q => q) h f (r1.mono k) (r2.mono k)
  | dk h f r => exact .dk (fun q => q) (.inl h) f (r.mono k)
  | lol h r => exact .lol (fun q => q) h (r.rep (fun b hb => hb.elim) fun b _ q => q)
  | pin h q => exact .pin (fun q => q) h q
theorem dp_ints : ∀ ns : List Int, DpAll K H (ns.map V.int) (ns.map PyData.int)
  | [] => .nil
  | n :: ns => .cons (.int n) (dp_ints ns)
mutual
theorem Rep.dp : ∀ {v : V} {d : D}, Rep K H av v d → d.toPy.canLay0 = true → Dp K H v d.toPy
  | _, _, .non, _ => by rw [D.toPy]; exact .non
  | _, _, .bl b, _ => by rw [D.toPy]; exact .bl b
  | _, _, .int i, _ => by rw [D.toPy]; exact .int i
  | _, _, .str x, _ => by rw [D.toPy]; exact .str x
  | _, _, .tup n h1 e r, q => by
    rw [D.toPy] at q ⊢
    rw [PyData.canLay0] at q
    exact .tup (.inl (.inr ⟨_, h1⟩)) (RepAll.dp r q)
  | _, _, .ktup h1 r, q => by
    rw [D.toPy] at q ⊢
    rw [PyData.canLay0] at q
    exact .tup h1.sq (RepAll.dp r q)
  | _, _, .lst n h1 r, q => by
    rw [D.toPy] at q ⊢
    rw [PyData.canLay0] at q
    exact .lst (.inl (.inl h1)) (RepAll.dp r q)
  | _, _, .scr (ns := ns) n h1, q => by
    rw [D.toPy]
    exact .lst (.inl (.inr ⟨_, h1⟩)) (dp_ints ns)
  | _, _, .kscr (ns := ns) h1, q => by
    rw [D.toPy]
    exact .lst (.inr h1) (dp_ints ns)
  | _, _, .obj n h1 e m r, q => by
    rw [D.toPy, PyData.canLay0] at q
    cases q
  | _, _, .ob n h1 e m r, q => by
    rw [D.toPy, PyData.canLay0] at q
    cases q
  | _, _, .dct n h1 f r1 r2, q => by
    rw [D.toPy, PyData.canLay0] at q
    cases q
  | _, _, .dk n h1 f r, q => by
    rw [D.toPy, PyData.canLay0] at q
    cases q
  | _, _, .dkl n h1 f r, q => by
    rw [D.toPy, PyData.canLay0] at q
    cases q
  | _, _, .lol n h1 r, q => by
    rw [D.toPy, PyData.canLay0] at q
    cases q
  | _, _, .pin n h1 h2, q => by
    rw [D.toPy, PyData.canLay0] at q
    cases q
  | _, _, .fn n, q => by
    rw [D.toPy, PyData.canLay0] at q
    cases q
  | _, _, .xc n, q => by
    rw [D.toPy, PyData.canLay0] at q
    cases q
theorem RepAll.dp : ∀ {vs : List V} {ds : List D}, RepAll K H av vs ds → PyData.canLayAll0 (D.toPys ds) = true → DpAll K H vs (D.toPys ds)
  | _, _, .nil, _ => by rw [D.toPys]; exact .nil
  | _, _, .cons h1 t, q => by
    rw [D.toPys] at q ⊢
    rw [PyData.canLayAll0, Bool.and_eq_true] at q
    exact .cons (Rep.dp h1 q.1) (RepAll.dp t q.2)
end
end
end Lz
namespace Lz
open PySem PySem.Spec PyProof.Rows L2

abbrev Sg := L2.St
def gt : Env → Nat → Option T
  | [], _ => none
  | x :: _, 0 => x
  | _ :: r, n + 1 => gt r n
def pt : Env → Nat → Option T → Env
  | [], _, _ => []
  | _ :: r, 0, x => x :: r
  | y :: r, n + 1, x => y :: pt r n x
def SOk : Sg → Env → Prop
  | [], [] => True
  | s :: σ, t :: ρ => (t.isSome = true → s.isSome = true) ∧ SOk σ ρ
  | _, _ => False
def slotsL : Sg → Env → List VT
  | some v :: σ, some t :: ρ => (v, t) :: slotsL σ ρ
  | _ :: σ, _ :: ρ => slotsL σ ρ
  | _, _ => []
theorem gt_pt_same : ∀ (ρ : Env) (i : Nat) (x : Option T), i < ρ.length → gt (pt ρ i x) i = x
  | [], _, _, h => by simp at h
  | _ :: r, 0, x, h => rfl
  | _ :: r, i + 1, x, h => gt_pt_same r i x (by simpa using h)
theorem gt_pt_ne : ∀ (ρ : Env) (i j : Nat) (x : Option T), i ≠ j → gt (pt ρ i x) j = gt ρ j
  | [], _, _, _, h => rfl
  | _ :: r, 0, 0, x, h => absurd rfl h
  | _ :: r, 0, j + 1, x, h => rfl
  | _ :: r, i + 1, 0, x, h => rfl
  | _ :: r, i + 1, j + 1, x, h => gt_pt_ne r i j x (by omega)
theorem gt_lt : ∀ {ρ : Env} {i : Nat} {t : T}, gt ρ i = some t → i < ρ.length
  | [], _, _, h => by cases h
  | _ :: r, 0, _, h => by simp
  | _ :: r, i + 1, t, h => by have := gt_lt (ρ := r) (i := i) h; simp; omega
theorem SOk.len : ∀ {σ : Sg} {ρ : Env}, SOk σ ρ → σ.length = ρ.length
  | [], [], _ => rfl
  | [], _ :: _, h => h.elim
  | _ :: _, [], h => h.elim
  | _ :: σ, _ :: ρ, h => by simp; exact SOk.len h.2
theorem SOk.slot : ∀ {σ : Sg} {ρ : Env} {i : Nat} {t : T}, SOk σ ρ → gt ρ i = some t → ∃ v, σ[i]? = some (some v)
  | [], _ :: _, _, _, h, _ => h.elim
  | _, [], _, _, _, e => by cases e
  | s :: σ, x :: ρ, 0, t, h, e => by
    have e' : x = some t := e
    subst e'
    have := h.1 rfl
    obtain ⟨v, rfl⟩ := Option.isSome_iff_exists.mp this
    exact ⟨v, rfl⟩
  | s :: σ, x :: ρ, i + 1, t, h, e => by
    obtain ⟨v, q⟩ := SOk.slot (i := i) (t := t) h.2 e
    exact ⟨v, by simpa using q⟩
theorem SOk.put : ∀ {σ : Sg} {ρ : Env} (i : Nat) (v : V) (t : T), SOk σ ρ → SOk (σ.set i (some v)) (pt ρ i (some t))
  | [], [], i, v, t, h => by cases i <;> exact trivial
  | [], _ :: _, _, _, _, h => h.elim
  | _ :: _, [], _, _, _, h => h.elim
  | s :: σ, x :: ρ, 0, v, t, h => ⟨fun _ => rfl, h.2⟩
  | s :: σ, x :: ρ, i + 1, v, t, h => ⟨h.1, SOk.put i v t h.2⟩
theorem SOk.clear : ∀ {σ : Sg} {ρ : Env} (i : Nat), SOk σ ρ → SOk σ (pt ρ i none)
  | [], [], i, h => trivial
  | [], _ :: _, _, h => h.elim
  | _ :: _, [], _, h => h.elim
  | s :: σ, x :: ρ, 0, h => ⟨fun q => (by cases q), h.2⟩
  | s :: σ, x :: ρ, i + 1, h => ⟨h.1, SOk.clear i h.2⟩
theorem SOk.keep {v : V} {t : T} : ∀ {σ : Sg} {ρ : Env} (i : Nat), SOk σ ρ → σ[i]? = some (some v) → SOk σ (pt ρ i (some t))
  | [], [], i, h, _ => trivial
  | [], _ :: _, _, h, _ => h.elim
  | _ :: _, [], _, h, _ => h.elim
  | s :: σ, x :: ρ, 0, h, e => ⟨fun _ => by simp at e; subst e; rfl, h.2⟩
  | s :: σ, x :: ρ, i + 1, h, e => ⟨h.1, SOk.keep i h.2 (by simpa using e)⟩
theorem slots_take : ∀ {σ : Sg} {ρ : Env} {i : Nat} {v : V} {t : T}, σ[i]? = some (some v) → gt ρ i = some t → (slotsL σ ρ).Perm ((v, t) :: slotsL σ (pt ρ i none))
  | [], _, _, _, _, h, _ => by simp at h
  | _, [], _, _, _, _, e => by cases e
  | s :: σ, x :: ρ, 0, v, t, h, e => by
    have e' : x = some t := e
    have h' : s = some v := by simpa using h
    subst e' h'
    exact .refl _
  | s :: σ, x :: ρ, i + 1, v, t, h, e => by
    have ih := slots_take (σ := σ) (ρ := ρ) (i := i) (v := v) (t := t) (by simpa using h) e
    cases s with
    | none => exact ih
    | some u =>
      cases x with
      | none => exact ih
      | some y => exact (ih.cons _).trans (.swap _ _ _)
theorem slots_mem {σ : Sg} {ρ : Env} {i : Nat} {v : V} {t : T} (h : σ[i]? = some (some v)) (e : gt ρ i = some t) : (v, t) ∈ slotsL σ ρ := (slots_take h e).mem_iff.mpr List.mem_cons_self
theorem slots_set_none : ∀ (σ : Sg) (ρ : Env) (i : Nat) (x : Option V), slotsL (σ.set i x) (pt ρ i none) = slotsL σ (pt ρ i none)
  | [], _, i, _ => by cases i <;> rfl
  | s :: σ, [], i, x => by cases i <;> (cases s <;> cases x <;> rfl)
  | s :: σ, y :: ρ, 0, x => by cases s <;> cases x <;> rfl
  | s :: σ, y :: ρ, i + 1, x => by
    have ih := slots_set_none σ ρ i x
    cases s <;> cases y <;> first | exact ih | (show _ :: _ = _ :: _; rw [ih])
theorem pt_pt : ∀ (ρ : Env) (i : Nat) (x y : Option T), pt (pt ρ i x) i y = pt ρ i y
  | [], _, _, _ => rfl
  | _ :: r, 0, _, _ => rfl
  | z :: r, i + 1, x, y => by show z :: _ = z :: _; rw [pt_pt r i x y]
theorem slots_put {σ : Sg} {ρ : Env} {i : Nat} {v : V} {t : T} (hσ : i < σ.length) (hρ : i < ρ.length) : (slotsL (σ.set i (some v)) (pt ρ i (some t))).Perm ((v, t) :: slotsL σ (pt ρ i none)) := by
  have h := slots_take (σ := σ.set i (some v)) (ρ := pt ρ i (some t)) (i := i) (v := v) (t := t) (by simp [hσ]) (gt_pt_same ρ i _ hρ)
  have e : pt (pt ρ i (some t)) i none = pt ρ i none := pt_pt ρ i _ _
  rw [e, slots_set_none] at h
  exact h
theorem pt_none : ∀ (ρ : Env) (i : Nat), gt ρ i = none → pt ρ i none = ρ
  | [], _, _ => rfl
  | x :: r, 0, h => by have h' : x = none := h; subst h'; rfl
  | x :: r, i + 1, h => by show x :: pt r i none = x :: r; rw [pt_none r i h]
/-- a slot's content behind a change of it alone: v stays -/
theorem slots_keep {σ : Sg} {ρ : Env} {i : Nat} {v : V} {t : T} (h : σ[i]? = some (some v)) (hρ : i < ρ.length) : (slotsL σ (pt ρ i (some t))).Perm ((v, t) :: slotsL σ (pt ρ i none)) := by
  have q := slots_take (σ := σ) (ρ := pt ρ i (some t)) h (gt_pt_same ρ i _ hρ)
  rw [pt_pt] at q
  exact q

structure Stt (K : PySem.W.Frag) (hs : List VT) (σ : Sg) (H : Hp) (ρ : Env) : Prop where
  ok : SOk σ ρ
  sep : Sep K H (slotsL σ ρ ++ hs)
def ResV (σ : Sg) (x : XV) (v : V) : Prop := match x with
  | .b i => σ[i]? = some (some v)
  | .v _ _ => True
def hld (x : XV) (v : V) : List VT := match x with
  | .v o d => [(v, (o, d))]
  | .b _ => []
def fin (K : PySem.W.Frag) (W : WX) (hs : List VT) (σ : Sg) (r : R XV) (Q : VK) : Prop := match r with
  | .ok x ρ => ∀ v H, ResV σ x v → Stt K (hld x v ++ hs) σ H ρ → Q v H
  | .exc c ρ => ∀ H, Stt K hs σ H ρ → W (.ref (He.ga K c)) none σ H
  | .bad => False
def tE (K : PySem.W.Frag) (W : WX) (f : Env → R XV) : TE := fun σ H Q => ∃ ρ hs, Stt K hs σ H ρ ∧ fin K W hs σ (f ρ) Q
def SE (X : Cx) (W : WX) (e : Expr) (f : Env → R XV) : Prop := PE X e (tE X.K W f)
def view (x : XV) (ρ : Env) : Option D := match x with
  | .v _ d => some d
  | .b i => (gt ρ i).map (·.2)

section
variable {K : PySem.W.Frag} {W : WX} {hs : List VT} {σ : Sg} {H : Hp} {ρ : Env} {x : XV} {v : V}
theorem Stt.dropA {A : List VT} (s : Stt K (A ++ hs) σ H ρ) : Stt K hs σ H ρ := ⟨s.ok, s.sep.drop_mid⟩
theorem Stt.mem (s : Stt K hs σ H ρ) (h : ResV σ x v) (hm : ∀ p ∈ hld x v, p ∈ hs) {d : D} (e : view x ρ = some d) : ∃ o, (v, (o, d)) ∈ slotsL σ ρ ++ hs := by
  cases x with
  | v o d' =>
    have e' : d' = d := Option.some.inj e
    subst e'
    exact ⟨o, List.mem_append_right _ (hm _ (List.mem_singleton.mpr rfl))⟩
  | b i =>
    have e' : (gt ρ i).map (·.2) = some d := e
    cases q : gt ρ i with
    | none => rw [q] at e'; cases e'
    | some t =>
      rw [q] at e'
      have e2 : t.2 = d := Option.some.inj e'
      subst e2
      exact ⟨t.1, List.mem_append_left _ (slots_mem h q)⟩
theorem fin_bind {k : XV → Env → R XV} {r : R XV} {Q : VK} (A : List VT) (h : fin K W hs σ (r.bind k) Q) :
    fin K W (A ++ hs) σ r (fun v H1 => ∃ x ρ1, ResV σ x v ∧ Stt K (hld x v ++ (A ++ hs)) σ H1 ρ1 ∧ fin K W hs σ (k x ρ1) Q) := by
  cases r with
  | ok x ρ => exact fun v H1 hv s => ⟨x, ρ, hv, s, h⟩
  | exc c ρ => exact fun H1 s => h H1 s.dropA
  | bad => exact h
theorem fin_bind0 {k : XV → Env → R XV} {r : R XV} {Q : VK} (h : fin K W hs σ (r.bind k) Q) :
    fin K W hs σ r (fun v H1 => ∃ x ρ1, ResV σ x v ∧ Stt K (hld x v ++ hs) σ H1 ρ1 ∧ fin K W hs σ (k x ρ1) Q) := fin_bind [] h
theorem fin_mono {r : R XV} {Q Q' : VK} (h : fin K W hs σ r Q) (m : ∀ v H, Q v H → Q' v H) : fin K W hs σ r Q' := by
  cases r with
  | ok x ρ => exact fun v H1 hv s => m _ _ (h v H1 hv s)
  | exc c ρ => exact h
  | bad => exact h
end

theorem PE.weak {X : Cx} {e : Expr} {t t' : TE} (h : PE X e t) (w : ∀ σ H Q, t' σ H Q → t σ H Q) : PE X e t' := ⟨fun pins s σ H Q I q => h.run pins s σ H Q I (w σ H Q q)⟩

def sVar (i : Nat) (ρ : Env) : R XV := match gt ρ i with
  | some (true, _) => .ok (.b i) ρ
  | some (false, d) => .ok (.v false d) ρ
  | none => .bad
def sC (d : D) (ρ : Env) : R XV := .ok (.v false d) ρ

section
variable {X : Cx} {W : WX}
theorem se_var {i : Nat} {x : Str} {pos : Pos} (hN : X.N[i]? = some x) (hv : Vis X.env.scope x) (hd : (x == ("__debug__" : Str)) = false) (hcd : (x == ("__classdict__" : Str)) = false) : SE X W (.Name x pos) (sVar i) := by
  refine PE.weak (pe_var hN hv hd hcd) fun σ H Q h => ?_
  obtain ⟨ρ, hs, s, f⟩ := h
  unfold sVar at f
  cases e : gt ρ i with
  | none => rw [e] at f; exact f.elim
  | some t =>
    obtain ⟨o, d⟩ := t
    rw [e] at f
    obtain ⟨v, hv⟩ := s.ok.slot e
    refine ⟨v, hv, ?_⟩
    cases o with
    | true => exact f v H hv s
    | false =>
      refine f v H trivial ⟨s.ok, ?_⟩
      have q := s.sep.dup (v := v) (d := d) (List.mem_append_left _ (slots_mem hv e))
      exact q.perm List.perm_middle.symm
theorem fin_c {K : PySem.W.Frag} {hs : List VT} {σ : Sg} {H : Hp} {ρ : Env} {Q : VK} {v : V} {d : D} (s : Stt K hs σ H ρ) (r : ∀ av, Rep K H av v d) (f : fin K W hs σ (sC d ρ) Q) : Q v H := by
  refine f v H trivial ⟨s.ok, ?_⟩
  obtain ⟨ws, q⟩ := s.sep
  exact Sep.perm List.perm_middle.symm ⟨ws, q.pure (r _)⟩
theorem se_cst {e : Expr} {v : V} {d : D} (h : PE X e (tC v)) (r : ∀ H av, Rep X.K H av v d) : SE X W e (sC d) :=
  PE.weak h fun σ H Q ⟨ρ, hs, s, f⟩ => fin_c s (r H) f
theorem se_int {i j pos} : SE X W (.Constant (.int i) j pos) (sC (.int i)) := se_cst pe_int fun _ _ => .int i
theorem se_bl {i j pos} : SE X W (.Constant (.bool i) j pos) (sC (.bl i)) := se_cst pe_bl fun _ _ => .bl i
theorem se_str {x j pos} : SE X W (.Constant (.str x) j pos) (sC (.str x)) := se_cst pe_str fun _ _ => .str x
end

def rOp (K : PySem.W.Frag) (f : D → D → Option T) : R2 := fun x y H Q => ∃ L d e o o' t, Sep K H L ∧ (x, (o, d)) ∈ L ∧ (y, (o', e)) ∈ L ∧ f d e = some t ∧ ∀ w H', Sep K H' ((w, t) :: L) → Q w H'
def rUnD (K : PySem.W.Frag) (f : D → Option T) : V → Hp → VK → Prop := fun x H Q => ∃ L d o t, Sep K H L ∧ (x, (o, d)) ∈ L ∧ f d = some t ∧ ∀ w H', Sep K H' ((w, t) :: L) → Q w H'
def op2 (f : D → D → Option T) (x y : XV) (ρ : Env) : R XV := match view x ρ, view y ρ with
  | some d, some e => (match f d e with
    | some t => .ok (.v t.1 t.2) ρ
    | none => .bad)
  | _, _ => .bad
def op1 (f : D → Option T) (x : XV) (ρ : Env) : R XV := match view x ρ with
  | some d => (match f d with
    | some t => .ok (.v t.1 t.2) ρ
    | none => .bad)
  | _ => .bad
def sBin (f : D → D → Option T) (a b : Env → R XV) (ρ : Env) : R XV := (a ρ).bind fun x ρ => (b ρ).bind fun y ρ => op2 f x y ρ
def sUn (f : D → Option T) (a : Env → R XV) (ρ : Env) : R XV := (a ρ).bind fun x ρ => op1 f x ρ

section
variable {K : PySem.W.Frag} {W : WX} {hs A : List VT} {σ : Sg} {H : Hp} {ρ : Env} {x y : XV} {v u : V} {Q : VK}
/-- what the answer leaves -/
theorem Stt.done {t : T} {w : V} {H' : Hp} (s : Stt K (A ++ hs) σ H ρ) (q : Sep K H' ((w, t) :: (slotsL σ ρ ++ (A ++ hs)))) : Stt K (hld (.v t.1 t.2) w ++ hs) σ H' ρ := by
  refine ⟨s.ok, ?_⟩
  have p : ((w, t) :: (slotsL σ ρ ++ (A ++ hs))).Perm (slotsL σ ρ ++ ((w, t) :: (A ++ hs))) := List.perm_middle.symm
  have q1 := q.perm p
  have e : slotsL σ ρ ++ ((w, t) :: (A ++ hs)) = (slotsL σ ρ ++ [(w, t)]) ++ (A ++ hs) := by simp
  rw [e] at q1
  have q2 := q1.drop_mid
  rw [List.append_assoc] at q2
  exact q2
theorem op2_ok {f : D → D → Option T} (s : Stt K (A ++ hs) σ H ρ) (hx : ResV σ x v) (hy : ResV σ y u) (mx : ∀ p ∈ hld x v, p ∈ A ++ hs) (my : ∀ p ∈ hld y u, p ∈ A ++ hs)
    (h : fin K W hs σ (op2 f x y ρ) Q) : rOp K f v u H Q := by
  unfold op2 at h
  cases ex : view x ρ with
  | none => rw [ex] at h; exact h.elim
  | some d =>
    cases ey : view y ρ with
    | none => rw [ex, ey] at h; exact h.elim
    | some e =>
      rw [ex, ey] at h
      dsimp only at h
      cases ef : f d e with
      | none => rw [ef] at h; exact h.elim
      | some t =>
        rw [ef] at h
        obtain ⟨o, m1⟩ := s.mem hx mx ex
        obtain ⟨o', m2⟩ := s.mem hy my ey
        exact ⟨_, d, e, o, o', t, s.sep, m1, m2, ef, fun w H' q => h w H' trivial (s.done q)⟩
theorem op1_ok {f : D → Option T} (s : Stt K (A ++ hs) σ H ρ) (hx : ResV σ x v) (mx : ∀ p ∈ hld x v, p ∈ A ++ hs) (h : fin K W hs σ (op1 f x ρ) Q) : rUnD K f v H Q := by
  unfold op1 at h
  cases ex : view x ρ with
  | none => rw [ex] at h; exact h.elim
  | some d =>
    rw [ex] at h
    dsimp only at h
    cases ef : f d with
    | none => rw [ef] at h; exact h.elim
    | some t =>
      rw [ef] at h
      obtain ⟨o, m1⟩ := s.mem hx mx ex
      exact ⟨_, d, o, t, s.sep, m1, ef, fun w H' q => h w H' trivial (s.done q)⟩
end
section
variable {X : Cx} {W : WX} {a b : Expr} {fa fb : Env → R XV} {pos : Pos}
theorem tOp_of {f : D → D → Option T} {σ : Sg} {H : Hp} {Q : VK} (h : tE X.K W (sBin f fa fb) σ H Q) : tOp (rOp X.K f) (tE X.K W fa) (tE X.K W fb) σ H Q := by
  obtain ⟨ρ, hs, s, h⟩ := h
  refine ⟨ρ, hs, s, fin_mono (fin_bind0 h) fun v H1 ⟨x, ρ1, hx, s1, h1⟩ => ?_⟩
  refine ⟨ρ1, hld x v ++ hs, s1, fin_mono (fin_bind (hld x v) h1) fun u H2 ⟨y, ρ2, hy, s2, h2⟩ => ?_⟩
  rw [← List.append_assoc] at s2
  exact op2_ok s2 hx hy (fun p hp => by simp [hp]) (fun p hp => by simp [hp]) h2
theorem se_bin {op : Operator} {f : D → D → Option T} (ho : OpR X (binaryOp op) (rOp X.K f)) (ha : SE X W a fa) (hb : SE X W b fb) : SE X W (.BinOp a op b pos) (sBin f fa fb) :=
  PE.weak (pe_op ho ha hb) fun _ _ _ => tOp_of
theorem se_cmp {op : CmpOp} {f : D → D → Option T} (ho : OpR X (compareOp op) (rOp X.K f)) (ha : SE X W a fa) (hb : SE X W b fb) (hm : behindInMarks op b = false) : SE X W (.Compare a [op] [b] pos) (sBin f fa fb) :=
  PE.weak (pe_cmpR ho ha hb hm) fun _ _ _ => tOp_of
theorem se_ix {f : D → D → Option T} (ho : IxR X (rOp X.K f)) (ha : SE X W a fa) (hb : SE X W b fb) (hs : PlainIx b) : SE X W (.Subscript a b pos) (sBin f fa fb) :=
  PE.weak (pe_ix ho ha hb hs) fun _ _ _ => tOp_of
end
end Lz
namespace Lz
open PySem PySem.Spec PyProof.Rows L2

theorem Stt.perm {K : PySem.W.Frag} {hs hs' : List VT} {σ : Sg} {H : Hp} {ρ : Env} (s : Stt K hs σ H ρ) (p : hs.Perm hs') : Stt K hs' σ H ρ := ⟨s.ok, s.sep.perm (p.append_left _)⟩

def finB (K : PySem.W.Frag) (W : WX) (hs : List VT) (σ : Sg) (r : R Bool) (Q : Bool → Hp → Prop) : Prop := match r with
  | .ok c ρ => ∀ H, Stt K hs σ H ρ → Q c H
  | .exc c ρ => ∀ H, Stt K hs σ H ρ → W (.ref (He.ga K c)) none σ H
  | .bad => False
def tT (K : PySem.W.Frag) (W : WX) (g : Env → R Bool) : TT := fun σ H Q => ∃ ρ hs, Stt K hs σ H ρ ∧ finB K W hs σ (g ρ) Q
def SB (X : Cx) (W : WX) (e : Expr) (g : Env → R Bool) : Prop := PT X e (tT X.K W g)
def SW (X : Cx) (W : WX) (e : Expr) (g : Env → R Bool) : Prop := PW X e (tT X.K W g)
def asB (x : XV) (ρ : Env) : R Bool := match view x ρ with
  | some (.bl c) => .ok c ρ
  | _ => .bad
def sB (f : Env → R XV) (ρ : Env) : R Bool := (f ρ).bind asB
def bAnd (f g : Env → R Bool) (ρ : Env) : R Bool := (f ρ).bind fun c ρ => if c = true then g ρ else .ok false ρ
def bOr (f g : Env → R Bool) (ρ : Env) : R Bool := (f ρ).bind fun c ρ => if c = true then .ok true ρ else g ρ
def bNot (f : Env → R Bool) (ρ : Env) : R Bool := (f ρ).bind fun c ρ => .ok (!c) ρ
def sOfB (f : Env → R Bool) (ρ : Env) : R XV := (f ρ).bind fun c ρ => .ok (.v false (.bl c)) ρ
def sAnd (f : Env → R Bool) (g : Env → R XV) (ρ : Env) : R XV := (f ρ).bind fun c ρ => if c = true then g ρ else .ok (.v false (.bl false)) ρ
def sOr (f : Env → R Bool) (g : Env → R XV) (ρ : Env) : R XV := (f ρ).bind fun c ρ => if c = true then .ok (.v false (.bl true)) ρ else g ρ

section
variable {K : PySem.W.Frag} {W : WX} {hs : List VT} {σ : Sg} {H : Hp} {ρ : Env} {x : XV} {v : V}
theorem PT.weak {X : Cx} {e : Expr} {t t' : TT} (h : PT X e t) (w : ∀ σ H Q, t' σ H Q → t σ H Q) : PT X e t' := ⟨fun pins s σ H Q I q => h.run pins s σ H Q I (w σ H Q q)⟩
theorem PW.weak {X : Cx} {e : Expr} {t t' : TT} (h : PW X e t) (w : ∀ σ H Q, t' σ H Q → t σ H Q) : PW X e t' := ⟨fun wh pins s σ H Q I q => h.run wh pins s σ H Q I (w σ H Q q)⟩
theorem asB_ok {Q : Bool → Hp → Prop} (s : Stt K (hld x v ++ hs) σ H ρ) (hx : ResV σ x v) (h : finB K W hs σ (asB x ρ) Q) : ∃ c, v = .bl c ∧ Q c H := by
  unfold asB at h
  cases ex : view x ρ with
  | none => rw [ex] at h; exact h.elim
  | some d =>
    rw [ex] at h
    cases d <;> first | exact h.elim | skip
    rename_i c
    obtain ⟨o, m⟩ := s.mem hx (fun p hp => by simp [hp]) ex
    obtain ⟨ws, q⟩ := s.sep
    exact ⟨c, q.bl m, h H s.dropA⟩
/-- an R of one kind bound to an R of another -/
theorem finB_bindE {r : R XV} {k : XV → Env → R Bool} {Q : Bool → Hp → Prop} (h : finB K W hs σ (r.bind k) Q) :
    fin K W hs σ r (fun v H1 => ∃ x ρ1, ResV σ x v ∧ Stt K (hld x v ++ hs) σ H1 ρ1 ∧ finB K W hs σ (k x ρ1) Q) := by
  cases r with
  | ok x ρ => exact fun v H1 hv s => ⟨x, ρ, hv, s, h⟩
  | exc c ρ => exact h
  | bad => exact h
theorem finB_bindB {r : R Bool} {k : Bool → Env → R Bool} {Q : Bool → Hp → Prop} (h : finB K W hs σ (r.bind k) Q) :
    finB K W hs σ r (fun c H1 => ∃ ρ1, Stt K hs σ H1 ρ1 ∧ finB K W hs σ (k c ρ1) Q) := by
  cases r with
  | ok c ρ => exact fun H1 s => ⟨ρ, s, h⟩
  | exc c ρ => exact h
  | bad => exact h
end
section
variable {X : Cx} {W : WX} {a b : Expr} {fa fb : Env → R XV} {ga gb : Env → R Bool} {pos : Pos} {rest : List Expr}
theorem sb_val {e : Expr} (h : SE X W e fa) (he : ∀ whole, isTrue e X.env whole = (do let v ← whole; standAt e.pos; holding [v] (truthy v))) : SB X W e (sB fa) := by
  refine PT.weak (pt_val h he) fun σ H Q h => ?_
  obtain ⟨ρ, hs, s, h⟩ := h
  exact ⟨ρ, hs, s, fin_mono (finB_bindE h) fun v H1 ⟨x, ρ1, hx, s1, h1⟩ => asB_ok s1 hx h1⟩
theorem sb_cmp {op : CmpOp} {f : D → D → Option T} (ho : OpR X (compareOp op) (rOp X.K f)) (ha : SE X W a fa) (hb : SE X W b fb) (hm : behindInMarks op b = false) : SB X W (.Compare a [op] [b] pos) (sB (sBin f fa fb)) := by
  refine PT.weak (pt_cmpR ho ha hb hm) fun σ H Q h => ?_
  obtain ⟨ρ, hs, s, h⟩ := h
  refine tOp_of (f := f) (Q := fun x H' => ∃ k, x = V.bl k ∧ Q k H') ⟨ρ, hs, s, ?_⟩
  exact fin_mono (finB_bindE h) fun v H1 ⟨x, ρ1, hx, s1, h1⟩ => asB_ok s1 hx h1
theorem sw_and1 (ha : SB X W a ga) : SW X W (.BoolOp .And [a] pos) ga := pw_and1 ha
theorem sw_or1 (ha : SB X W a ga) : SW X W (.BoolOp .Or [a] pos) ga := pw_or1 ha
theorem sw_and (ha : SB X W a ga) (hb : SW X W (.BoolOp .And (b :: rest) pos) gb) : SW X W (.BoolOp .And (a :: b :: rest) pos) (bAnd ga gb) := by
  refine PW.weak (pw_and ha hb) fun σ H Q h => ?_
  obtain ⟨ρ, hs, s, h⟩ := h
  refine ⟨ρ, hs, s, ?_⟩
  have h2 := finB_bindB h
  revert h2
  cases ga ρ with
  | ok c ρ1 =>
    intro h2 H1 s1
    obtain ⟨ρ2, s2, h3⟩ := h2 H1 s1
    cases c with
    | true => exact iteT ⟨ρ2, hs, s2, h3⟩
    | false => exact iteF (h3 H1 s2)
  | exc c ρ1 => exact id
  | bad => exact id
theorem sw_or (ha : SB X W a ga) (hb : SW X W (.BoolOp .Or (b :: rest) pos) gb) : SW X W (.BoolOp .Or (a :: b :: rest) pos) (bOr ga gb) := by
  refine PW.weak (pw_or ha hb) fun σ H Q h => ?_
  obtain ⟨ρ, hs, s, h⟩ := h
  refine ⟨ρ, hs, s, ?_⟩
  have h2 := finB_bindB h
  revert h2
  cases ga ρ with
  | ok c ρ1 =>
    intro h2 H1 s1
    obtain ⟨ρ2, s2, h3⟩ := h2 H1 s1
    cases c with
    | true => exact iteT (h3 H1 s2)
    | false => exact iteF ⟨ρ2, hs, s2, h3⟩
  | exc c ρ1 => exact id
  | bad => exact id
theorem SW.sb {e : Expr} (h : SW X W e ga) : SB X W e ga := PW.pt h
theorem sb_not (ha : SB X W a ga) : SB X W (.UnaryOp .Not a pos) (bNot ga) := by
  refine PT.weak (pt_not ha) fun σ H Q h => ?_
  obtain ⟨ρ, hs, s, h⟩ := h
  refine ⟨ρ, hs, s, ?_⟩
  have h2 := finB_bindB h
  revert h2
  cases ga ρ with
  | ok c ρ1 =>
    intro h2 H1 s1
    obtain ⟨ρ2, s2, h3⟩ := h2 H1 s1
    exact h3 H1 s2
  | exc c ρ1 => exact id
  | bad => exact id
theorem fin_bl {K : PySem.W.Frag} {hs : List VT} {σ : Sg} {H : Hp} {ρ : Env} {Q : VK} {c : Bool} (s : Stt K hs σ H ρ) (f : fin K W hs σ (.ok (.v false (.bl c)) ρ) Q) : Q (.bl c) H := fin_c (d := .bl c) s (fun _ => .bl c) f
/-- the value of an expression that is a bool -/
theorem tB_of {σ : Sg} {H : Hp} {Q : VK} {k : Bool → Env → R XV} {R' : Bool → Hp → Prop} (h : ∃ ρ hs, Stt X.K hs σ H ρ ∧ fin X.K W hs σ ((sB fa ρ).bind k) Q)
    (n : ∀ c H1 ρ1 hs, Stt X.K hs σ H1 ρ1 → fin X.K W hs σ (k c ρ1) Q → R' c H1) : tE X.K W fa σ H (fun x H1 => ∃ c, x = .bl c ∧ R' c H1) := by
  obtain ⟨ρ, hs, s, h⟩ := h
  refine ⟨ρ, hs, s, ?_⟩
  unfold sB at h
  cases e : fa ρ with
  | ok x ρ1 =>
    rw [e] at h
    intro v H1 hx s1
    have h' : fin X.K W hs σ ((asB x ρ1).bind k) Q := h
    unfold asB at h'
    cases ex : view x ρ1 with
    | none => rw [ex] at h'; exact h'.elim
    | some d =>
      rw [ex] at h'
      cases d <;> first | exact h'.elim | skip
      rename_i c
      obtain ⟨o, m⟩ := s1.mem hx (fun p hp => by simp [hp]) ex
      obtain ⟨ws, q⟩ := s1.sep
      exact ⟨c, q.bl m, n c H1 ρ1 hs s1.dropA h'⟩
  | exc c ρ1 => rw [e] at h; exact h
  | bad => rw [e] at h; exact h
theorem se_one {op} (h : SE X W a fa) : SE X W (.BoolOp op [a] pos) fa := pe_one h
theorem se_and (ha : SE X W a fa) (hb : SE X W (.BoolOp .And (b :: rest) pos) fb) : SE X W (.BoolOp .And (a :: b :: rest) pos) (sAnd (sB fa) fb) := by
  refine PE.weak (pe_and ha hb) fun σ H Q h => ?_
  refine tB_of (k := fun c ρ => if c = true then fb ρ else .ok (.v false (.bl false)) ρ) h fun c H1 ρ1 hs s1 h1 => ?_
  cases c with
  | true => exact iteT ⟨ρ1, hs, s1, h1⟩
  | false => exact iteF (fin_bl s1 h1)
theorem se_not (ha : SE X W a fa) : SE X W (.UnaryOp .Not a pos) (sOfB (bNot (sB fa))) := by
  refine PE.weak (pe_not ha) fun σ H Q h => ?_
  obtain ⟨ρ, hs, s, h⟩ := h
  refine tB_of (k := fun c ρ => .ok (.v false (.bl (!c))) ρ) ⟨ρ, hs, s, ?_⟩ fun c H1 ρ1 hs s1 h1 => fin_bl s1 h1
  unfold sOfB bNot at h
  cases e : sB fa ρ with
  | ok c ρ1 => rw [e] at h; exact h
  | exc c ρ1 => rw [e] at h; exact h
  | bad => rw [e] at h; exact h
/-- a <= b <= c (any two comparisons) -/
def sChain (f f' : D → D → Option T) (fa fb fc : Env → R XV) (ρ : Env) : R XV :=
  (fa ρ).bind fun x ρ => (fb ρ).bind fun y ρ => match view x ρ, view y ρ with
    | some d, some e => (match f d e with
      | some (_, .bl true) => (fc ρ).bind fun z ρ => op2 f' y z ρ
      | some (_, .bl false) => .ok (.v false (.bl false)) ρ
      | _ => .bad)
    | _, _ => .bad
theorem tChain_of {fc : Env → R XV} {f f' : D → D → Option T} {σ : Sg} {H : Hp} {Q : VK} (h : tE X.K W (sChain f f' fa fb fc) σ H Q) :
    tChain (rOp X.K f) (rOp X.K f') (tE X.K W fa) (tE X.K W fb) (tE X.K W fc) σ H Q := by
  obtain ⟨ρ, hs, s, h⟩ := h
  refine ⟨ρ, hs, s, fin_mono (fin_bind0 h) fun v H1 ⟨x, ρ1, hx, s1, h1⟩ => ?_⟩
  refine ⟨ρ1, hld x v ++ hs, s1, fin_mono (fin_bind (hld x v) h1) fun u H2 ⟨y, ρ2, hy, s2, h2⟩ => ?_⟩
  cases ex : view x ρ2 with
  | none => rw [ex] at h2; exact h2.elim
  | some d =>
    cases ey : view y ρ2 with
    | none => rw [ex, ey] at h2; exact h2.elim
    | some e =>
      rw [ex, ey] at h2
      dsimp only at h2
      cases ef : f d e with
      | none => rw [ef] at h2; exact h2.elim
      | some t =>
        obtain ⟨o, td⟩ := t
        rw [ef] at h2
        have s2' := s2
        rw [← List.append_assoc] at s2'
        obtain ⟨o1, m1⟩ := s2'.mem hx (fun p hp => by simp [hp]) ex
        obtain ⟨o2, m2⟩ := s2'.mem hy (fun p hp => by simp [hp]) ey
        cases td <;> first | exact h2.elim | skip
        rename_i k
        refine ⟨_, d, e, o1, o2, _, s2'.sep, m1, m2, ef, fun w H3 q3 => ?_⟩
        obtain ⟨ws, q4⟩ := q3
        have ew := q4.bl List.mem_cons_self
        have q5 : Sep X.K H3 (slotsL σ ρ2 ++ ((hld y u ++ hld x v) ++ hs)) := Sep.drop ⟨ws, q4⟩
        have s3 : Stt X.K (hld y u ++ (hld x v ++ hs)) σ H3 ρ2 := ⟨s2.ok, by rw [← List.append_assoc (hld y u)]; exact q5⟩
        refine ⟨k, ew, ?_⟩
        cases k with
        | false => exact iteF (fin_bl s3.dropA.dropA h2)
        | true =>
          refine iteT ⟨ρ2, hld y u ++ (hld x v ++ hs), s3, ?_⟩
          have h3 : fin X.K W hs σ ((fc ρ2).bind fun z ρ => op2 f' y z ρ) Q := h2
          have h4 := fin_bind (hld y u ++ hld x v) h3
          rw [List.append_assoc] at h4
          refine fin_mono h4 fun w' H4 ⟨z, ρ3, hz, s4, h5⟩ => ?_
          rw [← List.append_assoc, ← List.append_assoc] at s4
          exact op2_ok s4 hy hz (fun p hp => by simp [hp]) (fun p hp => by simp [hp]) h5
theorem se_chain {op op' : CmpOp} {c : Expr} {fc : Env → R XV} {f f' : D → D → Option T} (ho : OpR X (compareOp op) (rOp X.K f)) (ho' : OpR X (compareOp op') (rOp X.K f')) (ha : SE X W a fa) (hb : SE X W b fb) (hc : SE X W c fc)
    (hm : lastMarks [op, op'] [b, c] = false) : SE X W (.Compare a [op, op'] [b, c] pos) (sChain f f' fa fb fc) :=
  PE.weak (pe_chain ho ho' ha hb hc hm) fun _ _ _ => tChain_of
theorem sb_chain {op op' : CmpOp} {c : Expr} {fc : Env → R XV} {f f' : D → D → Option T} (ho : OpR X (compareOp op) (rOp X.K f)) (ho' : OpR X (compareOp op') (rOp X.K f')) (ha : SE X W a fa) (hb : SE X W b fb) (hc : SE X W c fc)
    (hm : lastMarks [op, op'] [b, c] = false) : SB X W (.Compare a [op, op'] [b, c] pos) (sB (sChain f f' fa fb fc)) := by
  refine PT.weak (pt_chain ho ho' ha hb hc hm) fun σ H Q h => ?_
  obtain ⟨ρ, hs, s, h⟩ := h
  refine tChain_of (f := f) (f' := f') (Q := fun x H' => ∃ k, x = V.bl k ∧ Q k H') ⟨ρ, hs, s, ?_⟩
  exact fin_mono (finB_bindE h) fun v H1 ⟨x, ρ1, hx, s1, h1⟩ => asB_ok s1 hx h1
end

def ResVs (σ : Sg) : List XV → List V → Prop
  | [], [] => True
  | x :: xs, v :: vs => ResV σ x v ∧ ResVs σ xs vs
  | _, _ => False
def hlds : List XV → List V → List VT
  | x :: xs, v :: vs => hld x v ++ hlds xs vs
  | _, _ => []
def finA (K : PySem.W.Frag) (W : WX) (hs : List VT) (σ : Sg) (r : R (List XV)) (Q : List V → Hp → Prop) : Prop := match r with
  | .ok xs ρ => ∀ vs H, ResVs σ xs vs → Stt K (hlds xs vs ++ hs) σ H ρ → Q vs H
  | .exc c ρ => ∀ H, Stt K hs σ H ρ → W (.ref (He.ga K c)) none σ H
  | .bad => False
def tA (K : PySem.W.Frag) (W : WX) (f : Env → R (List XV)) : TA := fun σ H Q => ∃ ρ hs, Stt K hs σ H ρ ∧ finA K W hs σ (f ρ) Q
def SA (X : Cx) (W : WX) (es : List Expr) (f : Env → R (List XV)) : Prop := PA X es (tA X.K W f)
def sNil (ρ : Env) : R (List XV) := .ok [] ρ
def sCons (f : Env → R XV) (g : Env → R (List XV)) (ρ : Env) : R (List XV) := (f ρ).bind fun x ρ => (g ρ).bind fun xs ρ => .ok (x :: xs) ρ
theorem PA.weak {X : Cx} {es : List Expr} {t t' : TA} (h : PA X es t) (w : ∀ σ H Q, t' σ H Q → t σ H Q) : PA X es t' := ⟨fun pos pins s σ H Q I q => h.run pos pins s σ H Q I (w σ H Q q)⟩
section
variable {K : PySem.W.Frag} {W : WX} {hs : List VT} {σ : Sg} {H : Hp} {ρ : Env}
theorem fin_bindA {k : List XV → Env → R XV} {r : R (List XV)} {Q : VK} (A : List VT) (h : fin K W hs σ (r.bind k) Q) :
    finA K W (A ++ hs) σ r (fun vs H1 => ∃ xs ρ1, ResVs σ xs vs ∧ Stt K (hlds xs vs ++ (A ++ hs)) σ H1 ρ1 ∧ fin K W hs σ (k xs ρ1) Q) := by
  cases r with
  | ok x ρ => exact fun v H1 hv s => ⟨x, ρ, hv, s, h⟩
  | exc c ρ => exact fun H1 s => h H1 s.dropA
  | bad => exact h
theorem fin_bindA0 {k : List XV → Env → R XV} {r : R (List XV)} {Q : VK} (h : fin K W hs σ (r.bind k) Q) :
    finA K W hs σ r (fun vs H1 => ∃ xs ρ1, ResVs σ xs vs ∧ Stt K (hlds xs vs ++ hs) σ H1 ρ1 ∧ fin K W hs σ (k xs ρ1) Q) := fin_bindA [] h
theorem finA_mono {r : R (List XV)} {Q Q' : List V → Hp → Prop} (h : finA K W hs σ r Q) (m : ∀ v H, Q v H → Q' v H) : finA K W hs σ r Q' := by
  cases r with
  | ok x ρ => exact fun v H hv s => m _ _ (h v H hv s)
  | exc c ρ => exact h
  | bad => exact h
theorem sa_nil {X : Cx} : SA X W [] sNil := by
  refine PA.weak pa_nil fun σ H Q h => ?_
  obtain ⟨ρ, hs, s, h⟩ := h
  exact h [] H trivial s
theorem sa_cons {X : Cx} {e : Expr} {es : List Expr} {f : Env → R XV} {g : Env → R (List XV)} (ha : SE X W e f) (hr : SA X W es g) (hst : starEach (e :: es) X.env = (false, eval e X.env) :: starEach es X.env) : SA X W (e :: es) (sCons f g) := by
  refine PA.weak (pa_cons ha hr hst) fun σ H Q h => ?_
  obtain ⟨ρ, hs, s, h⟩ := h
  refine ⟨ρ, hs, s, ?_⟩
  unfold sCons at h
  cases e1 : f ρ with
  | ok x ρ1 =>
    rw [e1] at h
    intro v H1 hx s1
    have h' : finA X.K W hs σ ((g ρ1).bind fun xs ρ => .ok (x :: xs) ρ) Q := h
    refine ⟨ρ1, hld x v ++ hs, s1, ?_⟩
    cases e2 : g ρ1 with
    | ok xs ρ2 =>
      rw [e2] at h'
      intro vs H2 hxs s2
      refine h' (v :: vs) H2 ⟨hx, hxs⟩ (s2.perm ?_)
      show (hlds xs vs ++ (hld x v ++ hs)).Perm ((hld x v ++ hlds xs vs) ++ hs)
      rw [List.append_assoc, ← List.append_assoc, ← List.append_assoc]
      exact List.perm_append_comm.append_right _
    | exc c ρ2 => rw [e2] at h'; exact fun H2 s2 => h' H2 s2.dropA
    | bad => rw [e2] at h'; exact h'
  | exc c ρ1 => rw [e1] at h; exact h
  | bad => rw [e1] at h; exact h
end

def frz (x : XV) (ρ : Env) : R D := match x with
  | .v _ d => .ok d ρ
  | .b i => (match gt ρ i with
    | some t => .ok t.2 (pt ρ i (some (false, t.2)))
    | none => .bad)
def frzs : List XV → Env → R (List D)
  | [], ρ => .ok [] ρ
  | x :: xs, ρ => (frz x ρ).bind fun d ρ => (frzs xs ρ).bind fun ds ρ => .ok (d :: ds) ρ
def prs : List V → List D → List VT
  | v :: vs, d :: ds => (v, (false, d)) :: prs vs ds
  | _, _ => []
section
variable {K : PySem.W.Frag} {W : WX} {hs : List VT} {σ : Sg} {H : Hp} {ρ ρ' : Env}
theorem frz_ok {x : XV} {v : V} {d : D} (s : Stt K (hld x v ++ hs) σ H ρ) (hx : ResV σ x v) (e : frz x ρ = .ok d ρ') : Stt K ((v, (false, d)) :: hs) σ H ρ' := by
  cases x with
  | v o d' =>
    cases e
    refine ⟨s.ok, ?_⟩
    have q : Sep K H ((v, (o, d)) :: (slotsL σ ρ ++ hs)) := s.sep.perm List.perm_middle
    exact q.freeze.perm List.perm_middle.symm
  | b i =>
    unfold frz at e
    dsimp only at e
    cases q : gt ρ i with
    | none => rw [q] at e; cases e
    | some t =>
      rw [q] at e
      obtain ⟨o, dd⟩ := t
      obtain ⟨rfl, rfl⟩ : dd = d ∧ pt ρ i (some (false, dd)) = ρ' := by
        injection e with e1 e2
        exact ⟨e1, e2⟩
      have hi : i < ρ.length := gt_lt q
      have hx' : σ[i]? = some (some v) := hx
      have p := slots_take hx' q
      have p2 := slots_keep (t := (false, dd)) hx' hi
      have q1 : Sep K H ((v, (o, dd)) :: (slotsL σ (pt ρ i none) ++ hs)) := s.sep.perm (p.append_right hs)
      have q2 := q1.freeze
      have q3 := q2.dup (v := v) (d := dd) List.mem_cons_self
      refine ⟨s.ok.keep i hx', ?_⟩
      have p3 : ((v, (false, dd)) :: ((v, (false, dd)) :: (slotsL σ (pt ρ i none) ++ hs))).Perm (slotsL σ (pt ρ i (some (false, dd))) ++ ((v, (false, dd)) :: hs)) := by
        refine List.Perm.trans ?_ List.perm_middle.symm
        exact List.Perm.cons _ (p2.symm.append_right hs)
      exact q3.perm p3
theorem frzs_ok : ∀ {xs : List XV} {vs : List V} {ds : List D} {hs : List VT} {ρ ρ' : Env}, Stt K (hlds xs vs ++ hs) σ H ρ → ResVs σ xs vs → frzs xs ρ = .ok ds ρ' → Stt K (prs vs ds ++ hs) σ H ρ' ∧ vs.length = ds.length
  | [], [], ds, hs, ρ, ρ', s, _, e => by cases e; exact ⟨s, rfl⟩
  | [], _ :: _, _, _, _, _, _, h, _ => h.elim
  | _ :: _, [], _, _, _, _, _, h, _ => h.elim
  | x :: xs, v :: vs, ds, hs, ρ, ρ', s, h, e => by
    unfold frzs at e
    cases e1 : frz x ρ with
    | ok d ρ1 =>
      rw [e1] at e
      have e' : (frzs xs ρ1).bind (fun ds ρ => .ok (d :: ds) ρ) = .ok ds ρ' := e
      cases e2 : frzs xs ρ1 with
      | ok ds' ρ2 =>
        rw [e2] at e'
        cases e'
        have s' : Stt K (hld x v ++ (hlds xs vs ++ hs)) σ H ρ := by rw [← List.append_assoc]; exact s
        have s1 := frz_ok s' h.1 e1
        have s2 : Stt K (hlds xs vs ++ ((v, (false, d)) :: hs)) σ H ρ1 := s1.perm List.perm_middle.symm
        obtain ⟨s3, hl⟩ := frzs_ok s2 h.2 e2
        exact ⟨s3.perm List.perm_middle, by rw [List.length_cons, List.length_cons, hl]⟩
      | exc c ρ2 => rw [e2] at e'; cases e'
      | bad => rw [e2] at e'; cases e'
    | exc c ρ1 => rw [e1] at e; cases e
    | bad => rw [e1] at e; cases e
theorem prs_rep {L : List VT} {ws : List Addr} (s : SepW K H L ws) : ∀ {vs : List V} {ds : List D}, vs.length = ds.length → (∀ p ∈ prs vs ds, p ∈ L) → RepAll K H (· ∈ ws) vs ds
  | [], [], _, _ => .nil
  | [], _ :: _, h, _ => by cases h
  | _ :: _, [], h, _ => by cases h
  | v :: vs, d :: ds, h, m => .cons (s.rep (m _ List.mem_cons_self)) (prs_rep s (by simpa using h) fun p hp => m p (List.mem_cons_of_mem _ hp))
end
abbrev lim : Nat := 16777216
theorem lim_eq : lim = sizeLine := sizeLine_eq.symm
def sTup (f : Env → R (List XV)) (ρ : Env) : R XV := (f ρ).bind fun xs ρ => (frzs xs ρ).bind fun ds ρ => if ds.length ≤ lim then .ok (.v false (.tup ds)) ρ else .bad
def sLst (f : Env → R (List XV)) (ρ : Env) : R XV := (f ρ).bind fun xs ρ => (frzs xs ρ).bind fun ds ρ => if ds.length ≤ lim then .ok (.v true (.lst ds)) ρ else .bad
section
variable {X : Cx} {W : WX} {es : List Expr} {f : Env → R (List XV)} {pos : Pos}
theorem frzs_exc {K : PySem.W.Frag} : ∀ {xs : List XV} {ρ ρ' : Env} {c : Str}, frzs xs ρ ≠ .exc c ρ'
  | [], _, _, _, h => by cases h
  | x :: xs, ρ, ρ', c, h => by
    unfold frzs at h
    cases e1 : frz x ρ with
    | ok d ρ1 =>
      rw [e1] at h
      have h' : (frzs xs ρ1).bind (fun ds ρ => .ok (d :: ds) ρ) = .exc c ρ' := h
      cases e2 : frzs xs ρ1 with
      | ok ds' ρ2 => rw [e2] at h'; cases h'
      | exc c2 ρ2 => exact frzs_exc (K := K) e2
      | bad => rw [e2] at h'; cases h'
    | exc c ρ1 =>
      unfold frz at e1
      cases x with
      | v o d => cases e1
      | b i =>
        dsimp only at e1
        cases q : gt ρ i with
        | none => rw [q] at e1; cases e1
        | some t => rw [q] at e1; cases e1
    | bad => rw [e1] at h; cases h
/-- a tuple display: the new tuple is known to its object -/
theorem Inv.tupF {X : Cx} {pins : List (Addr × Obj)} {σ : Sg} {H : Hp} {s : Shared} {xs : List V} {its : List Value} {t' : Nat} (I : Inv X pins σ H s) (r : Vals xs its) (hz : xs.length ≤ sizeLine) :
    Inv X pins σ (upd H s.heap.objs.size (.frz { cls := .type "tuple", data := .seq its.toArray } (.tup xs))) { s with heap := s.heap.push { cls := .type "tuple", data := .seq its.toArray }, toks := t' } :=
  I.laid (fun _ _ e => Heap.get?_push_of_some _ e) (Nat.le_refl _) ⟨Heap.get?_push_size _ rfl, hz, its, r, IsTup.new _ _⟩
def rNewT (xs : List V) (H : Hp) (Q : VK) : Prop := ∀ (p : Addr) (o : Obj), H p = none → o.dict = none → Q (.ref p) (upd H p (.frz o (.tup xs)))
theorem rNewT.use {X : Cx} {pins : List (Addr × Obj)} {σ : Sg} {H : Hp} {s : Shared} {xs : List V} {its : List Value} {t' : Nat} {Q : VK} (q : rNewT xs H Q) (I : Inv X pins σ H s) (r : Vals xs its) (hz : xs.length ≤ sizeLine) :
    EP X pins σ Q (.ref s.heap.objs.size) { s with heap := s.heap.push { cls := .type "tuple", data := .seq its.toArray }, toks := t' } :=
  ⟨.ref s.heap.objs.size, _, Inv.tupF I r hz, rfl, q _ _ (I.hok.fresh (Nat.le_refl _)) rfl⟩
theorem rNewT.of {K : PySem.W.Frag} {L : List VT} {H : Hp} {Q : VK} {ws : List Addr} {vs : List V} {ds : List D} (s : SepW K H L ws) (r : RepAll K H (· ∈ ws) vs ds) (q : ∀ w H', Sep K H' ((w, (false, D.tup ds)) :: L) → Q w H') : rNewT vs H Q :=
  fun p o hp ho => q _ _ ⟨ws, s.newTup hp ho r⟩
theorem pe_tupF {k : Nat} {t : TA} (h : PA X es t) : PE X (.Tuple es k pos) (fun σ H Q => t σ H fun xs H1 => xs.length ≤ sizeLine ∧ rNewT xs H1 Q) := by
  refine ⟨fun pins s σ H Q I hq => wpAny_Tuple_spliced (thn (h.run pos pins s σ H _ I hq) fun us s1 hh => ?_)⟩
  obtain ⟨xs, H1, I1, r, z, q⟩ := hh
  exact ⟨by rw [← r.length]; exact z, q.use (t' := s1.toks) I1 r z⟩
theorem se_tup {k : Nat} (h : SA X W es f) : SE X W (.Tuple es k pos) (sTup f) := by
  refine PE.weak (pe_tupF h) fun σ H Q h => ?_
  obtain ⟨ρ, hs, s, h⟩ := h
  refine ⟨ρ, hs, s, finA_mono (fin_bindA0 h) fun vs H1 ⟨xs, ρ1, hx, s1, h1⟩ => ?_⟩
  cases e : frzs xs ρ1 with
  | exc c ρ2 => exact (frzs_exc (K := X.K) e).elim
  | bad => rw [e] at h1; exact h1.elim
  | ok ds ρ2 =>
    rw [e] at h1
    have h2 : fin X.K W hs σ (if ds.length ≤ lim then .ok (.v false (.tup ds)) ρ2 else .bad) Q := h1
    obtain ⟨s2, hl⟩ := frzs_ok s1 hx e
    by_cases hz : ds.length ≤ lim
    · rw [if_pos hz] at h2
      obtain ⟨ws, q⟩ := s2.sep
      exact ⟨by rw [hl]; exact hz, rNewT.of q (prs_rep q hl fun p hp => by simp [hp]) fun w H' q' => h2 w H' trivial (s2.done (t := (false, .tup ds)) q')⟩
    · rw [if_neg hz] at h2; exact h2.elim
theorem se_lst (h : SA X W es f) : SE X W (.List es pos) (sLst f) := by
  refine PE.weak (pe_lst h) fun σ H Q h => ?_
  obtain ⟨ρ, hs, s, h⟩ := h
  refine ⟨ρ, hs, s, finA_mono (fin_bindA0 h) fun vs H1 ⟨xs, ρ1, hx, s1, h1⟩ => ?_⟩
  cases e : frzs xs ρ1 with
  | exc c ρ2 => exact (frzs_exc (K := X.K) e).elim
  | bad => rw [e] at h1; exact h1.elim
  | ok ds ρ2 =>
    rw [e] at h1
    have h2 : fin X.K W hs σ (if ds.length ≤ lim then .ok (.v true (.lst ds)) ρ2 else .bad) Q := h1
    obtain ⟨s2, hl⟩ := frzs_ok s1 hx e
    by_cases hz : ds.length ≤ lim
    · rw [if_pos hz] at h2
      refine ⟨by rw [hl]; exact hz, fun p hp => ?_⟩
      obtain ⟨ws, q⟩ := s2.sep
      have r := prs_rep q hl fun p hp => by simp [hp]
      exact h2 _ _ trivial (s2.done (t := (true, .lst ds)) ⟨_, q.newLst hp r⟩)
    · rw [if_neg hz] at h2; exact h2.elim
end

def views : List XV → Env → Option (List D)
  | [], _ => some []
  | x :: xs, ρ => (view x ρ).bind fun d => (views xs ρ).map fun ds => d :: ds
abbrev Mems (L : List VT) : List V → List D → Prop := Paired fun v d => ∃ o, (v, (o, d)) ∈ L
def rCl (K : PySem.W.Frag) (cf : List D → Option T) : List V → Hp → VK → Prop := fun vs H Q => ∃ L ds t, Sep K H L ∧ Mems L vs ds ∧ cf ds = some t ∧ ∀ w H', Sep K H' ((w, t) :: L) → Q w H'
def opN (cf : List D → Option T) (xs : List XV) (ρ : Env) : R XV := match views xs ρ with
  | some ds => (match cf ds with
    | some t => .ok (.v t.1 t.2) ρ
    | none => .bad)
  | none => .bad
def sCl (cf : List D → Option T) (f : Env → R (List XV)) (ρ : Env) : R XV := (f ρ).bind (opN cf)
section
variable {K : PySem.W.Frag} {W : WX} {hs A : List VT} {σ : Sg} {H : Hp} {ρ : Env}
theorem views_mem {B : List VT} (s : Stt K B σ H ρ) : ∀ {xs : List XV} {vs : List V} {ds : List D}, ResVs σ xs vs → (∀ p ∈ hlds xs vs, p ∈ B) → views xs ρ = some ds → Mems (slotsL σ ρ ++ B) vs ds
  | [], [], _, _, _, e => by cases e; exact .nil
  | [], _ :: _, _, h, _, _ => h.elim
  | _ :: _, [], _, h, _, _ => h.elim
  | x :: xs, v :: vs, ds, h, m, e => by
    unfold views at e
    cases e1 : view x ρ with
    | none => rw [e1] at e; cases e
    | some d =>
      rw [e1] at e
      have e' : (views xs ρ).map (fun ds => d :: ds) = some ds := e
      cases e2 : views xs ρ with
      | none => rw [e2] at e'; cases e'
      | some ds' =>
        rw [e2] at e'
        cases e'
        exact .cons (s.mem h.1 (fun p hp => m p (List.mem_append_left _ hp)) e1) (views_mem s h.2 (fun p hp => m p (List.mem_append_right _ hp)) e2)
theorem opN_ok {cf : List D → Option T} {xs : List XV} {vs : List V} {Q : VK} (s : Stt K (A ++ hs) σ H ρ) (hx : ResVs σ xs vs) (m : ∀ p ∈ hlds xs vs, p ∈ A ++ hs) (h : fin K W hs σ (opN cf xs ρ) Q) : rCl K cf vs H Q := by
  unfold opN at h
  cases e : views xs ρ with
  | none => rw [e] at h; exact h.elim
  | some ds =>
    rw [e] at h
    dsimp only at h
    cases ef : cf ds with
    | none => rw [ef] at h; exact h.elim
    | some t =>
      rw [ef] at h
      exact ⟨_, ds, t, s.sep, views_mem s hx m e, ef, fun w H' q => h w H' trivial (s.done q)⟩
end
section
variable {X : Cx} {W : WX} {e : Expr} {es : List Expr} {f : Env → R (List XV)} {p pos : Pos} {x : Str}
theorem tCB_of {cf : List D → Option T} {σ : Sg} {H : Hp} {Q : VK} (h : tE X.K W (sCl cf f) σ H Q) : tCB (rCl X.K cf) (tA X.K W f) σ H Q := by
  obtain ⟨ρ, hs, s, h⟩ := h
  refine ⟨ρ, hs, s, finA_mono (fin_bindA0 h) fun vs H1 ⟨xs, ρ1, hx, s1, h1⟩ => ?_⟩
  exact opN_ok s1 hx (fun p hp => by simp [hp]) h1
theorem se_callB {id : String} {cf : List D → Option T} (hc : CallR X (.builtin id) (rCl X.K cf)) (hg : Gl X x) (hm : X.mg x = none) (hv : bootBuiltins x = some (.builtin id)) (ha : SA X W (e :: es) f) (hn : x ≠ "__name__") (hdb : (x == ("__debug__" : Str)) = false)
    (he : starEach (e :: es) X.env = (false, eval e X.env) :: starEach es X.env) (hpl : (backTo pos (starEach es X.env)).any (·.1) = false) : SE X W (.Call (.Name x p) (e :: es) [] pos) (sCl cf f) :=
  PE.weak (pe_callB hc hg hm hv ha hn hdb he hpl) fun _ _ _ => tCB_of
theorem se_callTy {T : String} {cf : List D → Option Lz.T} (hc : CallR X (.type T) (rCl X.K cf)) (hg : Gl X x) (hm : X.mg x = none) (hv : bootBuiltins x = some (.type T)) (ha : SA X W (e :: es) f) (hn : x ≠ "__name__") (hdb : (x == ("__debug__" : Str)) = false)
    (he : starEach (e :: es) X.env = (false, eval e X.env) :: starEach es X.env) (hpl : (backTo pos (starEach es X.env)).any (·.1) = false) : SE X W (.Call (.Name x p) (e :: es) [] pos) (sCl cf f) :=
  PE.weak (pe_callTy hc hg hm hv ha hn hdb he hpl) fun _ _ _ => tCB_of
end

def sOpt (f : Option (Env → R XV)) (ρ : Env) : R (Option Int) := match f with
  | none => .ok none ρ
  | some f => (f ρ).bind fun x ρ => match view x ρ with
    | some (.int i) => .ok (some i) ρ
    | _ => .bad
def finO (K : PySem.W.Frag) (W : WX) (hs : List VT) (σ : Sg) (r : R (Option Int)) (Q : Option Int → Hp → Prop) : Prop := match r with
  | .ok c ρ => ∀ H, Stt K hs σ H ρ → Q c H
  | .exc c ρ => ∀ H, Stt K hs σ H ρ → W (.ref (He.ga K c)) none σ H
  | .bad => False
def tO (K : PySem.W.Frag) (W : WX) (g : Env → R (Option Int)) : TO := fun σ H Q => ∃ ρ hs, Stt K hs σ H ρ ∧ finO K W hs σ (g ρ) Q
def SO (X : Cx) (W : WX) (e : Option Expr) (g : Env → R (Option Int)) : Prop := PO X e (tO X.K W g)
theorem PO.weak {X : Cx} {e : Option Expr} {t t' : TO} (h : PO X e t) (w : ∀ σ H Q, t' σ H Q → t σ H Q) : PO X e t' := ⟨fun pins s σ H Q I q => h.run pins s σ H Q I (w σ H Q q)⟩
def rSl (K : PySem.W.Frag) (f : D → Option Int → Option Int → Option T) : V → Option Int → Option Int → Hp → VK → Prop := fun x lo hi H Q => ∃ L d o t, Sep K H L ∧ (x, (o, d)) ∈ L ∧ f d lo hi = some t ∧ ∀ w H', Sep K H' ((w, t) :: L) → Q w H'
def sSl (f : D → Option Int → Option Int → Option T) (a : Env → R XV) (lo hi : Option (Env → R XV)) (ρ : Env) : R XV :=
  (a ρ).bind fun x ρ => (sOpt lo ρ).bind fun l ρ => (sOpt hi ρ).bind fun h ρ => op1 (fun d => f d l h) x ρ
section
variable {K : PySem.W.Frag} {W : WX} {hs : List VT} {σ : Sg} {H : Hp} {ρ : Env}
theorem fin_bindO {k : Option Int → Env → R XV} {r : R (Option Int)} {Q : VK} (A : List VT) (h : fin K W hs σ (r.bind k) Q) :
    finO K W (A ++ hs) σ r (fun c H1 => ∃ ρ1, Stt K (A ++ hs) σ H1 ρ1 ∧ fin K W hs σ (k c ρ1) Q) := by
  cases r with
  | ok c ρ => exact fun H1 s => ⟨ρ, s, h⟩
  | exc c ρ => exact fun H1 s => h H1 s.dropA
  | bad => exact h
theorem so_none {X : Cx} : SO X W none (sOpt none) := PO.weak po_none fun σ H Q ⟨ρ, hs, s, h⟩ => h H s
theorem so_some {X : Cx} {e : Expr} {f : Env → R XV} (h : SE X W e f) : SO X W (some e) (sOpt (some f)) := by
  refine PO.weak (po_some h) fun σ H Q h => ?_
  obtain ⟨ρ, hs, s, h⟩ := h
  refine ⟨ρ, hs, s, ?_⟩
  unfold sOpt at h
  dsimp only at h
  cases e1 : f ρ with
  | ok x ρ1 =>
    rw [e1] at h
    intro v H1 hx s1
    have h' : finO X.K W hs σ (match view x ρ1 with | some (.int i) => .ok (some i) ρ1 | _ => .bad) Q := h
    cases ex : view x ρ1 with
    | none => rw [ex] at h'; exact h'.elim
    | some d =>
      rw [ex] at h'
      cases d <;> first | exact h'.elim | skip
      rename_i i
      obtain ⟨o, m⟩ := s1.mem hx (fun p hp => by simp [hp]) ex
      obtain ⟨ws, q⟩ := s1.sep
      exact ⟨i, q.int m, h' H1 s1.dropA⟩
  | exc c ρ1 => rw [e1] at h; exact h
  | bad => rw [e1] at h; exact h
theorem finO_mono {r : R (Option Int)} {Q Q' : Option Int → Hp → Prop} (h : finO K W hs σ r Q) (m : ∀ c H, Q c H → Q' c H) : finO K W hs σ r Q' := by
  cases r with
  | ok x ρ => exact fun H s => m _ _ (h H s)
  | exc c ρ => exact h
  | bad => exact h
theorem se_slice {X : Cx} {a : Expr} {lo hi : Option Expr} {p2 pos : Pos} {fa : Env → R XV} {fl fh : Option (Env → R XV)} {f : D → Option Int → Option Int → Option T} (hr : SlR X (rSl X.K f)) (ha : SE X W a fa) (hl : SO X W lo (sOpt fl)) (hh : SO X W hi (sOpt fh)) :
    SE X W (.Subscript a (.Slice lo hi none p2) pos) (sSl f fa fl fh) := by
  refine PE.weak (pe_slice hr ha hl hh) fun σ H Q h => ?_
  obtain ⟨ρ, hs, s, h⟩ := h
  refine ⟨ρ, hs, s, fin_mono (fin_bind0 h) fun v H1 ⟨x, ρ1, hx, s1, h1⟩ => ?_⟩
  refine ⟨ρ1, _, s1, finO_mono (fin_bindO (hld x v) h1) fun l H2 ⟨ρ2, s2, h2⟩ => ?_⟩
  refine ⟨ρ2, _, s2, finO_mono (fin_bindO (hld x v) h2) fun u H3 ⟨ρ3, s3, h3⟩ => ?_⟩
  exact op1_ok (f := fun d => f d l u) s3 hx (fun p hp => by simp [hp]) h3
end

def rMt (K : PySem.W.Frag) (mf : D → List D → Option T) : V → List V → Hp → VK → Prop := fun x vs H Q => ∃ L d o ds t, Sep K H L ∧ (x, (o, d)) ∈ L ∧ Mems L vs ds ∧ mf d ds = some t ∧ ∀ w H', Sep K H' ((w, t) :: L) → Q w H'
def isTy (ty : String) (d : D) : Bool := match d with
  | .lst _ => ty == "list"
  | .tup _ => ty == "tuple"
  | .str _ => ty == "str"
  | _ => false
def opM (mf : D → List D → Option T) (x : XV) (xs : List XV) (ρ : Env) : R XV := match view x ρ, views xs ρ with
  | some d, some ds => (match mf d ds with
    | some t => .ok (.v t.1 t.2) ρ
    | none => .bad)
  | _, _ => .bad
def sMt (ty : String) (mf : D → List D → Option T) (a : Env → R XV) (f : Env → R (List XV)) (ρ : Env) : R XV := (a ρ).bind fun x ρ => match view x ρ with
  | some d => if isTy ty d = true then (f ρ).bind fun xs ρ => opM mf x xs ρ else .bad
  | none => .bad
section
variable {K : PySem.W.Frag} {W : WX} {hs A : List VT} {σ : Sg} {H : Hp} {ρ : Env}
/-- the value is of that built-in type, and has no dict of its own -/
def tyW (K : PySem.W.Frag) (ty : String) (x : V) (H : Hp) : Prop := match x with
  | .str _ => ty = "str"
  | .ref p => (ty = "list" ∧ ∃ xs, H p = some (.lst xs)) ∨ (ty = "tuple" ∧ TupD K H p)
  | _ => False
theorem tyW_is {X : Cx} {pins : List (Addr × Obj)} {s : Shared} {ty : String} {x : V} {v : Value} (I : Inv X pins σ H s) (r : RelV x v) (h : tyW X.K ty x H) :
    s.TypeIs v ty ∧ ∀ a, v = .ref a → ∃ ob, s.heap.get? a = some ob ∧ ob.dict = none := by
  cases x with
  | str z =>
    obtain ⟨t, rfl⟩ := r
    have e : ty = "str" := h
    subst e
    exact ⟨typeIs_str s z t, fun a e => by cases e⟩
  | ref p =>
    cases r
    rcases h with ⟨rfl, xs, hp⟩ | ⟨rfl, ⟨o, vs, hp, hd⟩ | ⟨o, hk, hc, hd⟩⟩
    · obtain ⟨_, its, n, _, e⟩ := I.hok p _ hp
      exact ⟨⟨_, e, rfl⟩, fun a q => by cases q; exact ⟨_, e, rfl⟩⟩
    · obtain ⟨e, _, _, _, o', e', hc, _⟩ := I.hok p _ hp
      rw [e] at e'
      cases e'
      exact ⟨⟨_, e, hc⟩, fun a q => by cases q; exact ⟨_, e, hd⟩⟩
    · have e := I.kIn p o hk
      exact ⟨⟨_, e, hc⟩, fun a q => by cases q; exact ⟨_, e, hd⟩⟩
  | _ => exact False.elim h
theorem isTy_ok {L : List VT} {v : V} {o : Bool} {d : D} {ty : String} (s : Sep K H L) (m : (v, (o, d)) ∈ L) (h : isTy ty d = true) : tyW K ty v H := by
  obtain ⟨ws, q⟩ := s
  cases d with
  | lst ds =>
    obtain ⟨a, vs, rfl, h1, _⟩ := q.lst m
    exact .inl ⟨beq_iff_eq.mp h, _, h1⟩
  | tup ds =>
    obtain ⟨a, vs, rfl, h1, _, h2⟩ := q.tup m
    exact .inr ⟨beq_iff_eq.mp h, h2⟩
  | str z =>
    have e2 := q.str m
    subst e2
    exact beq_iff_eq.mp h
  | _ => cases h
theorem opM_ok {mf : D → List D → Option T} {x : XV} {v : V} {xs : List XV} {vs : List V} {Q : VK} (s : Stt K (A ++ hs) σ H ρ) (hx : ResV σ x v) (mx : ∀ p ∈ hld x v, p ∈ A ++ hs) (hxs : ResVs σ xs vs) (m : ∀ p ∈ hlds xs vs, p ∈ A ++ hs) (h : fin K W hs σ (opM mf x xs ρ) Q) : rMt K mf v vs H Q := by
  unfold opM at h
  cases e0 : view x ρ with
  | none => rw [e0] at h; exact h.elim
  | some d =>
    cases e : views xs ρ with
    | none => rw [e0, e] at h; exact h.elim
    | some ds =>
      rw [e0, e] at h
      dsimp only at h
      cases ef : mf d ds with
      | none => rw [ef] at h; exact h.elim
      | some t =>
        rw [ef] at h
        obtain ⟨o, m1⟩ := s.mem hx mx e0
        exact ⟨_, d, o, ds, t, s.sep, m1, views_mem s hxs m e, ef, fun w H' q => h w H' trivial (s.done q)⟩
end
section
variable {X : Cx} {W : WX} {o e : Expr} {es : List Expr} {fa : Env → R XV} {f : Env → R (List XV)} {name : Str} {apos cpos : Pos} {ty id : String} {mf : D → List D → Option T}
theorem pe_bmW {to : TE} {t : TA} {r : V → List V → Hp → VK → Prop} (pa : PlainAttrs ty) (slot : Slot ty name id) (hty : typeOf (.builtin id) = pure (.type "method_descriptor")) (hm : MtR X id r) (ho : PE X o to) (ha : PA X (e :: es) t)
    (hbase : attributeBase o name X.env (eval o X.env) = eval o X.env)
    (few : ((backTo cpos (starEach (e :: es) X.env)).all (fun x => !x.1) && (backToKw cpos (keywordEach [] X.env)).all (fun x => x.1.isSome) && decide ((e :: es).length + 0 + 0 < 30)) = true)
    (hline : (apos.endLine == cpos.line) = true) (hst : starEach (e :: es) X.env = (false, eval e X.env) :: starEach es X.env) (hpl : (backTo cpos (starEach es X.env)).any (·.1) = false) :
    PE X (.Call (.Attribute o name apos) (e :: es) [] cpos) (fun σ H Q => to σ H fun x H1 => tyW X.K ty x H1 ∧ t σ H1 fun xs H2 => r x xs H2 Q) := by
  refine ⟨fun pins s σ H Q I h => wpAny_Call_method_late hbase few hline rfl (thn (ho.run pins s σ H _ I h) fun v s1 hh => ?_)⟩
  obtain ⟨x, H1, I1, r1, tw, q1⟩ := hh
  obtain ⟨h1, h2⟩ := tyW_is I1 r1 tw
  have hA := ha.run cpos pins s1 σ H1 _ I1 q1
  rw [hst] at hA
  refine ⟨ty, id, pa, slot, hty, h1, h2, ?_⟩
  rw [hst]
  refine Calls.callWith_builtin ?_ (Calls.evalArgs_plain (thn hA fun us s2 hh => ?_))
  · show (false || (backTo cpos (starEach es X.env)).any (·.1)) = false
    rw [hpl]; rfl
  · obtain ⟨vs, H2, I2, r2, q2⟩ := hh
    exact hm pins s2 σ H2 x vs v us Q I2 r1 r2 q2
theorem se_bm (pa : PlainAttrs ty) (slot : Slot ty name id) (hty : typeOf (.builtin id) = pure (.type "method_descriptor")) (hm : MtR X id (rMt X.K mf)) (ho : SE X W o fa) (ha : SA X W (e :: es) f)
    (hbase : attributeBase o name X.env (eval o X.env) = eval o X.env)
    (few : ((backTo cpos (starEach (e :: es) X.env)).all (fun x => !x.1) && (backToKw cpos (keywordEach [] X.env)).all (fun x => x.1.isSome) && decide ((e :: es).length + 0 + 0 < 30)) = true)
    (hline : (apos.endLine == cpos.line) = true) (hst : starEach (e :: es) X.env = (false, eval e X.env) :: starEach es X.env) (hpl : (backTo cpos (starEach es X.env)).any (·.1) = false) :
    SE X W (.Call (.Attribute o name apos) (e :: es) [] cpos) (sMt ty mf fa f) := by
  refine PE.weak (pe_bmW pa slot hty hm ho ha hbase few hline hst hpl) fun σ H Q h => ?_
  obtain ⟨ρ, hs, s, h⟩ := h
  refine ⟨ρ, hs, s, fin_mono (fin_bind0 h) fun v H1 ⟨x, ρ1, hx, s1, h1⟩ => ?_⟩
  cases e0 : view x ρ1 with
  | none => rw [e0] at h1; exact h1.elim
  | some d =>
    rw [e0] at h1
    dsimp only at h1
    cases et : isTy ty d with
    | false => rw [et] at h1; exact h1.elim
    | true =>
      rw [et, if_pos rfl] at h1
      obtain ⟨o1, m1⟩ := s1.mem hx (fun p hp => by simp [hp]) e0
      refine ⟨isTy_ok s1.sep m1 et, ρ1, _, s1, finA_mono (fin_bindA (hld x v) h1) fun vs H2 ⟨xs, ρ2, hxs, s2, h2⟩ => ?_⟩
      rw [← List.append_assoc] at s2
      exact opM_ok s2 hx (fun p hp => by simp [hp]) hxs (fun p hp => by simp [hp]) h2
end
end Lz
namespace Lz
open PySem PySem.Spec PyProof.Rows L2

abbrev pI (i : Int) : Option T := some (false, .int i)
abbrev pB (b : Bool) : Option T := some (false, .bl b)
def opAdd : D → D → Option T
  | .int i, .int j => pI (i + j)
  | .str a, .str b => if a.length + b.length ≤ lim then some (false, .str (a ++ b)) else none
  | .lst a, .lst b => if a.length + b.length ≤ lim then some (true, .lst (a ++ b)) else none
  | .tup a, .tup b => if a.length + b.length ≤ lim then some (false, .tup (a ++ b)) else none
  | _, _ => none
def opSub : D → D → Option T
  | .int i, .int j => pI (i - j)
  | _, _ => none
noncomputable def opMul : D → D → Option T
  | .int i, .int j => cif ((-(2 ^ 64) < i ∧ i < 2 ^ 64) ∨ (-(2 ^ 64) < j ∧ j < 2 ^ 64)) (pI (i * j)) none
  | .lst a, .int k => if -(2 ^ 63) ≤ k ∧ k < 2 ^ 63 ∧ a.length * k.toNat ≤ lim then some (true, .lst (List.replicate k.toNat a).flatten) else none
  | .tup a, .int k => if a ≠ [] ∧ 2 ≤ k ∧ k ≤ 1000 ∧ a.length ≤ 1000 then some (false, .tup (List.replicate k.toNat a).flatten) else if k = 1 then some (false, .tup a) else none
  | _, _ => none
def opMod : D → D → Option T
  | .int i, .int j => if j = 0 then none else pI (i.fmod j)
  | _, _ => none
def opFdv : D → D → Option T
  | .int i, .int j => if j ≠ 0 ∧ j.natAbs < 1073741824 then pI (i.fdiv j) else none
  | _, _ => none
def opPow : D → D → Option T
  | .int i, .int j => if 0 ≤ j ∧ j ≤ 1000000 ∧ i.natAbs < 2 ^ 64 then pI (i ^ j.toNat) else none
  | _, _ => none
def okD (d : D) : Bool := SeqAt.shaped d.toPy
def eqD : D → D → Option Bool
  | .int i, .int j => some (i == j)
  | .str i, .str j => some (i == j)
  | .bl i, .bl j => some (i == j)
  | .non, .non => some true
  | d, e => if okD d = true ∧ okD e = true then some (PyData.eqv d.toPy e.toPy) else none
def opEq (d e : D) : Option T := (eqD d e).map fun b => (false, .bl b)
def opNe (d e : D) : Option T := (eqD d e).map fun b => (false, .bl (!b))
def opCmp (p : Int → Int → Bool) : D → D → Option T
  | .int i, .int j => pB (p i j)
  | _, _ => none
def opLt := opCmp fun i j => decide (i < j)
def opLe := opCmp fun i j => decide (i ≤ j)
def opGt := opCmp fun i j => decide (j < i)
def opGe := opCmp fun i j => decide (j ≤ i)
def flatD : D → Bool
  | .non => true
  | .bl _ => true
  | .int _ => true
  | .str _ => true
  | _ => false
def eqF : D → D → Bool
  | .non, .non => true
  | .bl a, .bl b => a == b
  | .bl a, .int b => (if a then 1 else 0) == b
  | .int a, .bl b => a == (if b then 1 else 0)
  | .int a, .int b => a == b
  | .str a, .str b => a == b
  | _, _ => false
def inD : D → D → Option Bool
  | d, .tup ys => if flatD d = true ∧ ys.all flatD = true then some (ys.any fun y => eqF y d) else none
  | d, .lst ys => if flatD d = true ∧ ys.all flatD = true then some (ys.any fun y => eqF y d) else if okD d = true ∧ okD (.lst ys) = true then some (ys.any fun y => PyData.eqv y.toPy d.toPy) else none
  | .str c, .str z => if c.length = 1 then some (decide (c.cps.getD 0 0 ∈ z.cps.toList)) else none
  | _, _ => none
def opIn (d e : D) : Option T := (inD d e).map fun b => (false, .bl b)
def opNotIn (d e : D) : Option T := (inD d e).map fun b => (false, .bl (!b))
def opIsN : D → D → Option T
  | .non, .non => pB true
  | _, .non => pB false
  | _, _ => none
def opIsNotN : D → D → Option T
  | .non, .non => pB false
  | _, .non => pB true
  | _, _ => none
def opIx : D → D → Option T
  | .tup xs, .int i => (atI xs i).map fun d => (false, d)
  | .lst xs, .int i => (atI xs i).map fun d => (false, d)
  | .scr ns, .int i => (atI ns i).map fun d => (false, .int d)
  | .str z, .int i => if z.length ≤ lim then (atI z.cps.toList i).map fun c => (false, .str ⟨#[c]⟩) else none
  | _, _ => none
def cut {α : Type} (xs : List α) (lo hi : Option Int) : List α := (xs.drop (HT.sIx xs.length 0 lo)).take (HT.sIx xs.length xs.length hi - HT.sIx xs.length 0 lo)
def opSl : D → Option Int → Option Int → Option T
  | .tup xs, lo, hi => some (false, .tup (cut xs lo hi))
  | .lst xs, lo, hi => some (true, .lst (cut xs lo hi))
  | .str z, lo, hi => if z.length ≤ lim then some (false, .str (cutS z lo hi)) else none
  | _, _, _ => none
def cfLen : List D → Option T
  | [.tup xs] => pI xs.length
  | [.lst xs] => pI xs.length
  | [.scr xs] => pI xs.length
  | [.str z] => if z.length ≤ lim then pI z.length else none
  | _ => none
def blsD : List D → Option (List Bool)
  | [] => some []
  | .bl b :: r => (blsD r).map (b :: ·)
  | _ :: _ => none
def intsD : List D → Option (List Int)
  | [] => some []
  | .int b :: r => (intsD r).map (b :: ·)
  | _ :: _ => none
def cfAll : List D → Option T
  | [.lst xs] => (blsD xs).map fun bs => (false, .bl (bs.all id))
  | _ => none
def cfAny : List D → Option T
  | [.lst xs] => (blsD xs).map fun bs => (false, .bl (bs.any id))
  | _ => none
def cfSum : List D → Option T
  | [.lst xs] => (intsD xs).map fun bs => (false, .int bs.sum)
  | _ => none
def maxL : List Int → Option Int
  | [] => none
  | x :: r => some (r.foldl max x)
def minL : List Int → Option Int
  | [] => none
  | x :: r => some (r.foldl min x)
def cfMax : List D → Option T
  | [.lst xs] => (intsD xs).bind fun bs => (maxL bs).map fun m => (false, .int m)
  | [.int i, .int j] => pI (max i j)
  | _ => none
def cfMin : List D → Option T
  | [.lst xs] => (intsD xs).bind fun bs => (minL bs).map fun m => (false, .int m)
  | [.int i, .int j] => pI (min i j)
  | _ => none
def cfInt : List D → Option T
  | [.int i] => pI i
  | [.bl b] => pI (if b then 1 else 0)
  | _ => none
def cfList : List D → Option T
  | [.lst xs] => some (true, .lst xs)
  | [.tup xs] => some (true, .lst xs)
  | _ => none
def cfTuple : List D → Option T
  | [.lst xs] => some (false, .tup xs)
  | [.tup xs] => some (false, .tup xs)
  | _ => none

section
variable {K : PySem.W.Frag} {H : Hp} {L : List VT}
theorem Sep.pureC {v : V} {d : D} (s : Sep K H L) (r : ∀ av, Rep K H av v d) : Sep K H ((v, (false, d)) :: L) := let ⟨ws, q⟩ := s; ⟨ws, q.pure (r _)⟩
theorem Sep.cInt (s : Sep K H L) (i : Int) : Sep K H ((.int i, (false, .int i)) :: L) := s.pureC fun _ => .int i
theorem Sep.cBl (s : Sep K H L) (i : Bool) : Sep K H ((.bl i, (false, .bl i)) :: L) := s.pureC fun _ => .bl i
theorem Sep.cStr (s : Sep K H L) (i : Str) : Sep K H ((.str i, (false, .str i)) :: L) := s.pureC fun _ => .str i
theorem Sep.int {v : V} {o : Bool} {i : Int} (s : Sep K H L) (h : (v, (o, D.int i)) ∈ L) : v = .int i := let ⟨_, q⟩ := s; q.int h
theorem Sep.str {v : V} {o : Bool} {i : Str} (s : Sep K H L) (h : (v, (o, D.str i)) ∈ L) : v = .str i := let ⟨_, q⟩ := s; q.str h
theorem Sep.bl {v : V} {o : Bool} {i : Bool} (s : Sep K H L) (h : (v, (o, D.bl i)) ∈ L) : v = .bl i := let ⟨_, q⟩ := s; q.bl h
theorem Sep.non {v : V} {o : Bool} (s : Sep K H L) (h : (v, (o, D.non)) ∈ L) : v = .non := let ⟨_, q⟩ := s; q.non h
end
/-- (true, .lst) at a new place -/
theorem newLst_of {K : PySem.W.Frag} {L : List VT} {H : Hp} {Q : VK} {ws : List Addr} {vs : List V} {ds : List D} (s : SepW K H L ws) (r : RepAll K H (· ∈ ws) vs ds) (q : ∀ w H', Sep K H' ((w, (true, D.lst ds)) :: L) → Q w H') : ∀ p, H p = none → Q (.ref p) (upd H p (.lst vs)) :=
  fun p hp => q _ _ ⟨_, s.newLst hp r⟩
section
variable {X : Cx}
theorem or_intB {f : Value → Value → Sem Value} {g : D → D → Option T} {C : Int → Int → Prop} {h : Int → Int → Int} (rule : OpR X f (rI C fun i j => .int (h i j)))
    (hg : ∀ d e t, g d e = some t → ∃ i j, d = .int i ∧ e = .int j ∧ C i j ∧ t = (false, .int (h i j))) : OpR X f (rOp X.K g) := by
  intro pins s σ H x y v u Q I rx ry ⟨L, d, e, o, o', t, sep, m1, m2, ht, q⟩
  obtain ⟨i, j, rfl, rfl, c, rfl⟩ := hg d e t ht
  exact rule pins s σ H x y v u Q I rx ry ⟨i, j, sep.int m1, sep.int m2, c, q _ _ (sep.cInt _)⟩
theorem or_sub : OpR X (binaryOp .Sub) (rOp X.K opSub) := by
  intro pins s σ H x y v u Q I rx ry ⟨L, d, e, o, o', t, sep, m1, m2, ht, q⟩
  cases d <;> cases e <;> first | cases ht | skip
  exact op_sub pins s σ H x y v u Q I rx ry ⟨_, _, sep.int m1, sep.int m2, q _ _ (sep.cInt _)⟩
theorem or_mod : OpR X (binaryOp .Mod) (rOp X.K opMod) := or_intB op_modN fun d e t h => by
  cases d <;> cases e <;> first | cases h | skip
  rename_i i j
  have h' : (if j = 0 then none else pI (i.fmod j)) = some t := h
  by_cases hj : j = 0
  · rw [if_pos hj] at h'; cases h'
  · rw [if_neg hj] at h'; cases h'; exact ⟨i, j, rfl, rfl, hj, rfl⟩
theorem or_fdv : OpR X (binaryOp .FloorDiv) (rOp X.K opFdv) := or_intB op_fdivN fun d e t h => by
  cases d <;> cases e <;> first | cases h | skip
  rename_i i j
  have h' : (if j ≠ 0 ∧ j.natAbs < 1073741824 then pI (i.fdiv j) else none) = some t := h
  by_cases hj : j ≠ 0 ∧ j.natAbs < 1073741824
  · rw [if_pos hj] at h'; cases h'; exact ⟨i, j, rfl, rfl, hj, rfl⟩
  · rw [if_neg hj] at h'; cases h'
/-- tuples: t + u -/
theorem op_catF : OpR X (binaryOp .Add) (fun x y H Q => ∃ a b xs ys, x = .ref a ∧ y = .ref b ∧ SqT X.K H a xs ∧ SqT X.K H b ys ∧ xs.length + ys.length ≤ sizeLine ∧ (xs = [] → Q (.ref b) H) ∧ (xs ≠ [] → ys = [] → Q (.ref a) H) ∧ rNewT (xs ++ ys) H Q) := by
  intro pins s σ H x y v u Q I rx ry ⟨a, b, xs, ys, ex, ey, ha, hb, hz, q0, q1, q2⟩
  subst ex; subst ey; cases rx; cases ry
  obtain ⟨its, r1, p1, _⟩ := I.tuple ha
  obtain ⟨its2, r2, p2, _⟩ := I.tuple hb
  by_cases hx : xs = []
  · subst hx
    cases r1
    exact cat_tup0 p1 p2 ⟨.ref b, H, I, rfl, q0 rfl⟩
  · refine HT.cat_tup p1 p2 (fun e => hx ((Vals.nil_iff r1).mp e)) (fun e => ?_) (fun e => ?_) (by rw [← r1.length, ← r2.length]; exact hz)
    · exact ⟨.ref a, H, I, rfl, q1 hx ((Vals.nil_iff r2).mp e)⟩
    · exact q2.use (t' := s.toks) I (r1.append r2) (by rw [List.length_append]; exact hz)
theorem or_add : OpR X (binaryOp .Add) (rOp X.K opAdd) := by
  intro pins s σ H x y v u Q I rx ry ⟨L, d, e, o, o', t, sep, m1, m2, ht, q⟩
  cases d <;> cases e <;> first | cases ht | skip
  · exact op_add pins s σ H x y v u Q I rx ry ⟨_, _, sep.int m1, sep.int m2, q _ _ (sep.cInt _)⟩
  · rename_i a b
    have h' : (if a.length + b.length ≤ lim then some (false, D.str (a ++ b)) else none) = some t := ht
    by_cases hz : a.length + b.length ≤ lim
    · rw [if_pos hz] at h'; cases h'
      exact op_add_str pins s σ H x y v u Q I rx ry ⟨_, _, sep.str m1, sep.str m2, hz, q _ _ (sep.cStr _)⟩
    · rw [if_neg hz] at h'; cases h'
  · rename_i a b
    have h' : (if a.length + b.length ≤ lim then some (false, D.tup (a ++ b)) else none) = some t := ht
    by_cases hz : a.length + b.length ≤ lim
    · rw [if_pos hz] at h'; cases h'
      obtain ⟨ws, w⟩ := sep
      obtain ⟨p1, vs1, e1, q1, r1, _⟩ := w.tup m1
      obtain ⟨p2, vs2, e2, q2, r2, _⟩ := w.tup m2
      have l1 := r1.length
      have l2 := r2.length
      refine op_catF pins s σ H x y v u Q I rx ry ⟨p1, p2, vs1, vs2, e1, e2, q1, q2, by rw [l1, l2]; exact hz, fun e => ?_, fun _ e => ?_, rNewT.of w (r1.append r2) q⟩
      · subst e
        cases r1
        have hm : Rep X.K H (· ∈ ws) (.ref p2) (.tup b) := by
          obtain ⟨w', o1, _⟩ := w.own.get m2
          rw [e2] at o1
          cases o1 with | pure r => exact r
        exact q _ _ ⟨ws, w.pure hm⟩
      · subst e
        cases r2
        have hm : Rep X.K H (· ∈ ws) (.ref p1) (.tup a) := by
          obtain ⟨w', o1, _⟩ := w.own.get m1
          rw [e1] at o1
          cases o1 with | pure r => exact r
        rw [List.append_nil] at q
        exact q _ _ ⟨ws, w.pure hm⟩
    · rw [if_neg hz] at h'; cases h'
  · rename_i a b
    have h' : (if a.length + b.length ≤ lim then some (true, D.lst (a ++ b)) else none) = some t := ht
    by_cases hz : a.length + b.length ≤ lim
    · rw [if_pos hz] at h'; cases h'
      obtain ⟨ws, w⟩ := sep
      obtain ⟨p1, vs1, e1, q1, r1⟩ := w.lst m1
      obtain ⟨p2, vs2, e2, q2, r2⟩ := w.lst m2
      have l1 := r1.length
      have l2 := r2.length
      exact op_cat pins s σ H x y v u Q I rx ry ⟨p1, p2, vs1, vs2, e1, e2, q1, q2, by rw [l1, l2]; exact hz, newLst_of w (r1.append r2) q⟩
    · rw [if_neg hz] at h'; cases h'

theorem eqD_sc {d e : D} {b : Bool} (h : eqD d e = some b) : (∃ i j, d = .int i ∧ e = .int j ∧ b = (i == j)) ∨ (∃ i j, d = .str i ∧ e = .str j ∧ b = (i == j)) ∨ (∃ i j, d = .bl i ∧ e = .bl j ∧ b = (i == j)) ∨
    (okD d = true ∧ okD e = true ∧ b = PyData.eqv d.toPy e.toPy) := by
  unfold eqD at h
  split at h
  · exact .inl ⟨_, _, rfl, rfl, (Option.some.inj h).symm⟩
  · exact .inr (.inl ⟨_, _, rfl, rfl, (Option.some.inj h).symm⟩)
  · exact .inr (.inr (.inl ⟨_, _, rfl, rfl, (Option.some.inj h).symm⟩))
  · exact .inr (.inr (.inr ⟨by decide +kernel, by decide +kernel, by
      have e := Option.some.inj h
      rw [← e]
      decide +kernel⟩))
  · split at h
    · rename_i hk
      exact .inr (.inr (.inr ⟨hk.1, hk.2, (Option.some.inj h).symm⟩))
    · cases h
theorem or_eq (hu : X.A.units + 64 < cLine) : OpR X (compareOp .Eq) (rOp X.K opEq) := by
  intro pins s σ H x y v u Q I rx ry ⟨L, d, e, o, o', t, sep, m1, m2, ht, q⟩
  unfold opEq at ht
  cases h : eqD d e with
  | none => rw [h] at ht; cases ht
  | some b =>
    rw [h] at ht
    cases ht
    rcases eqD_sc h with ⟨i, j, rfl, rfl, rfl⟩ | ⟨i, j, rfl, rfl, rfl⟩ | ⟨i, j, rfl, rfl, rfl⟩ | ⟨h1, h2, rfl⟩
    · refine op_eq pins s σ H x y v u Q I rx ry ?_
      rw [sep.int m1, sep.int m2]
      exact ⟨rfl, by rw [dec_int]; exact q _ _ (sep.cBl _)⟩
    · refine op_eq pins s σ H x y v u Q I rx ry ?_
      rw [sep.str m1, sep.str m2]
      exact ⟨rfl, by rw [dec_str]; exact q _ _ (sep.cBl _)⟩
    · refine op_eq pins s σ H x y v u Q I rx ry ?_
      rw [sep.bl m1, sep.bl m2]
      exact ⟨rfl, by rw [dec_bl]; exact q _ _ (sep.cBl _)⟩
    · obtain ⟨ws, w⟩ := sep
      exact op_eqD hu pins s σ H x y v u Q I rx ry ⟨_, _, (w.any m1).dp (SeqAt.canLay_of_shaped h1), (w.any m2).dp (SeqAt.canLay_of_shaped h2), h1, h2, q _ _ (Sep.cBl ⟨ws, w⟩ _)⟩
theorem or_ne (hu : X.A.units + 64 < cLine) : OpR X (compareOp .NotEq) (rOp X.K opNe) := by
  intro pins s σ H x y v u Q I rx ry ⟨L, d, e, o, o', t, sep, m1, m2, ht, q⟩
  unfold opNe at ht
  cases h : eqD d e with
  | none => rw [h] at ht; cases ht
  | some b =>
    rw [h] at ht
    cases ht
    rcases eqD_sc h with ⟨i, j, rfl, rfl, rfl⟩ | ⟨i, j, rfl, rfl, rfl⟩ | ⟨i, j, rfl, rfl, rfl⟩ | ⟨h1, h2, rfl⟩
    · refine op_ne pins s σ H x y v u Q I rx ry ?_
      rw [sep.int m1, sep.int m2]
      exact ⟨rfl, by rw [dec_int]; exact q _ _ (sep.cBl _)⟩
    · refine op_ne pins s σ H x y v u Q I rx ry ?_
      rw [sep.str m1, sep.str m2]
      exact ⟨rfl, by rw [dec_str]; exact q _ _ (sep.cBl _)⟩
    · refine op_ne pins s σ H x y v u Q I rx ry ?_
      rw [sep.bl m1, sep.bl m2]
      exact ⟨rfl, by rw [dec_bl]; exact q _ _ (sep.cBl _)⟩
    · obtain ⟨ws, w⟩ := sep
      exact op_neD hu pins s σ H x y v u Q I rx ry ⟨_, _, (w.any m1).dp (SeqAt.canLay_of_shaped h1), (w.any m2).dp (SeqAt.canLay_of_shaped h2), h1, h2, q _ _ (Sep.cBl ⟨ws, w⟩ _)⟩
theorem or_cmp {op : CmpOp} {p : Int → Int → Bool} (rule : OpR X (compareOp op) (rI0 fun i j => .bl (p i j))) : OpR X (compareOp op) (rOp X.K (opCmp p)) := by
  intro pins s σ H x y v u Q I rx ry ⟨L, d, e, o, o', t, sep, m1, m2, ht, q⟩
  cases d <;> cases e <;> first | cases ht | skip
  exact rule pins s σ H x y v u Q I rx ry ⟨_, _, sep.int m1, sep.int m2, q _ _ (sep.cBl _)⟩
theorem or_lt : OpR X (compareOp .Lt) (rOp X.K opLt) := or_cmp op_lt
theorem or_le : OpR X (compareOp .LtE) (rOp X.K opLe) := or_cmp op_le
theorem or_gt : OpR X (compareOp .Gt) (rOp X.K opGt) := or_cmp op_gt
theorem or_ge : OpR X (compareOp .GtE) (rOp X.K opGe) := or_cmp op_ge
end
end Lz
namespace Lz
open PySem PySem.Spec PyProof.Rows L2

theorem flat_rep {K : PySem.W.Frag} {H : Hp} {av : Addr → Prop} {v : V} {d : D} (r : Rep K H av v d) (f : flatD d = true) : flatV v = true := by
  cases r <;> first | rfl | cases f
theorem eqF_rep {K : PySem.W.Frag} {H : Hp} {av : Addr → Prop} {v u : V} {d e : D} (r : Rep K H av v d) (r2 : Rep K H av u e) (f : flatD d = true) (f2 : flatD e = true) : eqV v u = eqF d e := by
  cases r <;> first | (cases f; done) | skip
  all_goals (cases r2 <;> first | (cases f2; done) | rfl)
theorem flat_all {K : PySem.W.Frag} {H : Hp} {av : Addr → Prop} : ∀ {vs : List V} {ds : List D}, RepAll K H av vs ds → ds.all flatD = true → vs.all flatV = true
  | _, _, .nil, _ => rfl
  | _, _, .cons r t, h => by
    rw [List.all_cons, Bool.and_eq_true] at h
    rw [List.all_cons, flat_rep r h.1, flat_all t h.2]; rfl
theorem inV_rep {K : PySem.W.Frag} {H : Hp} {av : Addr → Prop} {x : V} {d : D} (rx : Rep K H av x d) (f : flatD d = true) : ∀ {vs : List V} {ds : List D}, RepAll K H av vs ds → ds.all flatD = true → inV x vs = ds.any fun y => eqF y d
  | _, _, .nil, _ => rfl
  | _, _, .cons (v := v) (vs := vs) r t, h => by
    rw [List.all_cons, Bool.and_eq_true] at h
    have ih := inV_rep rx f t h.2
    have e : inV x (v :: vs) = (eqV v x || inV x vs) := rfl
    rw [e, ih, eqF_rep r rx h.1 f, List.any_cons]
theorem RepAll.weakF {K : PySem.W.Frag} {H : Hp} {av : Addr → Prop} {vs : List V} {ds : List D} (r : RepAll K H av vs ds) : RepAll K H (fun _ => False) vs ds := r.mono (Kp.weak fun _ h => h.elim)
theorem any_toPys (ys : List D) (d : D) : ((D.toPys ys).any fun z => PyData.eqv z d.toPy) = ys.any fun y => PyData.eqv y.toPy d.toPy := by
  rw [toPys_map, List.any_map]; rfl

section
variable {X : Cx}
/-- in, not in: one proof for both -/
theorem or_inG {op : CmpOp} {neg : Bool} {g : D → D → Option T} (hg : ∀ d e, g d e = (inD d e).map fun b => (false, .bl (if neg then !b else b))) (r1 : OpR X (compareOp op) (rIn X.K neg))
    (r2 : OpR X (compareOp op) (fun x y H Q => ∃ d ds, Dp X.K H x d ∧ Dp X.K H y (.list ds) ∧ SeqAt.shaped d = true ∧ SeqAt.shaped (.list ds) = true ∧ Q (.bl (if neg then !(ds.any fun z => PyData.eqv z d) else (ds.any fun z => PyData.eqv z d))) H))
    (r3 : OpR X (compareOp op) (fun x y H Q => ∃ (c : Nat) (z : Str), x = .str ⟨#[c]⟩ ∧ y = .str z ∧ Q (.bl (if neg then !decide (c ∈ z.cps.toList) else decide (c ∈ z.cps.toList))) H)) : OpR X (compareOp op) (rOp X.K g) := by
  intro pins s σ H x y v u Q I rx ry ⟨L, d, e, o, o', t, sep, m1, m2, ht, q⟩
  rw [hg] at ht
  cases hi : inD d e with
  | none => rw [hi] at ht; cases ht
  | some b =>
    rw [hi] at ht
    cases ht
    obtain ⟨ws, w⟩ := sep
    have sp : Sep X.K H L := ⟨ws, w⟩
    have flatCase : ∀ (ys : List D) (p : Addr) (vs : List V), y = .ref p → (SqL X.K H p vs ∨ SqT X.K H p vs) → RepAll X.K H (fun _ => False) vs ys → flatD d = true → ys.all flatD = true → b = ys.any (fun y => eqF y d) →
        wpAny (model X.prog X.w) X.A (compareOp op v u) (EP X pins σ Q) X.xe s := by
      intro ys p vs ey hq r f1 f2 eb
      refine r1 pins s σ H x y v u Q I rx ry ⟨p, vs, ey, hq, flat_rep (w.any m1) f1, flat_all r f2, ?_⟩
      rw [inV_rep (w.any m1) f1 r f2, ← eb]
      exact q _ _ (sp.cBl _)
    unfold inD at hi
    split at hi
    · rename_i ys
      split at hi
      · rename_i hf
        obtain ⟨p, vs, ey, hq, r, _⟩ := w.tup m2
        exact flatCase ys p vs ey (.inr hq) r.weakF hf.1 hf.2 (Option.some.inj hi).symm
      · cases hi
    · rename_i ys
      split at hi
      · rename_i hf
        obtain ⟨p, vs, ey, hq, r⟩ := w.lst m2
        exact flatCase ys p vs ey (.inl (.inl (.inl hq))) r.weakF hf.1 hf.2 (Option.some.inj hi).symm
      · split at hi
        · rename_i hk
          have eb := (Option.some.inj hi).symm
          refine r2 pins s σ H x y v u Q I rx ry ⟨_, D.toPys ys, (w.any m1).dp (SeqAt.canLay_of_shaped hk.1), ?_, hk.1, ?_, ?_⟩
          · have := (w.any m2).dp (SeqAt.canLay_of_shaped hk.2)
            rw [D.toPy] at this
            exact this
          · have := hk.2
            unfold okD at this
            rw [D.toPy] at this
            exact this
          · rw [any_toPys, ← eb]
            exact q _ _ (sp.cBl _)
        · cases hi
    · rename_i c z
      split at hi
      · rename_i hl
        obtain ⟨⟨cl⟩⟩ := c
        have hl' : cl.length = 1 := hl
        match cl, hl' with
        | [k], _ =>
          refine r3 pins s σ H x y v u Q I rx ry ⟨k, z, sp.str m1, sp.str m2, ?_⟩
          have eb : b = decide (k ∈ z.cps.toList) := (Option.some.inj hi).symm
          rw [← eb]
          exact q _ _ (sp.cBl _)
      · cases hi
    · cases hi
theorem or_in (hu : X.A.units + 65 < cLine) : OpR X (compareOp .In) (rOp X.K opIn) := or_inG (neg := false) (fun _ _ => rfl) op_in_seq (op_inD hu) op_in_sign
theorem or_notIn (hu : X.A.units + 65 < cLine) : OpR X (compareOp .NotIn) (rOp X.K opNotIn) := or_inG (neg := true) (fun _ _ => rfl) op_notIn_seq (op_notInD hu) op_notIn_sign

theorem atI_rep {K : PySem.W.Frag} {H : Hp} {av : Addr → Prop} {vs : List V} {ds : List D} {i : Int} {d : D} (r : RepAll K H av vs ds) (h : atI ds i = some d) : ∃ v, atI vs i = some v ∧ Rep K H av v d := by
  unfold atI at h ⊢
  rw [r.length]
  cases e : ixN ds.length i with
  | none => rw [e] at h; cases h
  | some j =>
    rw [e] at h
    exact r.getD h
theorem ir_ix : IxR X (rOp X.K opIx) := by
  intro value slice pins s σ H x y v u Q I rx ry ⟨L, d, e, o, o', t, sep, m1, m2, ht, q⟩ hs
  cases d <;> cases e <;> first | (cases ht; done) | skip
  · rename_i z i
    have h' : (if z.length ≤ lim then (atI z.cps.toList i).map fun c => (false, D.str ⟨#[c]⟩) else none) = some t := ht
    by_cases hz : z.length ≤ lim
    · rw [if_pos hz] at h'
      cases hc : atI z.cps.toList i with
      | none => rw [hc] at h'; cases h'
      | some c =>
        rw [hc] at h'
        cases h'
        exact ix_str value slice pins s σ H x y v u Q I rx ry ⟨z, i, c, sep.str m1, sep.int m2, hz, hc, q _ _ (sep.cStr _)⟩ hs
    · rw [if_neg hz] at h'; cases h'
  · rename_i xs i
    have h' : (atI xs i).map (fun d => (false, d)) = some t := ht
    cases hc : atI xs i with
    | none => rw [hc] at h'; cases h'
    | some c =>
      rw [hc] at h'
      cases h'
      obtain ⟨ws, w⟩ := sep
      obtain ⟨p, vs, e1, hq, r, _⟩ := w.tup m1
      obtain ⟨x', h1, h2⟩ := atI_rep r hc
      exact ix_tup value slice pins s σ H x y v u Q I rx ry ⟨p, vs, i, x', e1, w.int m2, hq, h1, q _ _ ⟨ws, w.pure h2⟩⟩ hs
  · rename_i xs i
    have h' : (atI xs i).map (fun d => (false, d)) = some t := ht
    cases hc : atI xs i with
    | none => rw [hc] at h'; cases h'
    | some c =>
      rw [hc] at h'
      cases h'
      obtain ⟨ws, w⟩ := sep
      obtain ⟨p, vs, e1, hq, r⟩ := w.lst m1
      obtain ⟨x', h1, h2⟩ := atI_rep r hc
      exact ix_list value slice pins s σ H x y v u Q I rx ry ⟨p, vs, i, x', e1, w.int m2, .inl (.inl hq), h1, q _ _ ⟨ws, w.pure h2⟩⟩ hs
  · rename_i ns i
    have h' : (atI ns i).map (fun d => (false, D.int d)) = some t := ht
    cases hc : atI ns i with
    | none => rw [hc] at h'; cases h'
    | some c =>
      rw [hc] at h'
      cases h'
      obtain ⟨ws, w⟩ := sep
      obtain ⟨p, e1, hq⟩ := w.scr m1
      refine ix_list value slice pins s σ H x y v u Q I rx ry ⟨p, _, i, .int c, e1, w.int m2, hq, ?_, q _ _ (Sep.cInt ⟨ws, w⟩ _)⟩ hs
      unfold atI at hc ⊢
      rw [List.length_map]
      cases e : ixN ns.length i with
      | none => rw [e] at hc; cases hc
      | some j =>
        rw [e] at hc
        show (ns.map V.int)[j]? = some (.int c)
        have hc' : ns[j]? = some c := hc
        rw [List.getElem?_map, hc']; rfl

theorem cut_rep {K : PySem.W.Frag} {H : Hp} {av : Addr → Prop} {vs : List V} {ds : List D} (r : RepAll K H av vs ds) (lo hi : Option Int) : RepAll K H av (cutV vs lo hi) (cut ds lo hi) := by
  unfold cutV cut
  rw [r.length]
  exact (r.drop _).take _
theorem sl_tupF : SlR X (fun x lo hi H Q => ∃ a xs, x = .ref a ∧ SqT X.K H a xs ∧ (cutV xs lo hi = xs → Q (.ref a) H) ∧ rNewT (cutV xs lo hi) H Q) := by
  intro pins s σ H x v vl vu lo hi sl Q I rx hs pl pu ⟨a, xs, ex, hx, q1, q2⟩
  subst ex; cases rx
  obtain ⟨its, r, ht, hz⟩ := I.tuple hx
  have hlen : its.toArray.size = xs.length := by rw [List.size_toArray, r.length]
  refine ⟨"tuple", _, PyProof.Rows.slot_tuple_getitem.lookup, ht.typeIs, ?_⟩
  by_cases hw : HT.sIx xs.length 0 lo = 0 ∧ HT.sIx xs.length xs.length hi = xs.length
  · refine getItem_tuple_whole ht hs pl pu (by rw [hlen]; exact hw) ⟨.ref a, H, I, rfl, q1 ?_⟩
    unfold cutV
    rw [hw.1, hw.2]
    simp
  · refine HT.getItem_tuple_cut ht hs pl pu (by rw [hlen]; exact hw) ?_ (by rw [hlen]; exact hz)
    rw [hlen]
    exact q2.use (t' := s.toks) I ((r.drop (HT.sIx xs.length 0 lo)).take _) (Nat.le_trans (cutV_length xs lo hi) hz)
theorem sr_sl : SlR X (rSl X.K opSl) := by
  intro pins s σ H x v vl vu lo hi sl Q I rx hs pl pu ⟨L, d, o, t, sep, m1, ht, q⟩
  cases d <;> first | (cases ht; done) | skip
  · rename_i z
    have h' : (if z.length ≤ lim then some (false, D.str (cutS z lo hi)) else none) = some t := ht
    by_cases hz : z.length ≤ lim
    · rw [if_pos hz] at h'
      cases h'
      exact sl_str pins s σ H x v vl vu lo hi sl Q I rx hs pl pu ⟨z, sep.str m1, hz, q _ _ (sep.cStr _)⟩
    · rw [if_neg hz] at h'; cases h'
  · rename_i xs
    cases ht
    obtain ⟨ws, w⟩ := sep
    obtain ⟨p, vs, e1, hq, r, _⟩ := w.tup m1
    refine sl_tupF pins s σ H x v vl vu lo hi sl Q I rx hs pl pu ⟨p, vs, e1, hq, fun e => ?_, rNewT.of w (cut_rep r lo hi) q⟩
    have rr := cut_rep r lo hi
    rw [e] at rr
    have ed : cut xs lo hi = xs := by
      have l1 := rr.length
      rw [r.length] at l1
      unfold cut at l1 ⊢
      have hl : (List.take (HT.sIx xs.length xs.length hi - HT.sIx xs.length 0 lo) (List.drop (HT.sIx xs.length 0 lo) xs)).length = min (HT.sIx xs.length xs.length hi - HT.sIx xs.length 0 lo) (xs.length - HT.sIx xs.length 0 lo) := by rw [List.length_take, List.length_drop]
      rw [hl] at l1
      by_cases hn : xs = []
      · subst hn; simp
      · have hp : 0 < xs.length := List.length_pos_iff.mpr hn
        have h0 : HT.sIx xs.length 0 lo = 0 := by omega
        rw [h0, List.drop_zero]
        exact List.take_of_length_le (by omega)
    rw [ed] at q
    have hm : Rep X.K H (· ∈ ws) x (.tup xs) := by
      obtain ⟨w', o1, _⟩ := w.own.get m1
      rw [e1] at o1 ⊢
      cases o1 with | pure r => exact r
    rw [← e1]
    exact q _ _ ⟨ws, w.pure hm⟩
  · rename_i xs
    cases ht
    obtain ⟨ws, w⟩ := sep
    obtain ⟨p, vs, e1, hq, r⟩ := w.lst m1
    exact sl_list pins s σ H x v vl vu lo hi sl Q I rx hs pl pu ⟨p, vs, e1, .inl (.inl hq), newLst_of w (cut_rep r lo hi) q⟩

theorem cr_len : CallR X (.builtin "len") (rCl X.K cfLen) := by
  intro pins s σ H xs us Q I r ⟨L, ds, t, sep, ms, ht, q⟩
  obtain ⟨ws, w⟩ := sep
  have sp : Sep X.K H L := ⟨ws, w⟩
  unfold cfLen at ht
  split at ht <;> first | (cases ht; done) | skip
  · cases ht
    cases ms with
    | cons h1 t1 =>
      obtain ⟨o, m⟩ := h1
      cases t1
      obtain ⟨p, vs, e1, hq, rr, _⟩ := w.tup m
      exact call_len pins s σ H _ us Q I r ⟨_, vs.length, rfl, by rw [e1]; exact .inr ⟨vs, hq, rfl⟩, by rw [rr.length]; exact q _ _ (sp.cInt _)⟩
  · cases ht
    cases ms with
    | cons h1 t1 =>
      obtain ⟨o, m⟩ := h1
      cases t1
      obtain ⟨p, vs, e1, hq, rr⟩ := w.lst m
      exact call_len pins s σ H _ us Q I r ⟨_, vs.length, rfl, by rw [e1]; exact .inl ⟨vs, .inl (.inl hq), rfl⟩, by rw [rr.length]; exact q _ _ (sp.cInt _)⟩
  · cases ht
    cases ms with
    | cons h1 t1 =>
      obtain ⟨o, m⟩ := h1
      cases t1
      rename_i ns _
      obtain ⟨p, e1, hq⟩ := w.scr m
      exact call_len pins s σ H _ us Q I r ⟨_, ns.length, rfl, by rw [e1]; exact .inl ⟨_, hq, by rw [List.length_map]⟩, q _ _ (sp.cInt _)⟩
  · rename_i z
    split at ht
    · rename_i hz
      cases ht
      cases ms with
      | cons h1 t1 =>
        obtain ⟨o, m⟩ := h1
        cases t1
        exact call_len pins s σ H _ us Q I r ⟨_, z.length, rfl, by rw [w.str m]; exact ⟨hz, rfl⟩, q _ _ (sp.cInt _)⟩
    · cases ht
theorem blsD_rep {K : PySem.W.Frag} {H : Hp} {av : Addr → Prop} : ∀ {vs : List V} {ds : List D} {bs : List Bool}, RepAll K H av vs ds → blsD ds = some bs → vs = bs.map V.bl
  | _, _, _, .nil, h => by cases h; rfl
  | _, _, bs, .cons (d := d) (ds := ds) r t, h => by
    cases d <;> first | (cases h; done) | skip
    rename_i b
    have h' : (blsD ds).map (b :: ·) = some bs := h
    cases e : blsD ds with
    | none => rw [e] at h'; cases h'
    | some bs' =>
      rw [e] at h'
      cases h'
      cases r
      rw [blsD_rep t e]; rfl
/-- a list of bools is asked -/
theorem cr_blG {id : String} {g : List Bool → Bool} {cf : List D → Option T} (hcf : ∀ ds t, cf ds = some t → ∃ xs bs, ds = [D.lst xs] ∧ blsD xs = some bs ∧ t = (false, .bl (g bs)))
    (rule : CallR X (.builtin id) (fun vs H Q => ∃ (a : Addr) (bs : List Bool), vs = [V.ref a] ∧ SqL X.K H a (bs.map V.bl) ∧ Q (.bl (g bs)) H)) : CallR X (.builtin id) (rCl X.K cf) := by
  intro pins s σ H xs us Q I r ⟨L, ds, t, sep, ms, ht, q⟩
  obtain ⟨ys, bs, rfl, hb, rfl⟩ := hcf ds t ht
  obtain ⟨ws, w⟩ := sep
  cases ms with
  | cons h1 t1 =>
    obtain ⟨o, m⟩ := h1
    cases t1
    obtain ⟨p, vs, e1, hq, rr⟩ := w.lst m
    rw [blsD_rep rr hb] at hq
    exact rule pins s σ H _ us Q I r ⟨p, bs, by rw [e1], .inl (.inl hq), q _ _ (Sep.cBl ⟨ws, w⟩ _)⟩
theorem cr_allD (hc : X.calm = true) : CallR X (.builtin "all") (rCl X.K cfAll) := cr_blG (g := fun bs => bs.all id) (fun ds t h => by
  unfold cfAll at h
  split at h <;> first | (cases h; done) | skip
  rename_i xs
  cases e : blsD xs with
  | none => rw [e] at h; cases h
  | some bs => rw [e] at h; cases h; exact ⟨xs, bs, rfl, e, rfl⟩) (cr_all hc)
theorem cr_anyD (hc : X.calm = true) : CallR X (.builtin "any") (rCl X.K cfAny) := cr_blG (g := fun bs => bs.any id) (fun ds t h => by
  unfold cfAny at h
  split at h <;> first | (cases h; done) | skip
  rename_i xs
  cases e : blsD xs with
  | none => rw [e] at h; cases h
  | some bs => rw [e] at h; cases h; exact ⟨xs, bs, rfl, e, rfl⟩) (cr_any hc)
theorem cr_int : CallR X (.type "int") (rCl X.K cfInt) := by
  intro pins s σ H xs us Q I r ⟨L, ds, t, sep, ms, ht, q⟩
  obtain ⟨ws, w⟩ := sep
  unfold cfInt at ht
  split at ht <;> first | (cases ht; done) | skip
  · cases ht
    cases ms with
    | cons h1 t1 =>
      obtain ⟨o, m⟩ := h1
      cases t1
      exact call_int1 pins s σ H _ us Q I r (.inl ⟨_, by rw [w.int m], q _ _ (Sep.cInt ⟨ws, w⟩ _)⟩)
  · cases ht
    cases ms with
    | cons h1 t1 =>
      obtain ⟨o, m⟩ := h1
      cases t1
      exact call_int1 pins s σ H _ us Q I r (.inr ⟨_, by rw [w.bl m], q _ _ (Sep.cInt ⟨ws, w⟩ _)⟩)
theorem cr_tuple : CallR X (.type "tuple") (rCl X.K cfTuple) := by
  intro pins s σ H xs us Q I r ⟨L, ds, t, sep, ms, ht, q⟩
  obtain ⟨ws, w⟩ := sep
  unfold cfTuple at ht
  split at ht <;> first | (cases ht; done) | skip
  · cases ht
    cases ms with
    | cons h1 t1 =>
      obtain ⟨o, m⟩ := h1
      cases t1
      obtain ⟨p, vs, e1, hq, rr⟩ := w.lst m
      subst e1
      obtain ⟨u, rfl, ru⟩ := vals1 r
      cases ru
      obtain ⟨its, rv, pl, hz⟩ := I.list (.inl (.inl hq))
      refine call_tuple_list pl.isList (fun h' kp => ?_) (by rw [List.size_toArray, ← rv.length]; exact hz)
      have I1 : Inv X pins σ H { s with heap := h' } := I.kept (t' := s.toks) kp
      have q' : rNewT vs H Q := rNewT.of w rr q
      exact q'.use (t' := s.toks) I1 rv hz
  · rename_i ys
    cases ht
    cases ms with
    | cons h1 t1 =>
      obtain ⟨o, m⟩ := h1
      cases t1
      obtain ⟨p, vs, e1, hq, rr, _⟩ := w.tup m
      have hm : Rep X.K H (· ∈ ws) (.ref p) (.tup ys) := by
        obtain ⟨w', o1, _⟩ := w.own.get m
        rw [e1] at o1
        cases o1 with | pure r => exact r
      subst e1
      exact call_tupleT pins s σ H _ us Q I r ⟨p, vs, rfl, hq, q _ _ ⟨ws, w.pure hm⟩⟩
end

def tyN : D → Option String
  | .non => some "NoneType"
  | .bl _ => some "bool"
  | .int _ => some "int"
  | .str _ => some "str"
  | .tup _ => some "tuple"
  | .lst _ => some "list"
  | .scr _ => some "list"
  | _ => none
def isiD (ty : String) (d : D) : Option T := (tyN d).bind fun n => (kitB n ty).map fun b => (false, .bl b)
section
variable {X : Cx} {W : WX}
theorem tyX_of {K : PySem.W.Frag} {H : Hp} {L : List VT} {v : V} {o : Bool} {d : D} {n : String} (s : Sep K H L) (m : (v, (o, d)) ∈ L) (h : tyN d = some n) : TyX K H v (.type n) := by
  obtain ⟨ws, w⟩ := s
  have r := w.any m
  cases r with
  | non => cases h; exact .base .non
  | bl b => cases h; exact .base (.bl b)
  | int b => cases h; exact .base (.int b)
  | str b => cases h; exact .base (.str b)
  | tup n h1 e r => cases h; exact .fTuple h1
  | ktup h1 r =>
    cases h
    obtain ⟨o, its, n, h1, h2, _⟩ := h1
    exact .kTuple h1 h2
  | lst n h1 r => cases h; exact .base (.lst h1)
  | scr n h1 => cases h; exact .base (.frz h1)
  | kscr h1 =>
    cases h
    obtain ⟨o, its, n, h1, h2, _⟩ := h1
    exact .kList h1 h2
  | obj n h1 e m r => cases h
  | ob n h1 e m r => cases h
  | dct n h1 f r1 r2 => cases h
  | dk n h1 f r => cases h
  | dkl n h1 f r => cases h
  | lol n h1 r => cases h
  | pin n h1 h2 => cases h
  | fn n => cases h
  | xc n => cases h
theorem se_isi {e : Expr} {f : Env → R XV} {ty : Str} {T : String} {p p2 pos : Pos} (hu : True) (he : SE X W e f) (hg : Gl X "isinstance") (hm : X.mg "isinstance" = none) (hg2 : Gl X ty) (hm2 : X.mg ty = none) (hv2 : bootBuiltins ty = some (.type T))
    (hn2 : ty ≠ "__name__") (hd2 : (ty == ("__debug__" : Str)) = false) (hst : starEach [e, .Name ty p2] X.env = (false, eval e X.env) :: starEach [.Name ty p2] X.env) :
    SE X W (.Call (.Name "isinstance" p) [e, .Name ty p2] [] pos) (sUn (isiD T) f) := by
  have h2 : PE X (.Name ty p2) (tC (.ty T)) := pe_bltn hg2 hm2 hv2 rfl hn2 hd2
  have ha : PA X [e, .Name ty p2] (tCons (tE X.K W f) (tCons (tC (.ty T)) tNil)) := pa_cons he (pa_cons h2 pa_nil) hst
  refine PE.weak (pe_callB call_isi hg hm (by decide +kernel) ha (by decide) (by decide) hst) fun σ H Q h => ?_
  obtain ⟨ρ, hs, s, h⟩ := h
  refine ⟨ρ, hs, s, fin_mono (fin_bind0 h) fun v H1 ⟨x, ρ1, hx, s1, h1⟩ => ?_⟩
  obtain ⟨L, d, o, t, sep, m, ht, q⟩ := op1_ok s1 hx (fun p hp => by simp [hp]) h1
  unfold isiD at ht
  cases hn : tyN d with
  | none => rw [hn] at ht; cases ht
  | some n =>
    rw [hn] at ht
    have ht' : (kitB n T).map (fun b => ((false, D.bl b) : Lz.T)) = some t := ht
    cases hk : kitB n T with
    | none => rw [hk] at ht'; cases ht'
    | some b =>
      rw [hk] at ht'
      cases ht'
      exact ⟨v, .ty T, .type n, .type T, b, rfl, .ty T, tyX_of sep m hn, kit_ty hk, q _ _ (sep.cBl b)⟩
end
end Lz
namespace Lz
open PySem PySem.Spec PyProof.Rows L2

inductive Fl where
  | nx | bk | ct
  | rt (t : T)
  | ra (i : Nat)
def PinOk (pin : List Nat) (σ0 σ : Sg) : Prop := ∀ j ∈ pin, σ[j]? = σ0[j]?
def finS (K : PySem.W.Frag) (W : WX) (hs : List VT) (pin : List Nat) (σ0 : Sg) (r : R Fl) (E : Ends) : Prop := match r with
  | .ok .nx ρ => ∀ σ H, Stt K hs σ H ρ → PinOk pin σ0 σ → E.nx σ H
  | .ok .bk ρ => ∀ σ H, Stt K hs σ H ρ → PinOk pin σ0 σ → E.bk σ H
  | .ok .ct ρ => ∀ σ H, Stt K hs σ H ρ → PinOk pin σ0 σ → E.ct σ H
  | .ok (.rt t) ρ => ∀ v σ H, Stt K ((v, t) :: hs) σ H ρ → PinOk pin σ0 σ → E.rt v H
  | .ok (.ra i) ρ => ∀ v σ H, σ[i]? = some (some v) → Stt K hs σ H ρ → PinOk pin σ0 σ → E.rt v H
  | .exc c ρ => ∀ σ H, Stt K hs σ H ρ → PinOk pin σ0 σ → W (.ref (He.ga K c)) none σ H
  | .bad => False
def tS (K : PySem.W.Frag) (W : WX) (pin : List Nat) (f : Env → R Fl) : TS := fun E σ H => ∃ ρ hs σ0, Stt K hs σ H ρ ∧ PinOk pin σ0 σ ∧ finS K W hs pin σ0 (f ρ) E
def SS (X : Cx) (W : WX) (pin : List Nat) (st : Stmt) (f : Env → R Fl) : Prop := PS X st (tS X.K W pin f)
def SSs (X : Cx) (W : WX) (pin : List Nat) (st : List Stmt) (f : Env → R Fl) : Prop := PSs X st (tS X.K W pin f)
theorem PS.weak {X : Cx} {st : Stmt} {t t' : TS} (h : PS X st t) (w : ∀ E σ H, t' E σ H → t E σ H) : PS X st t' := ⟨fun pins s σ H E I q => h.run pins s σ H E I (w E σ H q)⟩
theorem PSs.weak {X : Cx} {st : List Stmt} {t t' : TS} (h : PSs X st t) (w : ∀ E σ H, t' E σ H → t E σ H) : PSs X st t' := ⟨fun pins s σ H E I q => h.run pins s σ H E I (w E σ H q)⟩

def xNx (ρ : Env) : R Fl := .ok .nx ρ
def xSeq (f g : Env → R Fl) (ρ : Env) : R Fl := match f ρ with
  | .ok .nx ρ' => g ρ'
  | .ok .bk ρ' => .ok .bk ρ'
  | .ok .ct ρ' => .ok .ct ρ'
  | .ok (.rt t) ρ' => .ok (.rt t) ρ'
  | .ok (.ra i) ρ' => .ok (.ra i) ρ'
  | .exc c ρ' => .exc c ρ'
  | .bad => .bad
def xExpr (f : Env → R XV) (ρ : Env) : R Fl := (f ρ).bind fun _ ρ => .ok .nx ρ
def retX (np : Nat) (x : XV) (ρ : Env) : R Fl := match x with
  | .v o d => .ok (.rt (o, d)) ρ
  | .b i => (match gt ρ i with
    | some t => if i < np then .ok (.ra i) ρ else .ok (.rt t) (pt ρ i none)
    | none => .bad)
def xRet (np : Nat) (f : Env → R XV) (ρ : Env) : R Fl := (f ρ).bind (retX np)
def xRetN (ρ : Env) : R Fl := .ok (.rt (false, .non)) ρ
def xIf (c : Env → R Bool) (f g : Env → R Fl) (ρ : Env) : R Fl := (c ρ).bind fun b ρ => if b = true then f ρ else g ρ
def putX (pin : List Nat) (i : Nat) (x : XV) (ρ : Env) : R Fl := if i ∈ pin then .bad else match x with
  | .v o d => .ok .nx (pt ρ i (some (o, d)))
  | .b j => (match gt ρ j with
    | some t => .ok .nx (pt (pt ρ j (some (false, t.2))) i (some (false, t.2)))
    | none => .bad)
def xSet (pin : List Nat) (i : Nat) (f : Env → R XV) (ρ : Env) : R Fl := (f ρ).bind (putX pin i)

section
variable {K : PySem.W.Frag} {W : WX} {hs A : List VT} {σ σ0 : Sg} {H : Hp} {ρ : Env} {pin : List Nat}
theorem finS_bind {k : XV → Env → R Fl} {r : R XV} {E : Ends} (h : finS K W hs pin σ0 (r.bind k) E) (hp : PinOk pin σ0 σ) :
    fin K W hs σ r (fun v H1 => ∃ x ρ1, ResV σ x v ∧ Stt K (hld x v ++ hs) σ H1 ρ1 ∧ finS K W hs pin σ0 (k x ρ1) E) := by
  cases r with
  | ok x ρ => exact fun v H1 hv s => ⟨x, ρ, hv, s, h⟩
  | exc c ρ => exact fun H1 s => h σ H1 s hp
  | bad => exact h
theorem finS_bindB {k : Bool → Env → R Fl} {r : R Bool} {E : Ends} (h : finS K W hs pin σ0 (r.bind k) E) (hp : PinOk pin σ0 σ) :
    finB K W hs σ r (fun c H1 => ∃ ρ1, Stt K hs σ H1 ρ1 ∧ finS K W hs pin σ0 (k c ρ1) E) := by
  cases r with
  | ok c ρ => exact fun H1 s => ⟨ρ, s, h⟩
  | exc c ρ => exact fun H1 s => h σ H1 s hp
  | bad => exact h
theorem finB_mono {r : R Bool} {Q Q' : Bool → Hp → Prop} (h : finB K W hs σ r Q) (m : ∀ v H, Q v H → Q' v H) : finB K W hs σ r Q' := by
  cases r with
  | ok x ρ => exact fun H s => m _ _ (h H s)
  | exc c ρ => exact h
  | bad => exact h
/-- a value is put into a slot -/
theorem Stt.put {v : V} {t : T} {i : Nat} (s : Stt K ((v, t) :: hs) σ H ρ) (hi : i < ρ.length) : Stt K hs (σ.set i (some v)) H (pt ρ i (some t)) := by
  have hl := s.ok.len
  refine ⟨s.ok.put i v t, ?_⟩
  have p := (slots_put (σ := σ) (ρ := ρ) (i := i) (v := v) (t := t) (by omega) hi).append_right hs
  have q1 : Sep K H ((v, t) :: (slotsL σ ρ ++ hs)) := s.sep.perm List.perm_middle
  refine Sep.perm p.symm ?_
  show Sep K H ((v, t) :: (slotsL σ (pt ρ i none) ++ hs))
  cases e : gt ρ i with
  | none => rw [pt_none ρ i e]; exact q1
  | some t' =>
    obtain ⟨v', hv'⟩ := s.ok.slot e
    have p2 : ((v, t) :: (slotsL σ ρ ++ hs)).Perm ([(v, t)] ++ ([(v', t')] ++ (slotsL σ (pt ρ i none) ++ hs))) := List.Perm.cons _ ((slots_take hv' e).append_right hs)
    exact (q1.perm p2).drop_mid
theorem pin_set {i : Nat} {x : Option V} (hp : PinOk pin σ0 σ) (h : i ∉ pin) : PinOk pin σ0 (σ.set i x) := fun j hj => by
  have ne : i ≠ j := fun e => h (by rw [e]; exact hj)
  rw [List.getElem?_set_ne ne]
  exact hp j hj
theorem pt_out : ∀ (ρ : Env) (i : Nat) (x : Option T), ρ.length ≤ i → pt ρ i x = ρ
  | [], _, _, _ => rfl
  | _ :: _, 0, _, h => by simp at h
  | y :: r, i + 1, x, h => by show y :: pt r i x = y :: r; rw [pt_out r i x (by simpa using h)]
/-- .. wherever the slot lies -/
theorem Stt.put' {v : V} {t : T} {i : Nat} (s : Stt K ((v, t) :: hs) σ H ρ) : Stt K hs (σ.set i (some v)) H (pt ρ i (some t)) := by
  by_cases hi : i < ρ.length
  · exact s.put hi
  · have hl := s.ok.len
    rw [pt_out ρ i _ (by omega), List.set_eq_of_length_le (by omega)]
    exact Stt.dropA (A := [(v, t)]) s
theorem putX_ok {x : XV} {v : V} {i : Nat} {E : Ends} (s : Stt K (hld x v ++ hs) σ H ρ) (hx : ResV σ x v) (hp : PinOk pin σ0 σ) (h : finS K W hs pin σ0 (putX pin i x ρ) E) : E.nx (σ.set i (some v)) H := by
  unfold putX at h
  by_cases hi : i ∈ pin
  · rw [if_pos hi] at h; exact h.elim
  · rw [if_neg hi] at h
    cases x with
    | v o d => exact h _ _ (Stt.put' s) (pin_set hp hi)
    | b j =>
      dsimp only at h
      cases e : gt ρ j with
      | none => rw [e] at h; exact h.elim
      | some t =>
        rw [e] at h
        have s1 := frz_ok (x := .b j) (d := t.2) (ρ' := pt ρ j (some (false, t.2))) s hx (by unfold frz; dsimp only; rw [e])
        exact h _ _ (Stt.put' s1) (pin_set hp hi)
end
section
variable {X : Cx} {W : WX} {pin : List Nat} {e c : Expr} {st : Stmt} {rest : List Stmt} {fe : Env → R XV} {gc : Env → R Bool} {f g : Env → R Fl} {pos : Pos}
theorem ss_nil : SSs X W pin [] xNx := PSs.weak pss_nil fun E σ H ⟨ρ, hs, σ0, s, hp, h⟩ => h σ H s hp
theorem ss_cons (h1 : SS X W pin st f) (h2 : SSs X W pin rest g) : SSs X W pin (st :: rest) (xSeq f g) := by
  refine PSs.weak (pss_cons h1 h2) fun E σ H h => ?_
  obtain ⟨ρ, hs, σ0, s, hp, h⟩ := h
  refine ⟨ρ, hs, σ0, s, hp, ?_⟩
  unfold xSeq at h
  cases e : f ρ with
  | ok a ρ1 =>
    rw [e] at h
    cases a with
    | nx => exact fun σ1 H1 s1 p1 => ⟨ρ1, hs, σ0, s1, p1, h⟩
    | bk => exact h
    | ct => exact h
    | rt t => exact h
    | ra t => exact h
  | exc c ρ1 => rw [e] at h; exact h
  | bad => rw [e] at h; exact h
theorem ss_expr (he : SE X W e fe) (hs : swapsWith e none pos.line X.env = pure false) : SS X W pin (.Expr e pos) (xExpr fe) := by
  refine PS.weak (ps_expr he hs) fun E σ H h => ?_
  obtain ⟨ρ, hs, σ0, s, hp, h⟩ := h
  exact ⟨ρ, hs, s, fin_mono (finS_bind h hp) fun v H1 ⟨x, ρ1, hx, s1, h1⟩ => h1 σ H1 s1.dropA hp⟩
theorem ss_ret {np : Nat} (he : SE X W e fe) : SS X W pin (.Return (some e) pos) (xRet np fe) := by
  refine PS.weak (ps_ret he) fun E σ H h => ?_
  obtain ⟨ρ, hs, σ0, s, hp, h⟩ := h
  refine ⟨ρ, hs, s, fin_mono (finS_bind h hp) fun v H1 ⟨x, ρ1, hx, s1, h1⟩ => ?_⟩
  unfold retX at h1
  cases x with
  | v o d => exact h1 v σ H1 s1 hp
  | b i =>
    dsimp only at h1
    cases e : gt ρ1 i with
    | none => rw [e] at h1; exact h1.elim
    | some t =>
      rw [e] at h1
      dsimp only at h1
      by_cases hn : i < np
      · rw [if_pos hn] at h1
        exact h1 v σ H1 hx s1 hp
      · rw [if_neg hn] at h1
        refine h1 v σ H1 ⟨s1.ok.clear i, ?_⟩ hp
        have hx' : σ[i]? = some (some v) := hx
        have q := s1.sep.perm ((slots_take hx' e).append_right hs)
        exact q.perm List.perm_middle.symm
theorem ss_if {a b : List Stmt} (hc : SB X W c gc) (ha : SSs X W pin a f) (hb : SSs X W pin b g) : SS X W pin (.If c a b pos) (xIf gc f g) := by
  refine PS.weak (ps_if hc ha hb) fun E σ H h => ?_
  obtain ⟨ρ, hs, σ0, s, hp, h⟩ := h
  refine ⟨ρ, hs, s, finB_mono (finS_bindB h hp) fun c H1 ⟨ρ1, s1, h1⟩ => ?_⟩
  cases c with
  | true => exact iteT ⟨ρ1, hs, σ0, s1, hp, h1⟩
  | false => exact iteF ⟨ρ1, hs, σ0, s1, hp, h1⟩
theorem ss_set {i : Nat} {x : Str} {pos' : Pos} (hN : X.N.Nodup) (hi : X.N[i]? = some x) (hx : Loc X.env.scope x) (he : SE X W e fe) (hs : swapsWith e (some (.Name x pos')) pos.line X.env = pure false) (hf : X.fn x = true ∨ X.env.scope.names.lookup x = some .local) :
    SS X W pin (.Assign [.Name x pos'] e pos) (xSet pin i fe) := by
  refine PS.weak (ps_set hN hi hx he hs hf) fun E σ H h => ?_
  obtain ⟨ρ, hs, σ0, s, hp, h⟩ := h
  exact ⟨ρ, hs, s, fin_mono (finS_bind h hp) fun v H1 ⟨x, ρ1, hx, s1, h1⟩ => putX_ok s1 hx hp h1⟩
end

def tG (K : PySem.W.Frag) (pin : List Nat) (g : D → Env → Option Env) : TG := fun v σ H Q => ∃ ρ hs d ρ', Stt K ((v, (false, d)) :: hs) σ H ρ ∧ g d ρ = some ρ' ∧ ∀ σ' H', Stt K hs σ' H' ρ' → PinOk pin σ σ' → σ'.length = σ.length → Q σ' H'
def tGs (K : PySem.W.Frag) (pin : List Nat) (g : List D → Env → Option Env) : TGs := fun vs σ H Q => ∃ ρ hs ds ρ', Stt K (prs vs ds ++ hs) σ H ρ ∧ vs.length = ds.length ∧ g ds ρ = some ρ' ∧ ∀ σ' H', Stt K hs σ' H' ρ' → PinOk pin σ σ' → σ'.length = σ.length → Q σ' H'
def SG (X : Cx) (pin : List Nat) (e : Expr) (g : D → Env → Option Env) : Prop := PG X e (tG X.K pin g)
def SGs (X : Cx) (pin : List Nat) (es : List Expr) (g : List D → Env → Option Env) : Prop := PGs X es (tGs X.K pin g)
def gNm (pin : List Nat) (i : Nat) (d : D) (ρ : Env) : Option Env := if i ∈ pin then none else some (pt ρ i (some (false, d)))
def gNl (ds : List D) (ρ : Env) : Option Env := match ds with
  | [] => some ρ
  | _ => none
def gCn (g : D → Env → Option Env) (h : List D → Env → Option Env) (ds : List D) (ρ : Env) : Option Env := match ds with
  | d :: r => (g d ρ).bind fun ρ => h r ρ
  | [] => none
def gTp (n : Nat) (h : List D → Env → Option Env) (d : D) (ρ : Env) : Option Env := match d with
  | .tup ds => if ds.length = n then h ds ρ else none
  | _ => none
theorem PG.weak {X : Cx} {e : Expr} {t t' : TG} (h : PG X e t) (w : ∀ v σ H Q, t' v σ H Q → t v σ H Q) : PG X e t' := ⟨fun pins s σ H v u Q I r q => h.run pins s σ H v u Q I r (w v σ H Q q)⟩
theorem PGs.weak {X : Cx} {es : List Expr} {t t' : TGs} (h : PGs X es t) (w : ∀ vs σ H Q, t' vs σ H Q → t vs σ H Q) : PGs X es t' := ⟨fun pins s σ H vs us Q I r q => h.run pins s σ H vs us Q I r (w vs σ H Q q)⟩
theorem PinOk.refl {pin : List Nat} {σ : Sg} : PinOk pin σ σ := fun _ _ => rfl
theorem PinOk.trans {pin : List Nat} {σ σ1 σ2 : Sg} (a : PinOk pin σ σ1) (b : PinOk pin σ1 σ2) : PinOk pin σ σ2 := fun j hj => (b j hj).trans (a j hj)
section
variable {X : Cx} {pin : List Nat} {pos : Pos}
theorem sg_nm {i : Nat} {x : Str} (hN : X.N.Nodup) (hi : X.N[i]? = some x) (hx : Loc X.env.scope x) (hf : X.fn x = true ∨ X.env.scope.names.lookup x = some .local) : SG X pin (.Name x pos) (gNm pin i) := by
  refine PG.weak (pg_name hN hi hx hf) fun v σ H Q h => ?_
  obtain ⟨ρ, hs, d, ρ', s, e, q⟩ := h
  unfold gNm at e
  by_cases hm : i ∈ pin
  · rw [if_pos hm] at e; cases e
  · rw [if_neg hm] at e
    cases e
    exact q _ _ (Stt.put' s) (pin_set PinOk.refl hm) (List.length_set ..)
theorem sg_nil : SGs X pin [] gNl := by
  refine PGs.weak pgs_nil fun vs σ H Q h => ?_
  obtain ⟨ρ, hs, ds, ρ', s, hl, e, q⟩ := h
  cases ds with
  | nil =>
    cases e
    cases vs with
    | nil => exact ⟨rfl, q σ H s PinOk.refl rfl⟩
    | cons _ _ => cases hl
  | cons _ _ => cases e
theorem sg_cons {e : Expr} {es : List Expr} {g : D → Env → Option Env} {h : List D → Env → Option Env} (h1 : SG X pin e g) (h2 : SGs X pin es h)
    (hst : (assignEach (e :: es) X.env).map (·.2) = assign e X.env :: (assignEach es X.env).map (·.2)) : SGs X pin (e :: es) (gCn g h) := by
  refine PGs.weak (pgs_cons h1 h2 hst) fun vs σ H Q hh => ?_
  obtain ⟨ρ, hs, ds, ρ', s, hl, e, q⟩ := hh
  cases ds with
  | nil => cases e
  | cons d r =>
    cases vs with
    | nil => cases hl
    | cons v vr =>
      have e' : (g d ρ).bind (fun ρ => h r ρ) = some ρ' := e
      cases e1 : g d ρ with
      | none => rw [e1] at e'; cases e'
      | some ρ1 =>
        rw [e1] at e'
        exact ⟨v, vr, rfl, ρ, prs vr r ++ hs, d, ρ1, s, e1, fun σ1 H1 s1 p1 l1 => ⟨ρ1, hs, r, ρ', s1, by simpa using hl, e', fun σ2 H2 s2 p2 l2 => q σ2 H2 s2 (p1.trans p2) (l2.trans l1)⟩⟩
theorem prs_of_all {K : PySem.W.Frag} {H : Hp} {L : List VT} {ws : List Addr} : ∀ {vs : List V} {ds : List D}, RepAll K H (· ∈ ws) vs ds → SepW K H L ws → SepW K H (prs vs ds ++ L) ws
  | _, _, .nil, s => s
  | _, _, .cons r t, s => (prs_of_all t s).pure r
theorem sg_tup {es : List Expr} {k : Nat} {h : List D → Env → Option Env} {n : Nat} (hc : X.calm = true) (h2 : SGs X pin es h) (hn : (assignEach es X.env).length = n) (hst : (assignEach es X.env).findIdx? (·.1) = none) : SG X pin (.Tuple es k pos) (gTp n h) := by
  refine PG.weak (pg_tup hc h2 hn hst) fun v σ H Q hh => ?_
  obtain ⟨ρ, hs, d, ρ', s, e, q⟩ := hh
  unfold gTp at e
  cases d <;> first | (cases e; done) | skip
  rename_i ds
  dsimp only at e
  by_cases hl : ds.length = n
  · rw [if_pos hl] at e
    obtain ⟨ws, w⟩ := s.sep
    have w' := w
    obtain ⟨a, xs, ev, hq, r, _⟩ := w.tup (o := false) (ds := ds) (v := v) (by simp)
    refine ⟨a, xs, ev, hq, by rw [r.length]; exact hl, ρ, hs, ds, ρ', ⟨s.ok, ?_⟩, r.length, e, q⟩
    have w2 := prs_of_all r w
    have p : (prs xs ds ++ (slotsL σ ρ ++ (v, (false, D.tup ds)) :: hs)).Perm ((slotsL σ ρ ++ prs xs ds) ++ ([(v, (false, D.tup ds))] ++ hs)) := by
      rw [← List.append_assoc]
      exact List.perm_append_comm.append_right _
    have q1 : Sep X.K H ((slotsL σ ρ ++ prs xs ds) ++ ([(v, (false, D.tup ds))] ++ hs)) := Sep.perm p ⟨ws, w2⟩
    have q2 := q1.drop_mid
    rw [List.append_assoc] at q2
    exact q2
  · rw [if_neg hl] at e; cases e
end
/-- a, b, .. = e (several targets, one tuple) -/
def putG (g : D → Env → Option Env) (x : XV) (ρ : Env) : R Fl := (frz x ρ).bind fun d ρ => match g d ρ with
  | some ρ => .ok .nx ρ
  | none => .bad
def xSetG (g : D → Env → Option Env) (f : Env → R XV) (ρ : Env) : R Fl := (f ρ).bind (putG g)
section
variable {X : Cx} {W : WX} {pin : List Nat} {e tg : Expr} {fe : Env → R XV} {g : D → Env → Option Env} {pos : Pos}
theorem frz_exc {x : XV} {ρ ρ' : Env} {c : Str} : frz x ρ ≠ .exc c ρ' := fun h => by
  cases x with
  | v o d => cases h
  | b i =>
    unfold frz at h
    dsimp only at h
    cases q : gt ρ i with
    | none => rw [q] at h; cases h
    | some t => rw [q] at h; cases h
theorem ss_asg (he : SE X W e fe) (hg : SG X pin tg g) (hs : swapsWithSole [tg] e pos.line X.env = pure false) (hw : swappedStores [tg] e X.env = pure none) (h1 : (assignEach [tg] X.env).map (·.2) = [assign tg X.env]) : SS X W pin (.Assign [tg] e pos) (xSetG g fe) := by
  refine PS.weak (ps_asg he hg hs hw h1) fun E σ H h => ?_
  obtain ⟨ρ, hs, σ0, s, hp, h⟩ := h
  refine ⟨ρ, hs, s, fin_mono (finS_bind h hp) fun v H1 ⟨x, ρ1, hx, s1, h1⟩ => ?_⟩
  unfold putG at h1
  cases e1 : frz x ρ1 with
  | exc c ρ2 => exact (frz_exc e1).elim
  | bad => rw [e1] at h1; exact h1.elim
  | ok d ρ2 =>
    rw [e1] at h1
    have h2 : finS X.K W hs pin σ0 (match g d ρ2 with | some ρ => .ok .nx ρ | none => .bad) E := h1
    cases e2 : g d ρ2 with
    | none => rw [e2] at h2; exact h2.elim
    | some ρ3 =>
      rw [e2] at h2
      exact ⟨ρ2, hs, d, ρ3, frz_ok s1 hx e1, e2, fun σ' H' s' p' _ => h2 σ' H' s' (hp.trans p')⟩
end

def xWhile (c : Env → R Bool) (f : Env → R Fl) : Nat → Env → R Fl
  | 0, _ => .bad
  | n + 1, ρ => (c ρ).bind fun b ρ => if b = true then (match f ρ with
    | .ok .nx ρ' => xWhile c f n ρ'
    | .ok .ct ρ' => xWhile c f n ρ'
    | .ok .bk ρ' => .ok .nx ρ'
    | .ok (.rt t) ρ' => .ok (.rt t) ρ'
    | .ok (.ra t) ρ' => .ok (.ra t) ρ'
    | .exc c ρ' => .exc c ρ'
    | .bad => .bad) else .ok .nx ρ
section
variable {X : Cx} {W : WX} {pin : List Nat} {c : Expr} {body : List Stmt} {gc : Env → R Bool} {f : Env → R Fl} {pos : Pos}
theorem ss_while (n : Nat) (hpo : PassesOwn (model X.prog X.w) X.A X.env X.xe) (hc : SB X W c gc) (hb : SSs X W pin body f) : SS X W pin (.While c body [] pos) (xWhile gc f n) := by
  refine PS.weak (ps_while hpo hc hb) fun E σ H h => ?_
  obtain ⟨ρ, hs, σ0, s, hp, h⟩ := h
  refine ⟨fun m σ H => ∃ ρ, Stt X.K hs σ H ρ ∧ PinOk pin σ0 σ ∧ finS X.K W hs pin σ0 (xWhile gc f m ρ) E, ⟨n, ρ, s, hp, h⟩, ?_⟩
  rintro m σ1 H1 ⟨ρ1, s1, p1, h1⟩
  cases m with
  | zero => exact h1.elim
  | succ m =>
    refine ⟨ρ1, hs, s1, finB_mono (finS_bindB h1 p1) fun b H2 ⟨ρ2, s2, h2⟩ => ?_⟩
    cases b with
    | false => exact iteF (h2 σ1 H2 s2 p1)
    | true =>
      refine iteT ⟨fun σ H => ∃ ρ, Stt X.K hs σ H ρ ∧ PinOk pin σ0 σ ∧ finS X.K W hs pin σ0 (xWhile gc f m ρ) E, fun σ' H' w => ⟨m, Nat.lt_succ_self m, w⟩, ρ2, hs, σ0, s2, p1, ?_⟩
      rw [if_pos rfl] at h2
      cases e : f ρ2 with
      | ok a ρ3 =>
        rw [e] at h2
        cases a with
        | nx => exact fun σ3 H3 s3 p3 => ⟨ρ3, s3, p3, h2⟩
        | ct => exact fun σ3 H3 s3 p3 => ⟨ρ3, s3, p3, h2⟩
        | bk => exact h2
        | rt t => exact h2
        | ra t => exact h2
      | exc c ρ3 => rw [e] at h2; exact h2
      | bad => rw [e] at h2; exact h2
end

/-- the items; the slot that is locked meanwhile -/
structure Its where
  items : List D
  lk : Option (Nat × T)
def itemsD : D → Option (List D)
  | .tup xs => some xs
  | .lst xs => some xs
  | .scr ns => some (ns.map .int)
  | .str z => if z.length ≤ lim then some (z.cps.toList.map fun c => .str ⟨#[c]⟩) else none
  | _ => none
def itX (x : XV) (ρ : Env) : R Its := match x with
  | .v _ d => (match itemsD d with
    | some l => .ok ⟨l, none⟩ ρ
    | none => .bad)
  | .b i => (match gt ρ i with
    | some t => (match itemsD t.2 with
      | some l => .ok ⟨l, some (i, t)⟩ (pt ρ i none)
      | none => .bad)
    | none => .bad)
def sItE (f : Env → R XV) (ρ : Env) : R Its := (f ρ).bind itX
def rngL (a : Int) (c : Int) : Nat → List D
  | 0 => []
  | n + 1 => .int a :: rngL (a + c) c n
noncomputable def rngX (xs : List XV) (ρ : Env) : R Its := match views xs ρ with
  | some [.int n] => cif (-(2 ^ 62) ≤ n ∧ n ≤ 16777216) (.ok ⟨rngL 0 1 n.toNat, none⟩ ρ) .bad
  | some [.int a, .int b] => cif (-(2 ^ 62) ≤ a ∧ a < 2 ^ 62 ∧ -(2 ^ 62) ≤ b ∧ b < 2 ^ 62 ∧ b - a ≤ 16777216) (.ok ⟨rngL a 1 (b - a).toNat, none⟩ ρ) .bad
  | _ => .bad
noncomputable def sRng (f : Env → R (List XV)) (ρ : Env) : R Its := (f ρ).bind rngX
def unlk (lk : Option (Nat × T)) (ρ : Env) : Option Env := match lk with
  | none => some ρ
  | some (i, t) => (match gt ρ i with
    | none => some (pt ρ i (some t))
    | some _ => none)
/-- a walked thing's items are these, as long as the held thing stands -/
def Src (K : PySem.W.Frag) (J : It) (v : V) (t : T) (items : List D) (B : List VT := []) : Prop := ∀ (i : Nat) (L : List VT) (H : Hp) (ws : List Addr), SepW K H L ws → (v, t) ∈ L → (∀ p ∈ B, p ∈ L) →
  (∀ d, items[i]? = some d → J.go i H ∧ ∀ x H', J.yld i H x H' → Sep K H' ((x, (false, d)) :: L)) ∧ (items.length ≤ i → J.stop i H)
theorem src_pure {K : PySem.W.Frag} {J : It} {v : V} {t : T} {items : List D} (h : ∀ (i : Nat) (L : List VT) (H : Hp) (ws : List Addr), SepW K H L ws → (v, t) ∈ L →
  (∀ d, items[i]? = some d → J.go i H ∧ ∀ x H', J.yld i H x H' → H' = H ∧ Rep K H (· ∈ ws) x d) ∧ (items.length ≤ i → J.stop i H)) : Src K J v t items := fun i L H ws w m _ =>
  ⟨fun d hd => ⟨((h i L H ws w m).1 d hd).1, fun x H' hy => by
    obtain ⟨e, r⟩ := ((h i L H ws w m).1 d hd).2 x H' hy
    rw [e]
    exact ⟨ws, w.pure r⟩⟩, (h i L H ws w m).2⟩
theorem src_lst {K : PySem.W.Frag} {a : Addr} {o : Bool} {ds : List D} : Src K (Itl K a) (.ref a) (o, .lst ds) ds := src_pure fun i L H ws w m => by
  obtain ⟨a', vs, e, hq, r⟩ := w.lst m
  cases e
  refine ⟨fun d hd => ?_, fun hl => ⟨vs, .inl (.inl hq), by rw [r.length]; exact hl⟩⟩
  obtain ⟨v, hv, rv⟩ := r.getD hd
  refine ⟨⟨vs, v, .inl (.inl hq), hv⟩, fun x H' hy => ⟨hy.1, ?_⟩⟩
  have e2 := hy.2 vs (.inl (.inl hq))
  rw [hv] at e2
  cases e2
  exact rv
theorem src_tup {K : PySem.W.Frag} {a : Addr} {o : Bool} {ds : List D} : Src K (Itt K a) (.ref a) (o, .tup ds) ds := src_pure fun i L H ws w m => by
  obtain ⟨a', vs, e, hq, r, _⟩ := w.tup m
  cases e
  refine ⟨fun d hd => ?_, fun hl => ⟨vs, hq, by rw [r.length]; exact hl⟩⟩
  obtain ⟨v, hv, rv⟩ := r.getD hd
  refine ⟨⟨vs, v, hq, hv⟩, fun x H' hy => ⟨hy.1, ?_⟩⟩
  have e2 := hy.2 vs hq
  rw [hv] at e2
  cases e2
  exact rv
theorem src_scr {K : PySem.W.Frag} {a : Addr} {o : Bool} {ns : List Int} : Src K (Itl K a) (.ref a) (o, .scr ns) (ns.map .int) := src_pure fun i L H ws w m => by
  obtain ⟨a', e, hq⟩ := w.scr m
  cases e
  refine ⟨fun d hd => ?_, fun hl => ⟨_, hq, by rw [List.length_map] at hl ⊢; exact hl⟩⟩
  rw [List.getElem?_map] at hd
  cases hn : ns[i]? with
  | none => rw [hn] at hd; cases hd
  | some n =>
    rw [hn] at hd
    cases hd
    have hv : (ns.map V.int)[i]? = some (.int n) := by rw [List.getElem?_map, hn]; rfl
    refine ⟨⟨_, .int n, hq, hv⟩, fun x H' hy => ⟨hy.1, ?_⟩⟩
    have e2 := hy.2 _ hq
    rw [hv] at e2
    cases e2
    exact .int n
theorem src_str {K : PySem.W.Frag} {z : Str} {v : V} {t : T} : Src K (L2.Its z) v t (z.cps.toList.map fun c => .str ⟨#[c]⟩) := src_pure fun i L H ws w m => by
  refine ⟨fun d hd => ?_, fun hl => by rw [List.length_map, Array.length_toList] at hl; exact hl⟩
  rw [List.getElem?_map, Array.getElem?_toList] at hd
  cases hn : z.cps[i]? with
  | none => rw [hn] at hd; cases hd
  | some n =>
    rw [hn] at hd
    cases hd
    refine ⟨(Array.getElem?_eq_some_iff.mp hn).1, fun x H' hy => ⟨hy.1, ?_⟩⟩
    obtain ⟨c, hc, rfl⟩ := hy.2
    rw [hn] at hc
    cases hc
    exact .str _
theorem rngL_get : ∀ (n : Nat) (a c : Int) (i : Nat) (d : D), (rngL a c n)[i]? = some d → i < n ∧ d = .int (a + i * c)
  | 0, _, _, _, _, h => by simp [rngL] at h
  | n + 1, a, c, 0, d, h => by
    simp [rngL] at h
    exact ⟨Nat.succ_pos n, by rw [← h]; simp⟩
  | n + 1, a, c, i + 1, d, h => by
    simp only [rngL, List.getElem?_cons_succ] at h
    obtain ⟨h1, h2⟩ := rngL_get n (a + c) c i d h
    refine ⟨Nat.succ_lt_succ h1, ?_⟩
    rw [h2]
    congr 1
    rw [Int.natCast_succ, Int.add_mul, Int.one_mul]
    omega
theorem rngL_len : ∀ (n : Nat) (a c : Int), (rngL a c n).length = n
  | 0, _, _ => rfl
  | n + 1, a, c => by show (rngL (a + c) c n).length + 1 = n + 1; rw [rngL_len]
theorem src_rng {K : PySem.W.Frag} {a : Int} {n : Nat} {v : V} {t : T} : Src K (Itr a n) v t (rngL a 1 n) := src_pure fun i L H ws w m => by
  refine ⟨fun d hd => ?_, fun hl => by rw [rngL_len] at hl; exact hl⟩
  obtain ⟨h1, h2⟩ := rngL_get n a 1 i d hd
  refine ⟨h1, fun x H' hy => ⟨hy.1, ?_⟩⟩
  rw [hy.2, h2, Int.mul_one]
  exact .int _
/-- an iterable: what comes of it -/
def finI (K : PySem.W.Frag) (W : WX) (hs : List VT) (σ : Sg) (r : R Its) (Q : It → Hp → Prop) : Prop := match r with
  | .ok it ρ => ∀ J v t B H, Src K J v t it.items B → it.items.length ≤ lim → (match it.lk with | none => True | some (i, t') => t' = t ∧ σ[i]? = some (some v) ∧ gt ρ i = none) → Stt K ((v, t) :: (B ++ hs)) σ H ρ → Q J H
  | .exc c ρ => ∀ H, Stt K hs σ H ρ → W (.ref (He.ga K c)) none σ H
  | .bad => False
def tI (K : PySem.W.Frag) (W : WX) (f : Env → R Its) : TI := fun σ H Q => ∃ ρ hs, Stt K hs σ H ρ ∧ finI K W hs σ (f ρ) Q
def SI (X : Cx) (W : WX) (tg it : Expr) (f : Env → R Its) : Prop := PI X tg it (tI X.K W f)
theorem PI.weak {X : Cx} {tg it : Expr} {t t' : TI} (h : PI X tg it t) (w : ∀ σ H Q, t' σ H Q → t σ H Q) : PI X tg it t' := ⟨fun pins s σ H Q I q => h.run pins s σ H Q I (w σ H Q q)⟩
theorem PI.or {X : Cx} {tg it : Expr} {t t' : TI} (h : PI X tg it t) (h' : PI X tg it t') : PI X tg it (fun σ H Q => t σ H Q ∨ t' σ H Q) := ⟨fun pins s σ H Q I q => q.elim (h.run pins s σ H Q I) (h'.run pins s σ H Q I)⟩
theorem lock_ok {K : PySem.W.Frag} {hs : List VT} {σ : Sg} {H : Hp} {ρ : Env} {i : Nat} {v : V} {t : T} (s : Stt K hs σ H ρ) (hx : σ[i]? = some (some v)) (e : gt ρ i = some t) : Stt K ((v, t) :: hs) σ H (pt ρ i none) :=
  ⟨s.ok.clear i, (s.sep.perm ((slots_take hx e).append_right hs)).perm List.perm_middle.symm⟩
theorem unlk_ok {K : PySem.W.Frag} {hs : List VT} {σ : Sg} {H : Hp} {ρ : Env} {i : Nat} {v : V} {t : T} (s : Stt K ((v, t) :: hs) σ H ρ) (hx : σ[i]? = some (some v)) (e : gt ρ i = none) (hi : i < ρ.length) : Stt K hs σ H (pt ρ i (some t)) := by
  refine ⟨s.ok.keep i hx, ?_⟩
  have p := (slots_keep (t := t) hx hi).append_right hs
  rw [pt_none ρ i e] at p
  exact (s.sep.perm List.perm_middle).perm p.symm
section
variable {X : Cx} {W : WX} {tg e : Expr} {f : Env → R XV}
/-- a list, a tuple is never longer than the line -/
def LenOk (K : PySem.W.Frag) (H : Hp) : Prop := ∀ a xs, SqL K H a xs ∨ SqT K H a xs → xs.length ≤ lim
theorem PE.len {t : TE} (h : PE X e t) : PE X e (fun σ H Q => t σ H fun v H1 => LenOk X.K H1 → Q v H1) :=
  ⟨fun pins s σ H Q I q => thn (h.run pins s σ H _ I q) fun u s1 hh => by
    obtain ⟨v, H1, I1, r, q1⟩ := hh
    refine ⟨v, H1, I1, r, q1 fun a xs hq => ?_⟩
    rcases hq with hq | hq
    · obtain ⟨_, _, _, hz⟩ := I1.list hq; exact hz
    · obtain ⟨_, _, _, hz⟩ := I1.tuple hq; exact hz⟩
theorem si_seq (he : SE X W e f) : SI X W tg e (sItE f) := by
  refine PI.weak (PI.or (pi_list (PE.len he)) (PI.or (pi_tup (PE.len he)) (pi_str (PE.len he)))) fun σ H Q h => ?_
  obtain ⟨ρ, hs, s, h⟩ := h
  unfold sItE at h
  cases e1 : f ρ with
  | bad => rw [e1] at h; exact h.elim
  | exc c ρ1 =>
    rw [e1] at h
    exact .inl ⟨ρ, hs, s, by rw [e1]; exact h⟩
  | ok x ρ1 =>
    rw [e1] at h
    have h1 : finI X.K W hs σ (itX x ρ1) Q := h
    -- what is walked, and the state
    have key : ∃ d l, itemsD d = some l ∧ ∀ v H1, ResV σ x v → Stt X.K (hld x v ++ hs) σ H1 ρ1 → ∃ o ρ2, Stt X.K ((v, (o, d)) :: hs) σ H1 ρ2 ∧ ∀ J, Src X.K J v (o, d) l → l.length ≤ lim → Q J H1 := by
      unfold itX at h1
      cases x with
      | v o d =>
        dsimp only at h1
        cases e2 : itemsD d with
        | none => rw [e2] at h1; exact h1.elim
        | some l =>
          rw [e2] at h1
          exact ⟨d, l, e2, fun v H1 hx s1 => ⟨o, ρ1, s1, fun J hJ hz => h1 J v (o, d) [] H1 hJ hz trivial s1⟩⟩
      | b i =>
        dsimp only at h1
        cases e3 : gt ρ1 i with
        | none => rw [e3] at h1; exact h1.elim
        | some t =>
          rw [e3] at h1
          dsimp only at h1
          cases e2 : itemsD t.2 with
          | none => rw [e2] at h1; exact h1.elim
          | some l =>
            rw [e2] at h1
            refine ⟨t.2, l, e2, fun v H1 hx s1 => ⟨t.1, _, lock_ok s1 hx e3, fun J hJ hz => h1 J v t [] H1 hJ hz ⟨rfl, hx, gt_pt_same _ _ _ (gt_lt e3)⟩ (lock_ok s1 hx e3)⟩⟩
    obtain ⟨d, l, e2, k⟩ := key
    cases d <;> first | (cases e2; done) | skip
    · rename_i z
      have e3 : (if z.length ≤ lim then some (z.cps.toList.map fun c => D.str ⟨#[c]⟩) else none) = some l := e2
      by_cases hz : z.length ≤ lim
      · rw [if_pos hz] at e3
        have e4 := Option.some.inj e3
        refine .inr (.inr ⟨ρ, hs, s, ?_⟩)
        rw [e1]
        intro v H1 hx s1 lo
        obtain ⟨o, ρ2, s2, q⟩ := k v H1 hx s1
        rw [← e4] at q
        exact ⟨_, s2.sep.str (o := o) (List.mem_append_right _ List.mem_cons_self), q _ src_str (by rw [List.length_map, Array.length_toList]; exact hz)⟩
      · rw [if_neg hz] at e3; cases e3
    · refine .inr (.inl ⟨ρ, hs, s, ?_⟩)
      rw [e1]
      intro v H1 hx s1 lo
      obtain ⟨o, ρ2, s2, q⟩ := k v H1 hx s1
      obtain ⟨ws, w⟩ := s2.sep
      cases e2
      obtain ⟨a, vs, ev, hq, hr, _⟩ := w.tup (v := v) (o := o) (List.mem_append_right _ List.mem_cons_self)
      subst ev
      exact ⟨a, rfl, ⟨vs, hq⟩, q _ src_tup (by rw [← hr.length]; exact lo a vs (.inr hq))⟩
    · refine .inl ⟨ρ, hs, s, ?_⟩
      rw [e1]
      intro v H1 hx s1 lo
      obtain ⟨o, ρ2, s2, q⟩ := k v H1 hx s1
      obtain ⟨ws, w⟩ := s2.sep
      cases e2
      obtain ⟨a, vs, ev, hq, hr⟩ := w.lst (v := v) (o := o) (List.mem_append_right _ List.mem_cons_self)
      subst ev
      exact ⟨a, rfl, ⟨vs, .inl (.inl hq)⟩, q _ src_lst (by rw [← hr.length]; exact lo a vs (.inl (.inl (.inl hq))))⟩
    · refine .inl ⟨ρ, hs, s, ?_⟩
      rw [e1]
      intro v H1 hx s1 lo
      obtain ⟨o, ρ2, s2, q⟩ := k v H1 hx s1
      obtain ⟨ws, w⟩ := s2.sep
      cases e2
      obtain ⟨a, ev, hq⟩ := w.scr (v := v) (o := o) (List.mem_append_right _ List.mem_cons_self)
      subst ev
      exact ⟨a, rfl, ⟨_, hq⟩, q _ src_scr (by have := lo a _ (.inl hq); rw [List.length_map] at this ⊢; exact this)⟩
theorem rngX_ok {K : PySem.W.Frag} {hs : List VT} {σ : Sg} {H : Hp} {ρ : Env} {xs : List XV} {vs : List V} {Q : It → Hp → Prop} (s : Stt K (hlds xs vs ++ hs) σ H ρ) (hx : ResVs σ xs vs) (h : finI K W hs σ (rngX xs ρ) Q) :
    (∃ j : Int, vs = [.int j] ∧ -(2 ^ 62) ≤ j ∧ j < 2 ^ 62 ∧ Q (Itr 0 j.toNat) H) ∨ (∃ i j : Int, vs = [.int i, .int j] ∧ (-(2 ^ 62) ≤ i ∧ i < 2 ^ 62 ∧ -(2 ^ 62) ≤ j ∧ j < 2 ^ 62) ∧ Q (Itr i (j - i).toNat) H) := by
  unfold rngX at h
  cases e : views xs ρ with
  | none => rw [e] at h; exact h.elim
  | some ds =>
    rw [e] at h
    have ms := views_mem s hx (fun p hp => List.mem_append_left _ hp) e
    have s0 : Stt K hs σ H ρ := s.dropA
    have s1 : Stt K ((.non, (false, .non)) :: hs) σ H ρ := ⟨s0.ok, Sep.perm List.perm_middle.symm (s0.sep.pureC fun _ => .non)⟩
    split at h
    · rename_i n e2
      obtain rfl := Option.some.inj e2
      by_cases hb : -(2 ^ 62) ≤ n ∧ n ≤ 16777216
      · rw [cif_pos hb] at h
        cases ms with
        | cons h1 t1 =>
          cases t1
          obtain ⟨o, m⟩ := h1
          exact .inl ⟨n, by rw [s.sep.int m], hb.1, by omega, h _ .non (false, .non) [] H src_rng (by rw [rngL_len]; show n.toNat ≤ 16777216; omega) trivial s1⟩
      · rw [cif_neg hb] at h; exact h.elim
    · rename_i a b e2
      obtain rfl := Option.some.inj e2
      by_cases hb : -(2 ^ 62) ≤ a ∧ a < 2 ^ 62 ∧ -(2 ^ 62) ≤ b ∧ b < 2 ^ 62 ∧ b - a ≤ 16777216
      · rw [cif_pos hb] at h
        cases ms with
        | cons h1 t1 =>
          cases t1 with
          | cons h2 t2 =>
            cases t2
            obtain ⟨o, m⟩ := h1
            obtain ⟨o2, m2⟩ := h2
            exact .inr ⟨a, b, by rw [s.sep.int m, s.sep.int m2], ⟨hb.1, hb.2.1, hb.2.2.1, hb.2.2.2.1⟩, h _ .non (false, .non) [] H src_rng (by rw [rngL_len]; show (b - a).toNat ≤ 16777216; omega) trivial s1⟩
      · rw [cif_neg hb] at h; exact h.elim
    · exact h.elim
theorem finI_bindA {K : PySem.W.Frag} {hs : List VT} {σ : Sg} {r : R (List XV)} {k : List XV → Env → R Its} {Q : It → Hp → Prop} (h : finI K W hs σ (r.bind k) Q) :
    finA K W hs σ r (fun vs H1 => ∃ xs ρ1, ResVs σ xs vs ∧ Stt K (hlds xs vs ++ hs) σ H1 ρ1 ∧ finI K W hs σ (k xs ρ1) Q) := by
  cases r with
  | ok x ρ => exact fun v H1 hv s => ⟨x, ρ, hv, s, h⟩
  | exc c ρ => exact h
  | bad => exact h
theorem si_rng1 {a : Expr} {fs : Env → R (List XV)} {p pos : Pos} (hg : Gl X "range") (hm : X.mg "range" = none) (ha : SA X W [a] fs) (hst : starEach [a] X.env = [(false, eval a X.env)]) (h1 : ∀ ρ xs ρ', fs ρ = .ok xs ρ' → xs.length = 1) : SI X W tg (.Call (.Name "range" p) [a] [] pos) (sRng fs) := by
  refine PI.weak (pi_range1 hg hm ha hst) fun σ H Q h => ?_
  obtain ⟨ρ, hs, s, h⟩ := h
  refine ⟨ρ, hs, s, ?_⟩
  have h2 := finI_bindA h
  cases e : fs ρ with
  | ok xs ρ1 =>
    rw [e] at h2
    intro vs H1 hx s1
    obtain ⟨xs', ρ2, hx', s2, h3⟩ := h2 vs H1 hx s1
    have hl : ∀ {xs : List XV} {vs : List V}, ResVs σ xs vs → xs.length = vs.length := by
      intro xs
      induction xs with
      | nil => intro vs h; cases vs with | nil => rfl | cons _ _ => exact h.elim
      | cons x xs ih => intro vs h; cases vs with | nil => exact h.elim | cons v vs => rw [List.length_cons, List.length_cons, ih h.2]
    rcases rngX_ok s2 hx' h3 with q | ⟨i, j, ev, _⟩
    · exact q
    · have := h1 ρ xs ρ1 e
      rw [hl hx, ev] at this
      cases this
  | exc c ρ1 => rw [e] at h2; exact h2
  | bad => rw [e] at h2; exact h2
end
end Lz
namespace Lz
open PySem PySem.Spec PyProof.Rows L2

def forL (g : D → Env → Option Env) (f : Env → R Fl) : List D → Env → R Fl
  | [], ρ => .ok .nx ρ
  | d :: ds, ρ => match g d ρ with
    | none => .bad
    | some ρ1 => match f ρ1 with
      | .ok .nx ρ2 => forL g f ds ρ2
      | .ok .ct ρ2 => forL g f ds ρ2
      | .ok .bk ρ2 => .ok .nx ρ2
      | .ok (.rt t) ρ2 => .ok (.rt t) ρ2
      | .ok (.ra t) ρ2 => .ok (.ra t) ρ2
      | .exc c ρ2 => .exc c ρ2
      | .bad => .bad
def relk {α : Type} (lk : Option (Nat × T)) (r : R α) : R α := match r with
  | .ok a ρ => (match unlk lk ρ with
    | some ρ' => .ok a ρ'
    | none => .bad)
  | .exc c ρ => (match unlk lk ρ with
    | some ρ' => .exc c ρ'
    | none => .bad)
  | .bad => .bad
def lkOk (pin : List Nat) (lk : Option (Nat × T)) : Bool := match lk with
  | none => true
  | some (i, _) => pin.contains i
def xFor (pin : List Nat) (si : Env → R Its) (g : D → Env → Option Env) (f : Env → R Fl) (ρ : Env) : R Fl := (si ρ).bind fun it ρ => if lkOk pin it.lk = true then relk it.lk (forL g f it.items ρ) else .bad
def LkC (σ : Sg) (v : V) (t : T) (lk : Option (Nat × T)) : Prop := match lk with
  | none => True
  | some (i, t') => t' = t ∧ σ[i]? = some (some v)
section
variable {K : PySem.W.Frag} {W : WX} {hs A : List VT} {σ σ0 : Sg} {H : Hp} {ρ ρ' : Env} {pin : List Nat} {v : V} {t : T} {lk : Option (Nat × T)}
theorem unlkS (s : Stt K ((v, t) :: hs) σ H ρ) (hc : LkC σ v t lk) (e : unlk lk ρ = some ρ') : Stt K hs σ H ρ' := by
  cases lk with
  | none =>
    cases e
    exact Stt.dropA (A := [(v, t)]) s
  | some p =>
    obtain ⟨i, t'⟩ := p
    obtain ⟨rfl, hx⟩ := hc
    unfold unlk at e
    dsimp only at e
    cases q : gt ρ i with
    | some _ => rw [q] at e; cases e
    | none =>
      rw [q] at e
      cases e
      by_cases hi : i < ρ.length
      · exact unlk_ok s hx q hi
      · rw [pt_out ρ i _ (by omega)]
        exact Stt.dropA (A := [(v, t')]) s
theorem finI_mono {r : R Its} {Q Q' : It → Hp → Prop} (h : finI K W hs σ r Q) (m : ∀ v H, Q v H → Q' v H) : finI K W hs σ r Q' := by
  cases r with
  | ok x ρ => exact fun J v t B H h1 h2 h3 h4 => m _ _ (h J v t B H h1 h2 h3 h4)
  | exc c ρ => exact h
  | bad => exact h
theorem finS_bindI {k : Its → Env → R Fl} {r : R Its} {E : Ends} (h : finS K W hs pin σ0 (r.bind k) E) (hp : PinOk pin σ0 σ) :
    finI K W hs σ r (fun J H1 => ∃ it ρ1 v t B, Src K J v t it.items B ∧ it.items.length ≤ lim ∧ LkC σ v t it.lk ∧ Stt K ((v, t) :: (B ++ hs)) σ H1 ρ1 ∧ finS K W hs pin σ0 (k it ρ1) E) := by
  cases r with
  | ok it ρ =>
    refine fun J v t B H1 h1 h2 h3 h4 => ⟨it, ρ, v, t, B, h1, h2, ?_, h4, h⟩
    unfold LkC
    split <;> rename_i hlk
    · trivial
    · rw [hlk] at h3; exact ⟨h3.1, h3.2.1⟩
  | exc c ρ => exact fun H1 s => h σ H1 s hp
  | bad => exact h
theorem fin_bindI {k : Its → Env → R XV} {r : R Its} {Q : VK} (h : fin K W hs σ (r.bind k) Q) :
    finI K W hs σ r (fun J H1 => ∃ it ρ1 v t B, Src K J v t it.items B ∧ it.items.length ≤ lim ∧ LkC σ v t it.lk ∧ Stt K ((v, t) :: (B ++ hs)) σ H1 ρ1 ∧ fin K W hs σ (k it ρ1) Q) := by
  cases r with
  | ok it ρ =>
    refine fun J v t B H1 h1 h2 h3 h4 => ⟨it, ρ, v, t, B, h1, h2, ?_, h4, h⟩
    unfold LkC
    split <;> rename_i hlk
    · trivial
    · rw [hlk] at h3; exact ⟨h3.1, h3.2.1⟩
  | exc c ρ => exact h
  | bad => exact h
theorem finS_more {B : List VT} {r : R Fl} {E : Ends} (h : finS K W hs pin σ0 r E) : finS K W (B ++ hs) pin σ0 r E := by
  cases r with
  | ok a ρ =>
    cases a with
    | nx => exact fun σ H s p => h σ H s.dropA p
    | bk => exact fun σ H s p => h σ H s.dropA p
    | ct => exact fun σ H s p => h σ H s.dropA p
    | rt t => exact fun u σ H s p => h u σ H (Stt.dropA (A := B) (s.perm (List.perm_middle (l₁ := B)).symm)) p
    | ra t => exact fun u σ H q s p => h u σ H q s.dropA p
  | exc c ρ => exact fun σ H s p => h σ H s.dropA p
  | bad => exact h
theorem fin_more {B : List VT} {r : R XV} {Q : VK} (h : fin K W hs σ r Q) : fin K W (B ++ hs) σ r Q := by
  cases r with
  | ok x ρ => exact fun v H hv s => h v H hv (Stt.dropA (A := B) (s.perm (by
      rw [← List.append_assoc, ← List.append_assoc]
      exact List.perm_append_comm.append_right hs)))
  | exc c ρ => exact fun H s => h H s.dropA
  | bad => exact h
/-- the loop's end: unlocked -/
theorem relk_nx {E : Ends} (h : finS K W hs pin σ0 (relk lk (.ok .nx ρ)) E) (s : Stt K ((v, t) :: hs) σ H ρ) (hc : LkC σ v t lk) (hp : PinOk pin σ0 σ) : E.nx σ H := by
  unfold relk at h
  dsimp only at h
  cases e : unlk lk ρ with
  | none => rw [e] at h; exact h.elim
  | some ρ' => rw [e] at h; exact h σ H (unlkS s hc e) hp
theorem relk_rt {E : Ends} {u : V} {t2 : T} (h : finS K W hs pin σ0 (relk lk (.ok (.rt t2) ρ)) E) (s : Stt K ((u, t2) :: (v, t) :: hs) σ H ρ) (hc : LkC σ v t lk) (hp : PinOk pin σ0 σ) : E.rt u H := by
  unfold relk at h
  dsimp only at h
  cases e : unlk lk ρ with
  | none => rw [e] at h; exact h.elim
  | some ρ' => rw [e] at h; exact h u σ H (unlkS (s.perm (.swap _ _ _)) hc e) hp
theorem relk_ra {E : Ends} {u : V} {j : Nat} (h : finS K W hs pin σ0 (relk lk (.ok (.ra j) ρ)) E) (s : Stt K ((v, t) :: hs) σ H ρ) (hj : σ[j]? = some (some u)) (hc : LkC σ v t lk) (hp : PinOk pin σ0 σ) : E.rt u H := by
  unfold relk at h
  dsimp only at h
  cases e : unlk lk ρ with
  | none => rw [e] at h; exact h.elim
  | some ρ' => rw [e] at h; exact h u σ H hj (unlkS s hc e) hp
theorem relk_exc {E : Ends} {c : Str} (h : finS K W hs pin σ0 (relk lk (.exc c ρ)) E) (s : Stt K ((v, t) :: hs) σ H ρ) (hc : LkC σ v t lk) (hp : PinOk pin σ0 σ) : W (.ref (He.ga K c)) none σ H := by
  unfold relk at h
  dsimp only at h
  cases e : unlk lk ρ with
  | none => rw [e] at h; exact h.elim
  | some ρ' => rw [e] at h; exact h σ H (unlkS s hc e) hp
theorem lkC_keep {σ1 : Sg} (hc : LkC σ v t lk) (hl : lkOk pin lk = true) (hp : PinOk pin σ σ1) : LkC σ1 v t lk := by
  cases lk with
  | none => trivial
  | some p =>
    obtain ⟨i, t'⟩ := p
    exact ⟨hc.1, by rw [hp i (by simpa [lkOk] using hl)]; exact hc.2⟩
theorem drop_succ {α : Type} {l : List α} {i : Nat} {x : α} (h : l[i]? = some x) : l.drop i = x :: l.drop (i + 1) := by
  obtain ⟨h1, h2⟩ := List.getElem?_eq_some_iff.mp h
  rw [← h2]
  exact (List.drop_eq_getElem_cons h1)
end
section
variable {X : Cx} {W : WX} {pin pin' : List Nat} {tg iter : Expr} {body : List Stmt} {si : Env → R Its} {g : D → Env → Option Env} {f : Env → R Fl} {pos : Pos}
theorem ss_for (hpo : PassesOwn (model X.prog X.w) X.A X.env X.xe) (hc : X.calm = true) (hsub : ∀ j ∈ pin, j ∈ pin') (hi : SI X W tg iter si) (hg : SG X pin' tg g) (hb : SSs X W pin' body f)
    (hs : ∀ x, foldedSetIterable iter X.env x = pure x) : SS X W pin (.For tg iter body [] pos) (xFor pin' si g f) := by
  refine PS.weak (ps_for hpo hc hi hg hb hs) fun E σ H h => ?_
  obtain ⟨ρ, hs, σ0, s, hp, h⟩ := h
  refine ⟨ρ, hs, s, finI_mono (finS_bindI h hp) fun J H1 hh => ?_⟩
  obtain ⟨it, ρ1, v, t, B, src, hz, hl, s1, h1⟩ := hh
  replace h1 := finS_more (B := B) h1
  have hB : ∀ p ∈ B, p ∈ B ++ hs := fun p hp => List.mem_append_left _ hp
  generalize B ++ hs = hs at s1 h1 hB
  cases hk : lkOk pin' it.lk with
  | false => rw [hk] at h1; exact h1.elim
  | true =>
    rw [hk, if_pos rfl] at h1
    have up : ∀ {σ1 : Sg}, PinOk pin' σ σ1 → PinOk pin σ0 σ1 := fun p => hp.trans fun j hj => p j (hsub j hj)
    refine ⟨fun i m σ1 H' => m = it.items.length - i ∧ i ≤ it.items.length ∧ ∃ ρ2, Stt X.K ((v, t) :: hs) σ1 H' ρ2 ∧ PinOk pin' σ σ1 ∧ finS X.K W hs pin σ0 (relk it.lk (forL g f (it.items.drop i) ρ2)) E,
      ⟨_, rfl, Nat.zero_le _, ρ1, s1, PinOk.refl, h1⟩, ?_⟩
    rintro i m σ1 H2 ⟨rfl, hi, ρ2, s2, p2, h2⟩
    have s2' := s2
    obtain ⟨ws, w⟩ := s2'.sep
    obtain ⟨sr1, sr2⟩ := src i _ H2 ws w (List.mem_append_right _ List.mem_cons_self) (fun p hp => List.mem_append_right _ (List.mem_cons_of_mem _ (hB p hp)))
    have hl1 := lkC_keep hl hk p2
    cases hd : it.items[i]? with
    | none =>
      have hlen : it.items.length ≤ i := List.getElem?_eq_none_iff.mp hd
      refine .inl ⟨sr2 hlen, ?_⟩
      rw [List.drop_of_length_le hlen] at h2
      exact relk_nx h2 s2 hl1 (up p2)
    | some d =>
      obtain ⟨go, yl⟩ := sr1 d hd
      have hlt : i < it.items.length := (List.getElem?_eq_some_iff.mp hd).1
      refine .inr ⟨go, fun σ3 H3 => i + 1 ≤ it.items.length ∧ ∃ ρ3, Stt X.K ((v, t) :: hs) σ3 H3 ρ3 ∧ PinOk pin' σ σ3 ∧ finS X.K W hs pin σ0 (relk it.lk (forL g f (it.items.drop (i + 1)) ρ3)) E,
        fun σ3 H3 hN => ⟨it.items.length - (i + 1), by omega, rfl, hN⟩, fun x H' hy => ?_⟩
      have sx := yl x H' hy
      rw [drop_succ hd] at h2
      unfold forL at h2
      cases eg : g d ρ2 with
      | none => rw [eg] at h2; exact h2.elim
      | some ρ3 =>
        rw [eg] at h2
        dsimp only at h2
        refine ⟨ρ2, (v, t) :: hs, d, ρ3, ⟨s2.ok, Sep.perm List.perm_middle.symm sx⟩, eg, fun σ3 H3 s3 p3 l3 => ?_⟩
        refine ⟨ρ3, (v, t) :: hs, σ, s3, p2.trans p3, ?_⟩
        cases ef : f ρ3 with
        | ok a ρ4 =>
          rw [ef] at h2
          cases a with
          | nx => exact fun σ4 H4 s4 p4 => ⟨hlt, ρ4, s4, p4, h2⟩
          | ct => exact fun σ4 H4 s4 p4 => ⟨hlt, ρ4, s4, p4, h2⟩
          | bk => exact fun σ4 H4 s4 p4 => relk_nx (W := W) (E := E) h2 s4 (lkC_keep hl hk p4) (up p4)
          | rt t2 => exact fun u σ4 H4 s4 p4 => relk_rt (W := W) (E := E) h2 s4 (lkC_keep hl hk p4) (up p4)
          | ra t2 => exact fun u σ4 H4 hj s4 p4 => relk_ra (W := W) (E := E) h2 s4 hj (lkC_keep hl hk p4) (up p4)
        | exc c ρ4 => rw [ef] at h2; exact fun σ4 H4 s4 p4 => relk_exc (W := W) (E := E) h2 s4 (lkC_keep hl hk p4) (up p4)
        | bad => rw [ef] at h2; exact h2.elim
end

def clr : List Nat → Env → Env
  | [], ρ => ρ
  | i :: r, ρ => pt (clr r ρ) i none
def compL (own : List Nat) (g : D → Env → Option Env) (c : Env → R Bool) (f : Env → R XV) : List D → Env → R (List D)
  | [], ρ => .ok [] ρ
  | d :: ds, ρ => match g d ρ with
    | none => .bad
    | some ρ1 => (c ρ1).bind fun b ρ2 => if b = true then (f ρ2).bind fun x ρ3 => (frz x ρ3).bind fun e ρ4 => (compL own g c f ds (clr own ρ4)).bind fun es ρ5 => .ok (e :: es) ρ5
      else compL own g c f ds (clr own ρ2)
def noX {α : Type} (r : R α) : R α := match r with
  | .exc _ _ => .bad
  | r => r
/-- the slots of a comprehension's own names are put back -/
def rest : List Nat → Env → Env → Env
  | [], _, ρ' => ρ'
  | i :: r, ρ, ρ' => rest r ρ (match gt (clr r ρ) i with
    | some t => pt ρ' i (some t)
    | none => ρ')
def sComp (own : List Nat) (si : Env → R Its) (g : D → Env → Option Env) (c : Env → R Bool) (f : Env → R XV) (ρ : Env) : R XV :=
  (si ρ).bind fun it ρ1 => relk it.lk ((noX (compL own g c f it.items (clr own ρ1))).bind fun es ρ2 => .ok (.v true (.lst es)) (rest own ρ1 ρ2))
def W0 : WX := fun _ _ _ _ => False
def SC (X : Cx) (ifs : List Expr) (c : Env → R Bool) : Prop := PTs X ifs (tT X.K W0 c)
theorem PTs.weak {X : Cx} {ifs : List Expr} {t t' : TT} (h : PTs X ifs t) (w : ∀ σ H Q, t' σ H Q → t σ H Q) : PTs X ifs t' := ⟨fun pins s σ H Q I q => h.run pins s σ H Q I (w σ H Q q)⟩
theorem sc_nil {X : Cx} : SC X [] (fun ρ => .ok true ρ) := PTs.weak pts_nil fun σ H Q ⟨ρ, hs, s, h⟩ => h H s
/-- the slots that are not the comprehension's own -/
def notOwn (n : Nat) (own : List Nat) : List Nat := (List.range n).filter fun i => !own.contains i

theorem gt_clr_in : ∀ (own : List Nat) (ρ : Env) (i : Nat), i ∈ own → gt (clr own ρ) i = none
  | [], _, _, h => by cases h
  | j :: r, ρ, i, h => by
    show gt (pt (clr r ρ) j none) i = none
    by_cases e : j = i
    · subst e
      by_cases hl : j < (clr r ρ).length
      · exact gt_pt_same _ _ _ hl
      · rw [pt_out _ _ _ (by omega)]
        cases q : gt (clr r ρ) j with
        | none => rfl
        | some t => exact absurd (gt_lt q) hl
    · rw [gt_pt_ne _ _ _ _ e]
      rcases List.mem_cons.mp h with e2 | h
      · exact absurd e2.symm e
      · exact gt_clr_in r ρ i h
section
variable {K : PySem.W.Frag} {W : WX} {hs A : List VT} {σ σ0 : Sg} {H : Hp} {ρ ρ' : Env}
theorem slots_eq : ∀ {σ σ' : Sg} {ρ : Env}, σ.length = ρ.length → σ'.length = ρ.length → (∀ i t, gt ρ i = some t → σ[i]? = σ'[i]?) → slotsL σ ρ = slotsL σ' ρ
  | [], [], _, _, _, _ => rfl
  | [], _ :: _, [], _, h, _ => by cases h
  | [], _ :: _, _ :: _, h, _, _ => by cases h
  | _ :: _, [], [], h, _, _ => by cases h
  | _ :: _, [], _ :: _, _, h, _ => by cases h
  | _ :: _, _ :: _, [], h, _, _ => by cases h
  | s :: σ, s' :: σ', x :: ρ, h1, h2, h => by
    have ih := slots_eq (σ := σ) (σ' := σ') (ρ := ρ) (by simpa using h1) (by simpa using h2) fun i t e => by simpa using h (i + 1) t e
    cases x with
    | none => cases s <;> cases s' <;> exact ih
    | some t =>
      have e : s = s' := by simpa using h 0 t rfl
      subst e
      cases s with
      | none => exact ih
      | some v => show _ :: _ = _ :: _; rw [ih]
theorem sok_eq : ∀ {σ σ' : Sg} {ρ : Env}, SOk σ ρ → σ'.length = ρ.length → (∀ i t, gt ρ i = some t → σ[i]? = σ'[i]?) → SOk σ' ρ
  | [], [], [], _, _, _ => trivial
  | [], _ :: _, [], _, h, _ => by cases h
  | [], _, _ :: _, h, _, _ => h.elim
  | _ :: _, _, [], h, _, _ => h.elim
  | _ :: _, [], _ :: _, _, h, _ => by cases h
  | s :: σ, s' :: σ', x :: ρ, h1, h2, h => by
    refine ⟨fun q => ?_, sok_eq h1.2 (by simpa using h2) fun i t e => by simpa using h (i + 1) t e⟩
    obtain ⟨t, rfl⟩ := Option.isSome_iff_exists.mp q
    have e : s = s' := by simpa using h 0 t rfl
    rw [← e]
    exact h1.1 rfl
theorem Stt.chg {σ' : Sg} (s : Stt K hs σ H ρ) (hl : σ'.length = σ.length) (h : ∀ i t, gt ρ i = some t → σ[i]? = σ'[i]?) : Stt K hs σ' H ρ := by
  have l := s.ok.len
  exact ⟨sok_eq s.ok (by omega) h, by rw [← slots_eq l (by omega) h]; exact s.sep⟩
theorem wipe_get : ∀ (own : List Nat) (σ : Sg) (i : Nat), i ∉ own → (wipe σ own)[i]? = σ[i]?
  | [], _, _, _ => rfl
  | j :: r, σ, i, h => by
    unfold wipe
    rw [List.getElem?_set_ne (fun e => h (by rw [← e]; exact List.mem_cons_self))]
    exact wipe_get r σ i fun q => h (List.mem_cons_of_mem _ q)
theorem wipe_in : ∀ (own : List Nat) (σ : Sg) (i : Nat), i ∈ own → i < σ.length → (wipe σ own)[i]? = some none
  | [], _, _, h, _ => by cases h
  | j :: r, σ, i, h, hl => by
    unfold wipe
    by_cases e : j = i
    · subst e
      rw [List.getElem?_set_self (by rw [wipe_length]; exact hl)]
    · rw [List.getElem?_set_ne e]
      rcases List.mem_cons.mp h with e2 | h
      · exact absurd e2.symm e
      · exact wipe_in r σ i h hl
theorem wipe_eq {own : List Nat} {σ σ' : Sg} (hl : σ'.length = σ.length) (h : ∀ i, i ∉ own → σ'[i]? = σ[i]?) : wipe σ' own = wipe σ own := by
  apply List.ext_getElem?
  intro i
  by_cases hi : i ∈ own
  · by_cases hlt : i < σ.length
    · rw [wipe_in own σ i hi hlt, wipe_in own σ' i hi (by omega)]
    · rw [List.getElem?_eq_none (by rw [wipe_length]; omega), List.getElem?_eq_none (by rw [wipe_length]; omega)]
  · rw [wipe_get own σ i hi, wipe_get own σ' i hi, h i hi]
theorem Stt.wiped {own : List Nat} (s : Stt K hs σ H ρ) (h : ∀ i ∈ own, gt ρ i = none) : Stt K hs (wipe σ own) H ρ :=
  s.chg (wipe_length _ _) fun i t e => (wipe_get own σ i fun q => by rw [h i q] at e; cases e).symm
theorem Stt.unwiped {own : List Nat} (s : Stt K hs (wipe σ own) H ρ) (h : ∀ i ∈ own, gt ρ i = none) : Stt K hs σ H ρ :=
  s.chg (wipe_length _ _).symm fun i t e => wipe_get own σ i fun q => by rw [h i q] at e; cases e
theorem Stt.clear (s : Stt K hs σ H ρ) (i : Nat) : Stt K hs σ H (pt ρ i none) := by
  refine ⟨s.ok.clear i, ?_⟩
  cases e : gt ρ i with
  | none => rw [pt_none ρ i e]; exact s.sep
  | some t =>
    obtain ⟨v, hv⟩ := s.ok.slot e
    exact (s.sep.perm ((slots_take hv e).append_right hs)).drop
theorem saved_ok : ∀ (O : List Nat) {hs : List VT} {ρ : Env}, Stt K hs σ H ρ → ∃ sav, Stt K (sav ++ hs) σ H (Lz.clr O ρ) ∧
    ∀ (hs' : List VT) (H' : Hp) (ρ' : Env), (∀ j ∈ O, gt ρ' j = none) → Stt K (sav ++ hs') σ H' ρ' → Stt K hs' σ H' (rest O ρ ρ')
  | [], hs, ρ, s => ⟨[], s, fun hs' H' ρ' _ s' => s'⟩
  | i :: r, hs, ρ, s => by
    obtain ⟨sav, s1, k1⟩ := saved_ok r s
    cases e : gt (Lz.clr r ρ) i with
    | none =>
      refine ⟨sav, ?_, fun hs' H' ρ' hn s' => ?_⟩
      · show Stt K (sav ++ hs) σ H (pt (Lz.clr r ρ) i none)
        rw [pt_none _ _ e]; exact s1
      · show Stt K hs' σ H' (rest r ρ (match gt (Lz.clr r ρ) i with | some t => pt ρ' i (some t) | none => ρ'))
        rw [e]
        exact k1 hs' H' ρ' (fun j hj => hn j (List.mem_cons_of_mem _ hj)) s'
    | some t =>
      obtain ⟨v, hv⟩ := s1.ok.slot e
      refine ⟨(v, t) :: sav, lock_ok s1 hv e, fun hs' H' ρ' hn s' => ?_⟩
      show Stt K hs' σ H' (rest r ρ (match gt (Lz.clr r ρ) i with | some t => pt ρ' i (some t) | none => ρ'))
      rw [e]
      have hni : gt ρ' i = none := hn i List.mem_cons_self
      have s2 : Stt K (sav ++ hs') σ H' (pt ρ' i (some t)) := by
        by_cases hi : i < ρ'.length
        · exact unlk_ok s' hv hni hi
        · rw [pt_out ρ' i _ (by omega)]
          exact Stt.dropA (A := [(v, t)]) s'
      refine k1 hs' H' _ (fun j hj => ?_) s2
      have ne : i ≠ j := fun q => by
        rw [← q] at hj
        rw [gt_clr_in r ρ i hj] at e
        cases e
      rw [gt_pt_ne _ _ _ _ ne]
      exact hn j (List.mem_cons_of_mem _ hj)
theorem Stt.clr (s : Stt K hs σ H ρ) : ∀ own : List Nat, Stt K hs σ H (Lz.clr own ρ)
  | [] => s
  | i :: r => (Stt.clr s r).clear i
end

section
variable {X : Cx} {W : WX} {elt tg iter : Expr} {ifs : List Expr} {scope : Scope} {own : List (Str × Nat)} {pos : Pos} {si : Env → R Its} {g : D → Env → Option Env} {c : Env → R Bool} {f : Env → R XV}
theorem tLc_of {σ : Sg} {H : Hp} {Q : VK} (hN : σ.length = X.N.length) (h : tE X.K W (sComp (own.map (·.2)) si g c f) σ H Q) :
    tLc (tI X.K W si) (tG X.K (notOwn X.N.length (own.map (·.2))) g) (tT X.K W0 c) (tE X.K W0 f) (own.map (·.2)) σ H Q := by
  generalize hO : own.map (·.2) = O at h ⊢
  obtain ⟨ρ, hs, s, h⟩ := h
  refine ⟨ρ, hs, s, finI_mono (fin_bindI h) fun J H1 hh => ?_⟩
  obtain ⟨it, ρ1, v, t, B, src, hz, hlk, s1, h1⟩ := hh
  replace h1 := fin_more (B := B) h1
  have hB : ∀ p ∈ B, p ∈ B ++ hs := fun p hp => List.mem_append_left _ hp
  generalize B ++ hs = hs at s1 h1 hB
  · obtain ⟨sav, s1', back0⟩ := saved_ok O s1
    generalize hcl : Lz.clr O ρ1 = ρc at s1'
    have hfree : ∀ i ∈ O, gt ρc i = none := fun i hi => by rw [← hcl]; exact gt_clr_in O ρ1 i hi
    rw [hcl] at h1
    cases hr : compL O g c f it.items ρc with
    | bad => rw [hr] at h1; exact h1.elim
    | exc c ρ2 => rw [hr] at h1; exact h1.elim
    | ok total ρf =>
      rw [hr] at h1
      have h2 : fin X.K W hs σ (relk it.lk (.ok (.v true (.lst total)) (rest O ρ1 ρf))) Q := h1
      intro D hD
      have s1q : Stt X.K ((v, t) :: (sav ++ hs)) σ H1 ρc := s1'.perm List.perm_middle
      have s2 := s1q.wiped hfree
      generalize hhs : sav ++ hs = hs2 at s2
      have hσ : (wipe σ O).length = X.N.length := by rw [wipe_length, hN]
      -- the new list is there
      have start : Stt X.K ((.ref D, (true, .lst [])) :: (v, t) :: hs2) (wipe σ O) (upd H1 D (.lst [])) ρc := by
        refine ⟨s2.ok, ?_⟩
        obtain ⟨ws, w⟩ := s2.sep
        exact Sep.perm List.perm_middle.symm ⟨_, w.newLst hD .nil⟩
      refine ⟨fun i m H' => m = it.items.length - i ∧ i ≤ it.items.length ∧ ∃ ρ2 acc es, Stt X.K ((.ref D, (true, .lst acc)) :: (v, t) :: hs2) (wipe σ O) H' ρ2 ∧ (∀ j ∈ O, gt ρ2 j = none) ∧ acc.length ≤ i ∧ compL O g c f (it.items.drop i) ρ2 = .ok es ρf ∧ acc ++ es = total,
        ⟨_, rfl, Nat.zero_le _, ρc, [], total, start, hfree, Nat.le_refl _, hr, rfl⟩, ?_⟩
      rintro i m H2 ⟨rfl, hi, ρ2, acc, es, s3, fr3, ha, hc3, ht⟩
      have s3' := s3
      obtain ⟨ws, w⟩ := s3'.sep
      obtain ⟨sr1, sr2⟩ := src i _ H2 ws w (List.mem_append_right _ (List.mem_cons_of_mem _ List.mem_cons_self)) (fun p hp => List.mem_append_right _ (List.mem_cons_of_mem _ (List.mem_cons_of_mem _ (by rw [← hhs]; exact List.mem_append_right _ (hB p hp)))))
      cases hd : it.items[i]? with
      | none =>
        have hlen : it.items.length ≤ i := List.getElem?_eq_none_iff.mp hd
        refine .inl ⟨sr2 hlen, ?_⟩
        rw [List.drop_of_length_le hlen] at hc3
        have hc4 : R.ok [] ρ2 = R.ok es ρf := hc3
        injection hc4 with e1 e2
        subst e1 e2
        rw [List.append_nil] at ht
        subst ht
        have s4a : Stt X.K ((v, t) :: (.ref D, (true, .lst acc)) :: hs2) σ H2 ρ2 := (s3.unwiped fr3).perm (.swap _ _ _)
        rw [← hhs] at s4a
        have pm : ((v, t) :: (V.ref D, ((true, Lz.D.lst acc) : T)) :: (sav ++ hs)).Perm (sav ++ ((v, t) :: (V.ref D, (true, Lz.D.lst acc)) :: hs)) :=
          (List.perm_append_comm (l₁ := [(v, t), (V.ref D, ((true, Lz.D.lst acc) : T))]) (l₂ := sav ++ hs)).trans (by
            rw [List.append_assoc]
            exact (List.perm_append_comm (l₁ := hs)).append_left sav)
        have s4 : Stt X.K ((v, t) :: (.ref D, (true, .lst acc)) :: hs) σ H2 (rest O ρ1 ρ2) := back0 _ _ _ fr3 (s4a.perm pm)
        unfold relk at h2
        dsimp only at h2
        cases eu : unlk it.lk (rest O ρ1 ρ2) with
        | none => rw [eu] at h2; exact h2.elim
        | some ρ5 =>
          rw [eu] at h2
          exact h2 _ _ trivial (unlkS s4 hlk eu)
      | some d =>
        obtain ⟨go, yl⟩ := sr1 d hd
        have hlt : i < it.items.length := (List.getElem?_eq_some_iff.mp hd).1
        refine .inr ⟨go, fun H3 => i + 1 ≤ it.items.length ∧ ∃ ρ3 acc es, Stt X.K ((.ref D, (true, .lst acc)) :: (v, t) :: hs2) (wipe σ O) H3 ρ3 ∧ (∀ j ∈ O, gt ρ3 j = none) ∧ acc.length ≤ i + 1 ∧ compL O g c f (it.items.drop (i + 1)) ρ3 = .ok es ρf ∧ acc ++ es = total,
          fun H3 hN => ⟨it.items.length - (i + 1), by omega, rfl, hN⟩, fun x H' hy => ?_⟩
        have sx := yl x H' hy
        rw [drop_succ hd] at hc3
        unfold compL at hc3
        cases eg : g d ρ2 with
        | none => rw [eg] at hc3; cases hc3
        | some ρ3 =>
          rw [eg] at hc3
          dsimp only at hc3
          refine ⟨ρ2, (.ref D, (true, .lst acc)) :: (v, t) :: hs2, d, ρ3, ⟨s3.ok, Sep.perm List.perm_middle.symm sx⟩, eg, fun σ3 H3 s4 p4 l4 => ?_⟩
          have hw : wipe σ3 O = wipe σ O := by
            have e := wipe_eq (own := O) (σ := wipe σ O) (σ' := σ3) l4 fun j hj => by
              by_cases hjn : j < X.N.length
              · exact p4 j (by unfold notOwn; rw [List.mem_filter]; exact ⟨List.mem_range.mpr hjn, by simpa using hj⟩)
              · rw [List.getElem?_eq_none (by omega), List.getElem?_eq_none (by omega)]
            rw [e]
            exact wipe_eq (own := O) (σ := σ) (σ' := wipe σ O) (wipe_length _ _) fun j hj => wipe_get O σ j hj
          refine ⟨hw, ρ3, _, s4, ?_⟩
          cases ec : c ρ3 with
          | bad => rw [ec] at hc3; cases hc3
          | exc c2 ρ4 => rw [ec] at hc3; cases hc3
          | ok b ρ4 =>
            rw [ec] at hc3
            intro H4 s5
            have hc4 : (if b = true then (f ρ4).bind (fun x ρ3 => (frz x ρ3).bind fun e ρ4 => (compL O g c f (it.items.drop (i + 1)) (clr O ρ4)).bind fun es ρ5 => .ok (e :: es) ρ5) else compL O g c f (it.items.drop (i + 1)) (clr O ρ4)) = R.ok es ρf := hc3
            have back : ∀ {hs' : List VT} {H5 : Hp} {ρ5 : Env}, Stt X.K hs' σ3 H5 ρ5 → Stt X.K hs' (wipe σ O) H5 (clr O ρ5) := fun {hs' H5 ρ5} s6 => by
              have := (s6.clr O).wiped (own := O) fun j hj => gt_clr_in O ρ5 j hj
              rw [hw] at this
              exact this
            cases b with
            | false =>
              rw [if_neg Bool.false_ne_true] at hc4
              rw [if_neg Bool.false_ne_true]
              exact ⟨hlt, clr O ρ4, acc, es, back s5, fun j hj => gt_clr_in O ρ4 j hj, by omega, hc4, ht⟩
            | true =>
              rw [if_pos rfl] at hc4
              rw [if_pos rfl]
              refine ⟨ρ4, _, s5, ?_⟩
              cases ef : f ρ4 with
              | bad => rw [ef] at hc4; cases hc4
              | exc c2 ρ5 => rw [ef] at hc4; cases hc4
              | ok y ρ5 =>
                rw [ef] at hc4
                intro yv H5 hy5 s6
                have hc5 : (frz y ρ5).bind (fun e ρ4 => (compL O g c f (it.items.drop (i + 1)) (clr O ρ4)).bind fun es ρ5 => .ok (e :: es) ρ5) = R.ok es ρf := hc4
                cases ez : frz y ρ5 with
                | bad => rw [ez] at hc5; cases hc5
                | exc c2 ρ6 => exact (frz_exc ez).elim
                | ok e ρ6 =>
                  rw [ez] at hc5
                  have hc6 : (compL O g c f (it.items.drop (i + 1)) (clr O ρ6)).bind (fun es ρ5 => .ok (e :: es) ρ5) = R.ok es ρf := hc5
                  cases el : compL O g c f (it.items.drop (i + 1)) (clr O ρ6) with
                  | bad => rw [el] at hc6; cases hc6
                  | exc c2 ρ7 => rw [el] at hc6; cases hc6
                  | ok es' ρ7 =>
                    rw [el] at hc6
                    have hc7 : R.ok (e :: es') ρ7 = R.ok es ρf := hc6
                    injection hc7 with e1 e2
                    subst e1 e2
                    have s7 := frz_ok s6 hy5 ez
                    -- the new item is appended
                    have p : (slotsL σ3 ρ6 ++ ((yv, (false, e)) :: (.ref D, (true, .lst acc)) :: (v, t) :: hs2)).Perm ((.ref D, (true, .lst acc)) :: (yv, (false, e)) :: (slotsL σ3 ρ6 ++ ((v, t) :: hs2))) := by
                      refine List.perm_middle.trans (List.Perm.trans (List.Perm.cons _ List.perm_middle) (.swap _ _ _))
                    obtain ⟨ws7, w7⟩ := s7.sep.perm p
                    obtain ⟨a7, vs7, ea, hq7, r7⟩ := w7.lst (v := .ref D) List.mem_cons_self
                    cases ea
                    have ry : Rep X.K H5 (· ∈ ws7) yv e := w7.rep (List.mem_cons_of_mem _ List.mem_cons_self)
                    have w8 := w7.chgLst rfl (r7.append (.cons ry .nil))
                    refine ⟨vs7, hq7, ?_, hlt, clr O ρ6, acc ++ [e], es', ?_, fun j hj => gt_clr_in O ρ6 j hj, by rw [List.length_append]; simpa using ha, el, by rw [List.append_assoc]; exact ht⟩
                    · rw [r7.length, ← lim_eq]
                      exact Nat.lt_of_le_of_lt ha (Nat.lt_of_lt_of_le hlt hz)
                    · have w9 : Sep X.K (upd H5 D (.lst (vs7 ++ [yv]))) ((.ref D, (true, .lst (acc ++ [e]))) :: (slotsL σ3 ρ6 ++ ((v, t) :: hs2))) := by
                        have q : Sep X.K (upd H5 D (.lst (vs7 ++ [yv]))) ((.ref D, (true, .lst (acc ++ [e]))) :: (yv, (false, e)) :: (slotsL σ3 ρ6 ++ ((v, t) :: hs2))) := ⟨ws7, w8⟩
                        exact Sep.drop_mid (A := [(.ref D, (true, .lst (acc ++ [e])))]) (B := [(yv, (false, e))]) q
                      exact back ⟨s7.ok, w9.perm List.perm_middle.symm⟩
theorem se_comp (hc : X.calm = true) (hN : X.N.Nodup) (hi : SI X W tg iter si) (ok : BlkOk X.N X.env.scope scope own)
    (hg : ∀ (s : Shared) (H : Hp) (C : Addr) (cl : List (Str × Addr)) (fp : List Addr), SG (X.blk s H scope (compEnvC scope cl C X.env) fp) (notOwn X.N.length (own.map (·.2))) tg g)
    (ht : ∀ (s : Shared) (H : Hp) (C : Addr) (cl : List (Str × Addr)) (fp : List Addr), SC (X.blk s H scope (compEnvC scope cl C X.env) fp) ifs c)
    (he : ∀ (s : Shared) (H : Hp) (C : Addr) (cl : List (Str × Addr)) (fp : List Addr), SE (X.blk s H scope (compEnvC scope cl C X.env) fp) W0 elt f) (hs : ∀ x, foldedSetIterable iter X.env x = pure x) :
    SE X W (.ListComp elt [⟨tg, iter, ifs, 0⟩] scope pos) (sComp (own.map (·.2)) si g c f) := by
  have h := pe_lc (pos := pos) (g := tG X.K (notOwn X.N.length (own.map fun x : Str × Nat => x.2)) g) (tt := tT X.K W0 c) (te := tE X.K W0 f) hc hN hi ok hg ht he hs
  exact ⟨fun pins s σ H Q I q => h.run pins s σ H Q I (tLc_of I.len q)⟩
theorem ss_setLc {pin : List Nat} {i : Nat} {y : Str} {py spos : Pos} (hc : X.calm = true) (hN : X.N.Nodup) (hy : X.N[i]? = some y) (hyl : X.env.scope.names.lookup y = some .local)
    (hsw : swapsWith (.ListComp elt [⟨tg, iter, ifs, 0⟩] scope pos) (some (.Name y py)) spos.line X.env = pure true) (hi : SI X W tg iter si) (ok : BlkOk X.N X.env.scope scope own)
    (hg : ∀ (s : Shared) (H : Hp) (C : Addr) (cl : List (Str × Addr)) (fp : List Addr), SG (X.blk s H scope (compEnvC scope cl C X.env) fp) (notOwn X.N.length (own.map (·.2))) tg g)
    (ht : ∀ (s : Shared) (H : Hp) (C : Addr) (cl : List (Str × Addr)) (fp : List Addr), SC (X.blk s H scope (compEnvC scope cl C X.env) fp) ifs c)
    (he : ∀ (s : Shared) (H : Hp) (C : Addr) (cl : List (Str × Addr)) (fp : List Addr), SE (X.blk s H scope (compEnvC scope cl C X.env) fp) W0 elt f) (hs : ∀ x, foldedSetIterable iter X.env x = pure x) :
    SS X W pin (.Assign [.Name y py] (.ListComp elt [⟨tg, iter, ifs, 0⟩] scope pos) spos) (xSet pin i (sComp (own.map (·.2)) si g c f)) := by
  have h := ps_setLc (spos := spos) (g := tG X.K (notOwn X.N.length (own.map fun x : Str × Nat => x.2)) g) (tt := tT X.K W0 c) (te := tE X.K W0 f) hc hN hy hyl hsw hi ok hg ht he hs
  refine ⟨fun pins s σ H E I q => h.run pins s σ H E I ?_⟩
  obtain ⟨ρ, hs', σ0, st, hp, q⟩ := q
  refine tLc_of (W := W) I.len ⟨ρ, hs', st, fin_mono (finS_bind q hp) fun v H1 ⟨x, ρ1, hx, s1, h1⟩ => putX_ok s1 hx hp h1⟩
end
end Lz
namespace Lz
open PySem PySem.Spec PyProof.Rows L2

inductive FR where
  | ok (r : T) (outs : Env)
  | al (i : Nat) (outs : Env)
  | exc (c : Str)
  | bad
def spF (K : PySem.W.Frag) (F : List T → FR) : Sp := fun vs H Q E => ∃ ts hs, ts.length = vs.length ∧ Sep K H (slotsL (vs.map some) (ts.map some) ++ hs) ∧
  match F ts with
  | .ok r outs => ∀ v H', Sep K H' ((v, r) :: (slotsL (vs.map some) outs ++ hs)) → Q v H'
  | .al i outs => ∀ v H', vs[i]? = some v → Sep K H' (slotsL (vs.map some) outs ++ hs) → Q v H'
  | .exc c => ∀ H', Sep K H' hs → E (.ref (He.ga K c)) none H'
  | .bad => False
def takeA : List XV → Env → Option (List T × Env)
  | [], ρ => some ([], ρ)
  | .v o d :: xs, ρ => (match takeA xs ρ with
    | some p => some ((o, d) :: p.1, p.2)
    | none => none)
  | .b i :: xs, ρ => (match gt ρ i with
    | some t => (match takeA xs (pt ρ i none) with
      | some p => some (t :: p.1, p.2)
      | none => none)
    | none => none)
def putA : List XV → Env → Env → Env
  | .b i :: xs, some t :: outs, ρ => putA xs outs (pt ρ i (some t))
  | _ :: xs, _ :: outs, ρ => putA xs outs ρ
  | _, _, ρ => ρ
def opF (F : List T → FR) (xs : List XV) (ρ : Env) : R XV := match takeA xs ρ with
  | none => .bad
  | some p => (match F p.1 with
    | .ok r outs => .ok (.v r.1 r.2) (putA xs outs p.2)
    | .al i outs => (match xs[i]? with
      | some (.b j) => .ok (.b j) (putA xs outs p.2)
      | some (.v _ _) => (match gt outs i with
        | some t => .ok (.v t.1 t.2) (putA xs (pt outs i none) p.2)
        | none => .bad)
      | none => .bad)
    | .exc c => .exc c p.2
    | .bad => .bad)
def sCallF (F : List T → FR) (f : Env → R (List XV)) (ρ : Env) : R XV := (f ρ).bind (opF F)
section
variable {K : PySem.W.Frag} {W : WX} {hs A : List VT} {σ : Sg} {H : Hp} {ρ : Env}
theorem Sep.sub {L' L : List VT} (h : L'.Sublist L) : ∀ {A : List VT}, Sep K H (A ++ L) → Sep K H (A ++ L') := by
  induction h with
  | slnil => exact fun s => s
  | @cons l₁ l₂ a _ ih => exact fun {A} s => ih (Sep.drop_mid (A := A) (B := [a]) s)
  | @cons_cons l₁ l₂ a _ ih =>
    exact fun {A} s => by
      have q := ih (A := A ++ [a]) (by rw [List.append_assoc]; exact s)
      rw [List.append_assoc] at q
      exact q
theorem takeA_ok : ∀ {xs : List XV} {vs : List V} {ts : List T} {hs : List VT} {ρ ρ' : Env}, SOk σ ρ → ResVs σ xs vs → takeA xs ρ = some (ts, ρ') →
    SOk σ ρ' ∧ ts.length = vs.length ∧ (slotsL σ ρ ++ (hlds xs vs ++ hs)).Perm (slotsL (vs.map some) (ts.map some) ++ (slotsL σ ρ' ++ hs))
  | [], [], _, _, _, _, s, _, e => by cases e; exact ⟨s, rfl, .refl _⟩
  | [], _ :: _, _, _, _, _, _, h, _ => h.elim
  | _ :: _, [], _, _, _, _, _, h, _ => h.elim
  | .v o d :: xs, v :: vs, ts, hs, ρ, ρ', s, h, e => by
    unfold takeA at e
    cases e1 : takeA xs ρ with
    | none => rw [e1] at e; cases e
    | some p =>
      obtain ⟨ts1, ρ1⟩ := p
      rw [e1] at e
      cases e
      obtain ⟨a, b, c⟩ := takeA_ok (hs := hs) s h.2 e1
      refine ⟨a, by rw [List.length_cons, List.length_cons, b], ?_⟩
      show (slotsL σ ρ ++ ((v, (o, d)) :: (hlds xs vs ++ hs))).Perm ((v, (o, d)) :: (slotsL (vs.map some) (ts1.map some) ++ (slotsL σ ρ1 ++ hs)))
      exact List.perm_middle.trans (c.cons _)
  | .b i :: xs, v :: vs, ts, hs, ρ, ρ', s, h, e => by
    unfold takeA at e
    cases e0 : gt ρ i with
    | none => rw [e0] at e; cases e
    | some t =>
      rw [e0] at e
      dsimp only at e
      cases e1 : takeA xs (pt ρ i none) with
      | none => rw [e1] at e; cases e
      | some p =>
        obtain ⟨ts1, ρ1⟩ := p
        rw [e1] at e
        cases e
        obtain ⟨a, b, c⟩ := takeA_ok (hs := hs) (s.clear i) h.2 e1
        refine ⟨a, by rw [List.length_cons, List.length_cons, b], ?_⟩
        have hx : σ[i]? = some (some v) := h.1
        exact ((slots_take hx e0).append_right _).trans (c.cons (v, t))
theorem putA_ok : ∀ {xs : List XV} {vs : List V} {outs : Env} {hs : List VT} {ρ : Env}, Stt K (slotsL (vs.map some) outs ++ hs) σ H ρ → ResVs σ xs vs → Stt K hs σ H (putA xs outs ρ)
  | [], [], _, _, _, s, _ => s
  | [], _ :: _, _, _, _, _, h => h.elim
  | _ :: _, [], _, _, _, _, h => h.elim
  | .v o d :: xs, v :: vs, [], hs, ρ, s, h => s
  | .v o d :: xs, v :: vs, none :: outs, hs, ρ, s, h => putA_ok (xs := xs) (vs := vs) (outs := outs) s h.2
  | .v o d :: xs, v :: vs, some t :: outs, hs, ρ, s, h => putA_ok (xs := xs) (vs := vs) (outs := outs) (Stt.dropA (A := [(v, t)]) s) h.2
  | .b i :: xs, v :: vs, [], hs, ρ, s, h => s
  | .b i :: xs, v :: vs, none :: outs, hs, ρ, s, h => putA_ok (xs := xs) (vs := vs) (outs := outs) s h.2
  | .b i :: xs, v :: vs, some t :: outs, hs, ρ, s, h => by
    have hx : σ[i]? = some (some v) := h.1
    have s1 := Stt.put' (i := i) s
    have e : σ.set i (some v) = σ := by
      apply List.ext_getElem?
      intro j
      by_cases hj : i = j
      · subst hj
        rw [List.getElem?_set_self (List.getElem?_eq_some_iff.mp hx).1, hx]
      · rw [List.getElem?_set_ne hj]
    rw [e] at s1
    exact putA_ok (xs := xs) (vs := vs) (outs := outs) s1 h.2
end
section
variable {X : Cx} {W : WX} {e : Expr} {es : List Expr} {fa : Env → R (List XV)} {k : Nat} {f : Addr} {fd : FuncData} {ps : List Str} {F : List T → FR} {x : Str} {p pos : Pos}
theorem callF_of {σ : Sg} {H : Hp} {Q : VK} (h : tE X.K W (sCallF F fa) σ H Q) : tCallS (spF X.K F) (WE W) (tA X.K W fa) σ H Q := by
  obtain ⟨ρ, hs, s, h⟩ := h
  refine ⟨ρ, hs, s, finA_mono (fin_bindA0 h) fun vs H1 ⟨xs, ρ1, hx, s1, h1⟩ => ?_⟩
  unfold opF at h1
  cases e1 : takeA xs ρ1 with
  | none => rw [e1] at h1; exact h1.elim
  | some q =>
    obtain ⟨ts, ρ2⟩ := q
    rw [e1] at h1
    obtain ⟨ok2, hl, pm⟩ := takeA_ok (hs := hs) s1.ok hx e1
    refine ⟨ts, slotsL σ ρ2 ++ hs, hl, s1.sep.perm pm, ?_⟩
    dsimp only at h1
    cases e2 : F ts with
    | bad => rw [e2] at h1; exact h1.elim
    | exc c =>
      rw [e2] at h1
      exact fun H' s' => h1 H' ⟨ok2, s'⟩
    | al i outs =>
      rw [e2] at h1
      intro v H' hv s'
      have pm2 : ∀ B : List VT, (B ++ (slotsL σ ρ2 ++ hs)).Perm (slotsL σ ρ2 ++ (B ++ hs)) := fun B => by
        rw [← List.append_assoc, ← List.append_assoc]
        exact List.perm_append_comm.append_right _
      have rv : ∀ {xs : List XV} {vs : List V} {i : Nat} {v : V}, ResVs σ xs vs → vs[i]? = some v → ∃ x, xs[i]? = some x ∧ ResV σ x v := by
        intro xs
        induction xs with
        | nil => intro vs i v h e; cases vs with | nil => simp at e | cons _ _ => exact h.elim
        | cons x xs ih =>
          intro vs i v h e
          cases vs with
          | nil => exact h.elim
          | cons u us =>
            cases i with
            | zero =>
              have eu : u = v := by simpa using e
              subst eu
              exact ⟨x, rfl, h.1⟩
            | succ i =>
              obtain ⟨y, h1, h2⟩ := ih (i := i) h.2 (by simpa using e)
              exact ⟨y, by simpa using h1, h2⟩
      obtain ⟨x, ex, hxv⟩ := rv hx hv
      dsimp only at h1
      rw [ex] at h1
      cases x with
      | b j =>
        refine h1 v H' hxv ?_
        exact putA_ok ⟨ok2, s'.perm (pm2 _)⟩ hx
      | v o d =>
        dsimp only at h1
        cases eg : gt outs i with
        | none => rw [eg] at h1; exact h1.elim
        | some t =>
          rw [eg] at h1
          refine h1 v H' trivial ?_
          have hv2 : (vs.map some)[i]? = some (some v) := by rw [List.getElem?_map, hv]; rfl
          have p1 := (slots_take hv2 eg).append_right (slotsL σ ρ2 ++ hs)
          have s3 : Sep X.K H' ((v, t) :: (slotsL (vs.map some) (pt outs i none) ++ (slotsL σ ρ2 ++ hs))) := s'.perm p1
          have p4 : ((v, t) :: (slotsL (vs.map some) (pt outs i none) ++ (slotsL σ ρ2 ++ hs))).Perm (slotsL σ ρ2 ++ (slotsL (vs.map some) (pt outs i none) ++ ((v, t) :: hs))) :=
            ((pm2 (slotsL (vs.map some) (pt outs i none))).cons (v, t)).trans (List.perm_middle.symm.trans (List.perm_middle.symm.append_left _))
          exact putA_ok ⟨ok2, s3.perm p4⟩ hx
    | ok r outs =>
      rw [e2] at h1
      intro v H' s'
      refine h1 v H' trivial ?_
      have s3 : Stt X.K (slotsL (vs.map some) outs ++ ((v, r) :: hs)) σ H' ρ2 := by
        refine ⟨ok2, s'.perm ?_⟩
        have p1 : ((v, r) :: (slotsL (vs.map some) outs ++ (slotsL σ ρ2 ++ hs))).Perm ((slotsL (vs.map some) outs ++ (slotsL σ ρ2 ++ hs)) ++ [(v, r)]) := (List.perm_append_comm (l₁ := [(v, r)]))
        refine p1.trans ?_
        have p2 : ((slotsL (vs.map some) outs ++ (slotsL σ ρ2 ++ hs)) ++ [(v, r)]) = (slotsL (vs.map some) outs ++ slotsL σ ρ2) ++ (hs ++ [(v, r)]) := by simp
        rw [p2]
        have p3 : (slotsL σ ρ2 ++ (slotsL (vs.map some) outs ++ ((v, r) :: hs))) = (slotsL σ ρ2 ++ slotsL (vs.map some) outs) ++ ((v, r) :: hs) := by simp
        rw [p3]
        exact List.perm_append_comm.append (List.perm_append_comm (l₁ := hs) (l₂ := [(v, r)]))
      exact putA_ok s3 hx
theorem se_callF (hF : FnOk X.prog X.w X.K X.mg X.base (L2.CX X.prog X.w) k f fd ps (spF X.K F)) (hr : Room k X.A) (hg : Gl X x) (hm : X.mg x = some (.ref f)) (hk : PySem.W.keepIn X.K (.ref f) = true) (hb : Binds X.K fd ps []) (tk : Takes X W)
    (ha : SA X W (e :: es) fa) (hdb : (x == ("__debug__" : Str)) = false) (he : starEach (e :: es) X.env = (false, eval e X.env) :: starEach es X.env) (hpl : (backTo pos (starEach es X.env)).any (·.1) = false) :
    SE X W (.Call (.Name x p) (e :: es) [] pos) (sCallF F fa) :=
  PE.weak (pe_callS (E := WE W) hF hr hg hm hk hb (fun σ => passAt tk σ) ha hdb he hpl) fun _ _ _ h => callF_of h
end
/-- the parameters' slots at the end -/
def keepP (pin : List Nat) : Nat → Nat → Env → Env
  | 0, _, _ => []
  | n + 1, j, [] => []
  | n + 1, j, x :: ρ => (if pin.contains j = true then x else none) :: keepP pin n (j + 1) ρ
def bodyF (np : Nat) (pin : List Nat) (N : Nat) (f : Env → R Fl) (ts : List T) : FR := if ts.length = np then (match f (ts.map some ++ List.replicate (N - np) none) with
  | .ok (.rt t) ρ => .ok t (keepP pin np 0 ρ)
  | .ok .nx ρ => .ok (false, .non) (keepP pin np 0 ρ)
  | .ok (.ra i) ρ => if pin.contains i = true then .al i (keepP pin np 0 ρ) else .bad
  | .exc c _ => .exc c
  | _ => .bad) else .bad
section
variable {K : PySem.W.Frag}
theorem keepP_sub {pin : List Nat} : ∀ {vs : List V} {σ : Sg} {ρ : Env} {j : Nat}, (∀ i v, vs[i]? = some v → j + i ∈ pin → σ[i]? = some (some v)) → (slotsL (vs.map some) (keepP pin vs.length j ρ)).Sublist (slotsL σ ρ)
  | [], _, _, _, _ => List.nil_sublist _
  | v :: vs, σ, [], j, h => by
    show ([] : List VT).Sublist _
    exact List.nil_sublist _
  | v :: vs, [], x :: ρ, j, h => by
    have e : ∀ (vs : List V) (ρ : Env) (j : Nat), (∀ i v, vs[i]? = some v → j + i ∈ pin → ([] : Sg)[i]? = some (some v)) → slotsL (vs.map some) (keepP pin vs.length j ρ) = [] := by
      intro vs
      induction vs with
      | nil => intro ρ j _; rfl
      | cons v vs ih =>
        intro ρ j h
        cases ρ with
        | nil => rfl
        | cons x ρ =>
          have n : pin.contains j = false := by
            cases q : pin.contains j with
            | false => rfl
            | true => have := h 0 v rfl (by simpa using q); simp at this
          show slotsL (some v :: vs.map some) ((if pin.contains j = true then x else none) :: keepP pin vs.length (j + 1) ρ) = []
          rw [n, if_neg Bool.false_ne_true]
          exact ih ρ (j + 1) fun i w hw hp => by
            have := h (i + 1) w hw (by rw [show j + (i + 1) = j + 1 + i by omega]; exact hp)
            simp at this
    rw [e (v :: vs) (x :: ρ) j h]
    exact List.nil_sublist _
  | v :: vs, s :: σ, x :: ρ, j, h => by
    have ih := keepP_sub (pin := pin) (vs := vs) (σ := σ) (ρ := ρ) (j := j + 1) fun i w hw hp => by
      have := h (i + 1) w hw (by rw [show j + (i + 1) = j + 1 + i by omega]; exact hp)
      simpa using this
    show (slotsL (some v :: vs.map some) ((if pin.contains j = true then x else none) :: keepP pin vs.length (j + 1) ρ)).Sublist _
    cases q : pin.contains j with
    | true =>
      have e : s = some v := by
        have := h 0 v rfl (by simpa using q)
        simpa using this
      subst e
      rw [if_pos rfl]
      cases x with
      | none => exact ih
      | some t => exact ih.cons_cons _
    | false =>
      rw [if_neg Bool.false_ne_true]
      cases s with
      | none => exact ih
      | some u =>
        cases x with
        | none => exact ih
        | some t => exact ih.cons _
theorem slots_none : ∀ (σ : Sg) (n : Nat), slotsL σ (List.replicate n none) = []
  | [], _ => by cases ‹Nat› <;> rfl
  | s :: σ, 0 => by cases s <;> rfl
  | s :: σ, n + 1 => by
    have ih := slots_none σ n
    cases s <;> exact ih
theorem slots_app : ∀ (vs : List V) (ts : List T) (σ : Sg) (n : Nat), ts.length = vs.length → slotsL (vs.map some ++ σ) (ts.map some ++ List.replicate n none) = slotsL (vs.map some) (ts.map some)
  | [], [], σ, n, _ => slots_none σ n
  | [], _ :: _, _, _, h => by cases h
  | _ :: _, [], _, _, h => by cases h
  | v :: vs, t :: ts, σ, n, h => by
    show (v, t) :: slotsL (vs.map some ++ σ) (ts.map some ++ List.replicate n none) = (v, t) :: slotsL (vs.map some) (ts.map some)
    rw [slots_app vs ts σ n (by simpa using h)]
theorem sok_none : ∀ (n : Nat), SOk (List.replicate n none) (List.replicate n none)
  | 0 => trivial
  | n + 1 => ⟨fun q => (by cases q), sok_none n⟩
theorem sok_app : ∀ (vs : List V) (ts : List T) (n : Nat), ts.length = vs.length → SOk (vs.map some ++ List.replicate n none) (ts.map some ++ List.replicate n none)
  | [], [], n, _ => sok_none n
  | [], _ :: _, _, h => by cases h
  | _ :: _, [], _, h => by cases h
  | v :: vs, t :: ts, n, h => ⟨fun _ => rfl, sok_app vs ts n (by simpa using h)⟩
end
section
variable {P : Program} {w : World} {K : PySem.W.Frag} {mg : Str → Option Value} {base : Heap} {x qual : Str} {params : Arguments} {body : List Stmt} {scope : Scope} {f : Addr} {fd : FuncData}
theorem fn_bad {N ps : List Str} {k : Nat} : FnOk P w K mg base (L2.CX P w) k f fd ps (spF K fun _ => .bad) :=
  ⟨fun vs H Q E ⟨_, _, _, _, h⟩ => h.elim, fun A outer s H args us vs Q E _ _ _ _ ⟨_, _, _, _, h⟩ => h.elim⟩
theorem fn_ok {N ps : List Str} {k : Nat} {pin : List Nat} {g : Env → R Fl} (F : FunD K x qual params body scope [] [] f fd) (S : FnScope N ps scope) (hp : ps.length ≤ N.length) (hpin : ∀ j ∈ pin, j < ps.length)
    (hbody : ∀ (cdv : Value) (A : Around) (outer : List PySem.Env) (s : Shared) (H : Hp) (E : XK), Room k (A.deeper (envOfC qual scope s.heap.objs.size f cdv)) →
      SSs (cxOf (L2.CX P w) P w K mg base N qual scope f cdv A outer s H E) (fun cls d _ H => E cls d H) pin body g) :
    FnOk P w K mg base (L2.CX P w) (k + 1) f fd ps (spF K (bodyF ps.length pin N.length g)) := by
  have len : ∀ vs H Q E, spF K (bodyF ps.length pin N.length g) vs H Q E → vs.length = ps.length := fun vs H Q E ⟨ts, hs, hl, _, h⟩ => by
    unfold bodyF at h
    by_cases q : ts.length = ps.length
    · rw [← hl]; exact q
    · rw [if_neg q] at h; exact h.elim
  refine F.ok S len fun cdv A outer s H vs Q E hr hsp => ⟨_, hbody cdv A outer s H E hr, ?_⟩
  have hvl := len _ _ _ _ hsp
  obtain ⟨ts, hs, hl, sep, h⟩ := hsp
  have htl : ts.length = ps.length := hl.trans hvl
  unfold bodyF at h
  rw [if_pos htl] at h
  have st : Stt K hs (L2.start N vs) H (ts.map some ++ List.replicate (N.length - ps.length) none) := by
    unfold L2.start
    rw [hvl]
    refine ⟨sok_app vs ts _ hl, ?_⟩
    rw [slots_app vs ts _ _ hl]
    exact sep
  refine ⟨_, hs, L2.start N vs, st, fun _ _ => rfl, ?_⟩
  have outs : ∀ {σ : Sg} {H' : Hp} {ρ : Env} {B : List VT}, Stt K (B ++ hs) σ H' ρ → PinOk pin (L2.start N vs) σ → Sep K H' (B ++ (slotsL (vs.map some) (keepP pin ps.length 0 ρ) ++ hs)) := fun {σ H' ρ B} s1 hp1 => by
    have sb := keepP_sub (pin := pin) (vs := vs) (σ := σ) (ρ := ρ) (j := 0) fun i v hv hi => by
      rw [Nat.zero_add] at hi
      rw [hp1 i hi]
      unfold L2.start
      rw [List.getElem?_append_left (by rw [List.length_map]; exact (List.getElem?_eq_some_iff.mp hv).1), List.getElem?_map, hv]
      rfl
    rw [hvl] at sb
    have p1 : (slotsL σ ρ ++ (B ++ hs)).Perm ((B ++ hs) ++ slotsL σ ρ) := List.perm_append_comm
    have q := Sep.sub sb (A := B ++ hs) (s1.sep.perm p1)
    refine q.perm ?_
    rw [List.append_assoc]
    exact List.perm_append_comm.append_left _
  unfold finS
  cases e : g (ts.map some ++ List.replicate (N.length - ps.length) none) with
  | bad => rw [e] at h; exact h.elim
  | exc c ρ =>
    rw [e] at h
    exact fun σ H' s1 _ => h H' s1.sep.drops
  | ok a ρ =>
    rw [e] at h
    cases a with
    | bk => exact h.elim
    | ct => exact h.elim
    | ra i =>
      intro v σ H' hi s1 hp1
      dsimp only at h
      cases hc : pin.contains i with
      | false => rw [hc, if_neg Bool.false_ne_true] at h; exact h.elim
      | true =>
        rw [hc, if_pos rfl] at h
        have hm : i ∈ pin := by simpa using hc
        have hlt : i < vs.length := by rw [hvl]; exact hpin i hm
        refine h v H' ?_ (outs (B := []) s1 hp1)
        have e1 := hp1 i hm
        rw [hi] at e1
        unfold L2.start at e1
        rw [List.getElem?_append_left (by rw [List.length_map]; exact hlt), List.getElem?_map] at e1
        cases hq : vs[i]? with
        | none => rw [hq] at e1; cases e1
        | some w =>
          rw [hq] at e1
          have e2 : some v = some w := Option.some.inj e1
          exact e2.symm
    | nx =>
      intro σ H' s1 hp1
      refine h _ H' ?_
      obtain ⟨ws, q⟩ := outs (B := []) s1 hp1
      exact ⟨ws, q.pure .non⟩
    | rt t =>
      intro v σ H' s1 hp1
      exact h v H' (outs (B := [(v, t)]) s1 hp1)
end
end Lz
namespace Lz
open PySem PySem.Spec PyProof.Rows L2

section
variable {K : PySem.W.Frag} {W : WX} {hs A : List VT} {σ σ0 : Sg} {H : Hp} {ρ : Env} {v : V}
theorem Stt.lstAt {i : Nat} {ds : List D} (s : Stt K hs σ H ρ) (hx : σ[i]? = some (some v)) (e : gt ρ i = some (true, .lst ds)) :
    ∃ a vs ws L, v = .ref a ∧ H a = some (.lst vs) ∧ RepAll K H (· ∈ ws) vs ds ∧ SepW K H L ws ∧ (∀ p, p ∈ slotsL σ ρ ++ hs → p ∈ L) ∧
      ∀ vs' ds', RepAll K H (· ∈ ws) vs' ds' → Stt K hs σ (upd H a (.lst vs')) (pt ρ i (some (true, .lst ds'))) := by
  have hi : i < ρ.length := gt_lt e
  have p := (slots_take hx e).append_right hs
  obtain ⟨ws, q⟩ := s.sep.perm p
  obtain ⟨a, vs, rfl, h1, r⟩ := q.lst List.mem_cons_self
  refine ⟨a, vs, ws, _, rfl, h1, r, q, fun x hxm => p.mem_iff.mp hxm, fun vs' ds' r' => ⟨s.ok.keep i hx, ?_⟩⟩
  have q' := q.chgLst rfl r'
  exact Sep.perm ((slots_keep (t := (true, .lst ds')) hx hi).append_right hs).symm ⟨ws, q'⟩
end
def isL (x : XV) (ρ : Env) : Bool := match x with
  | .b i => (match gt ρ i with
    | some (true, .lst _) => true
    | _ => false)
  | _ => false
def opApp (x : XV) (xs : List XV) (ρ : Env) : R XV := match x, xs with
  | .b i, [y] => (frz y ρ).bind fun d ρ => (match gt ρ i with
    | some (true, .lst ds) => if ds.length < lim then .ok (.v false .non) (pt ρ i (some (true, .lst (ds ++ [d])))) else .bad
    | _ => .bad)
  | _, _ => .bad
def opExt (x : XV) (xs : List XV) (ρ : Env) : R XV := match x, xs with
  | .b i, [y] => (match view y ρ, gt ρ i with
    | some (.lst es), some (true, .lst ds) => if ds.length + es.length ≤ lim then .ok (.v false .non) (pt ρ i (some (true, .lst (ds ++ es)))) else .bad
    | _, _ => .bad)
  | _, _ => .bad
def sMu (op : XV → List XV → Env → R XV) (a : Env → R XV) (f : Env → R (List XV)) (ρ : Env) : R XV := (a ρ).bind fun x ρ => if isL x ρ = true then (f ρ).bind fun xs ρ => op x xs ρ else .bad
section
variable {K : PySem.W.Frag} {W : WX} {hs A : List VT} {σ σ0 : Sg} {H : Hp} {ρ : Env} {v u : V} {Q : VK}
theorem non_ok (s : Stt K hs σ H ρ) (h : fin K W hs σ (.ok (.v false .non) ρ) Q) : Q .non H := fin_c (d := .non) s (fun _ => .non) h
theorem opApp_ok {x : XV} {xs : List XV} {vs : List V} (s : Stt K (hlds xs vs ++ (hld x v ++ hs)) σ H ρ) (hx : ResV σ x v) (hxs : ResVs σ xs vs) (h : fin K W hs σ (opApp x xs ρ) Q) : L2.rAppend v vs H Q := by
  unfold opApp at h
  cases x with
  | v o d => exact h.elim
  | b i =>
    match xs, vs, hxs, h, s with
    | [], _, _, h, _ => exact h.elim
    | _ :: _ :: _, _, _, h, _ => exact h.elim
    | [_], [], hxs, _, _ => exact hxs.elim
    | [_], _ :: _ :: _, hxs, _, _ => exact hxs.2.elim
    | [y], [u], hxs, h, s =>
      have s' : Stt K (hld y u ++ hs) σ H ρ := by
        have e : hlds [y] [u] ++ (hld (.b i) v ++ hs) = hld y u ++ hs := by simp [hlds, hld]
        rw [e] at s
        exact s
      dsimp only at h
      cases ez : frz y ρ with
      | bad => rw [ez] at h; exact h.elim
      | exc c ρ1 => exact (frz_exc ez).elim
      | ok d ρ1 =>
        rw [ez] at h
        have h' : fin K W hs σ (match gt ρ1 i with
          | some (true, .lst ds) => if ds.length < lim then .ok (.v false .non) (pt ρ1 i (some (true, .lst (ds ++ [d])))) else .bad
          | _ => .bad) Q := h
        have s1 := frz_ok s' hxs.1 ez
        have hx' : σ[i]? = some (some v) := hx
        cases eg : gt ρ1 i with
        | none => rw [eg] at h'; exact h'.elim
        | some t =>
          rw [eg] at h'
          obtain ⟨o, dd⟩ := t
          cases o with
          | false => exact h'.elim
          | true =>
            cases dd <;> first | exact h'.elim | skip
            rename_i ds
            have h2 : fin K W hs σ (if ds.length < lim then .ok (.v false .non) (pt ρ1 i (some (true, .lst (ds ++ [d])))) else .bad) Q := h'
            by_cases hz : ds.length < lim
            · rw [if_pos hz] at h2
              obtain ⟨a, ws0, wsx, L, rfl, h1, r, q, m, fn⟩ := s1.lstAt hx' eg
              refine ⟨a, ws0, u, rfl, rfl, h1, by rw [r.length]; exact hz, ?_⟩
              have ru : Rep K H (· ∈ wsx) u d := q.rep (m _ (List.mem_append_right _ List.mem_cons_self))
              have s2 := fn (ws0 ++ [u]) (ds ++ [d]) (r.append (.cons ru .nil))
              exact non_ok (Stt.dropA (A := [(u, (false, d))]) s2) h2
            · rw [if_neg hz] at h2; exact h2.elim
theorem opExt_ok {x : XV} {xs : List XV} {vs : List V} (s : Stt K (hlds xs vs ++ (hld x v ++ hs)) σ H ρ) (hx : ResV σ x v) (hxs : ResVs σ xs vs) (h : fin K W hs σ (opExt x xs ρ) Q) : L2.rExtend v vs H Q := by
  unfold opExt at h
  cases x with
  | v o d => exact h.elim
  | b i =>
    match xs, vs, hxs, h, s with
    | [], _, _, h, _ => exact h.elim
    | _ :: _ :: _, _, _, h, _ => exact h.elim
    | [_], [], hxs, _, _ => exact hxs.elim
    | [_], _ :: _ :: _, hxs, _, _ => exact hxs.2.elim
    | [y], [u], hxs, h, s =>
      have s' : Stt K (hld y u ++ hs) σ H ρ := by
        have e : hlds [y] [u] ++ (hld (.b i) v ++ hs) = hld y u ++ hs := by simp [hlds, hld]
        rw [e] at s
        exact s
      dsimp only at h
      cases ev : view y ρ with
      | none => rw [ev] at h; exact h.elim
      | some dy =>
        rw [ev] at h
        cases dy <;> first | exact h.elim | skip
        rename_i es
        have hx' : σ[i]? = some (some v) := hx
        cases eg : gt ρ i with
        | none => rw [eg] at h; exact h.elim
        | some t =>
          rw [eg] at h
          obtain ⟨o, dd⟩ := t
          cases o with
          | false => exact h.elim
          | true =>
            cases dd <;> first | exact h.elim | skip
            rename_i ds
            have h2 : fin K W hs σ (if ds.length + es.length ≤ lim then .ok (.v false .non) (pt ρ i (some (true, .lst (ds ++ es)))) else .bad) Q := h
            by_cases hz : ds.length + es.length ≤ lim
            · rw [if_pos hz] at h2
              obtain ⟨o1, m1⟩ := s'.mem hxs.1 (fun p hp => by simp [hp]) ev
              obtain ⟨a, ws0, wsx, L, rfl, h1, r, q, m, fn⟩ := s'.lstAt hx' eg
              -- the other list
              have pmem := m1
              obtain ⟨ws1, q1⟩ := s'.sep
              obtain ⟨b, us0, rfl, hb1, _⟩ := q1.lst m1
              have rr : ∃ us, H b = some (.lst us) ∧ RepAll K H (· ∈ wsx) us es := by
                rcases List.mem_append.mp m1 with hm | hm
                · by_cases hin : (V.ref b, (o1, D.lst es)) ∈ L
                  · obtain ⟨b', us, eb, hb, rb⟩ := q.lst hin
                    cases eb
                    exact ⟨us, hb, rb⟩
                  · exact absurd (m _ (List.mem_append_left _ hm)) hin
                · obtain ⟨b', us, eb, hb, rb⟩ := q.lst (m _ (List.mem_append_right _ hm))
                  cases eb
                  exact ⟨us, hb, rb⟩
              obtain ⟨us, hb, rb⟩ := rr
              refine ⟨a, b, ws0, us, rfl, rfl, h1, hb, by rw [r.length, rb.length]; exact hz, ?_⟩
              have s2 := fn (ws0 ++ us) (ds ++ es) (r.append rb)
              exact non_ok (Stt.dropA (A := hld y (.ref b)) s2) h2
            · rw [if_neg hz] at h2; exact h2.elim
end
section
variable {X : Cx} {W : WX} {o e : Expr} {es : List Expr} {fa : Env → R XV} {f : Env → R (List XV)} {name : Str} {apos cpos : Pos} {id : String}
theorem se_mu {op : XV → List XV → Env → R XV} {r : V → List V → Hp → VK → Prop} (pa : PlainAttrs "list") (slot : Slot "list" name id) (hty : typeOf (.builtin id) = pure (.type "method_descriptor")) (hm : MtR X id r)
    (hop : ∀ {hs : List VT} {σ : Sg} {H : Hp} {ρ : Env} {Q : VK} {x : XV} {v : V} {xs : List XV} {vs : List V}, Stt X.K (hlds xs vs ++ (hld x v ++ hs)) σ H ρ → ResV σ x v → ResVs σ xs vs → fin X.K W hs σ (op x xs ρ) Q → r v vs H Q)
    (ho : SE X W o fa) (ha : SA X W (e :: es) f)
    (hbase : attributeBase o name X.env (eval o X.env) = eval o X.env)
    (few : ((backTo cpos (starEach (e :: es) X.env)).all (fun x => !x.1) && (backToKw cpos (keywordEach [] X.env)).all (fun x => x.1.isSome) && decide ((e :: es).length + 0 + 0 < 30)) = true)
    (hline : (apos.endLine == cpos.line) = true) (hst : starEach (e :: es) X.env = (false, eval e X.env) :: starEach es X.env) (hpl : (backTo cpos (starEach es X.env)).any (·.1) = false) :
    SE X W (.Call (.Attribute o name apos) (e :: es) [] cpos) (sMu op fa f) := by
  refine PE.weak (pe_bmW pa slot hty hm ho ha hbase few hline hst hpl) fun σ H Q h => ?_
  obtain ⟨ρ, hs, s, h⟩ := h
  refine ⟨ρ, hs, s, fin_mono (fin_bind0 h) fun v H1 ⟨x, ρ1, hx, s1, h1⟩ => ?_⟩
  cases et : isL x ρ1 with
  | false => rw [et] at h1; exact h1.elim
  | true =>
    rw [et, if_pos rfl] at h1
    refine ⟨?_, ρ1, _, s1, finA_mono (fin_bindA (hld x v) h1) fun vs H2 ⟨xs, ρ2, hxs, s2, h2⟩ => hop s2 hx hxs h2⟩
    unfold isL at et
    cases x with
    | v o d => cases et
    | b i =>
      dsimp only at et
      cases eg : gt ρ1 i with
      | none => rw [eg] at et; cases et
      | some t =>
        rw [eg] at et
        obtain ⟨o, dd⟩ := t
        cases o with
        | false => cases et
        | true =>
          cases dd <;> first | cases et | skip
          obtain ⟨a, vs, ws, L, rfl, h2, _⟩ := s1.lstAt hx eg
          exact .inl ⟨rfl, _, h2⟩
end
def opSetI (x z y : XV) (ρ : Env) : R Fl := match x, view z ρ with
  | .b j, some (.int k) => (frz y ρ).bind fun d ρ => (match gt ρ j with
    | some (true, .lst ds) => (match ixN ds.length k with
      | some m => .ok .nx (pt ρ j (some (true, .lst (ds.set m d))))
      | none => .bad)
    | _ => .bad)
  | _, _ => .bad
def xSetI (fe fo fi : Env → R XV) (ρ : Env) : R Fl := (fe ρ).bind fun y ρ => (fo ρ).bind fun x ρ => (fi ρ).bind fun z ρ => opSetI x z y ρ
section
variable {K : PySem.W.Frag} {W : WX} {hs : List VT} {σ σ0 : Sg} {H : Hp} {ρ : Env} {pin : List Nat}
theorem finS_bindA {k : XV → Env → R Fl} {r : R XV} {E : Ends} (A : List VT) (h : finS K W hs pin σ0 (r.bind k) E) (hp : PinOk pin σ0 σ) :
    fin K W (A ++ hs) σ r (fun v H1 => ∃ x ρ1, ResV σ x v ∧ Stt K (hld x v ++ (A ++ hs)) σ H1 ρ1 ∧ finS K W hs pin σ0 (k x ρ1) E) := by
  cases r with
  | ok x ρ => exact fun v H1 hv s => ⟨x, ρ, hv, s, h⟩
  | exc c ρ => exact fun H1 s => h σ H1 s.dropA hp
  | bad => exact h
end
section
variable {X : Cx} {W : WX} {pin : List Nat} {e o i : Expr} {fe fo fi : Env → R XV} {pos p2 : Pos}
theorem ss_setI (he : SE X W e fe) (ho : SE X W o fo) (hi : SE X W i fi) (hs : swapsWithSole [.Subscript o i p2] e pos.line X.env = pure false) (hw : swappedStores [.Subscript o i p2] e X.env = pure none)
    (h1 : (assignEach [.Subscript o i p2] X.env).map (·.2) = [assign (.Subscript o i p2) X.env])
    (ha : ∀ v, assign (.Subscript o i p2) X.env v = (do
      let ov ← holding [v] (eval o X.env)
      let iv ← holding [v, ov] (eval i X.env)
      standAt p2
      holding [v, ov, iv] (setItem ov iv v)
      release [v, ov, iv] [])) : SS X W pin (.Assign [.Subscript o i p2] e pos) (xSetI fe fo fi) := by
  refine PS.weak (ps_asg he (pg_sub ho hi set_list ha) hs hw h1) fun E σ H h => ?_
  obtain ⟨ρ, hs, σ0, s, hp, h⟩ := h
  refine ⟨ρ, hs, s, fin_mono (finS_bind h hp) fun u H1 ⟨y, ρ1, hy, s1, h1⟩ => ?_⟩
  refine ⟨ρ1, _, s1, fin_mono (finS_bindA (hld y u) h1 hp) fun v H2 ⟨x, ρ2, hx, s2, h2⟩ => ?_⟩
  rw [← List.append_assoc] at s2
  refine ⟨ρ2, _, s2, fin_mono (finS_bindA (hld x v ++ hld y u) h2 hp) fun w H3 ⟨z, ρ3, hz, s3, h3⟩ => ?_⟩
  unfold opSetI at h3
  cases x with
  | v _ _ => exact h3.elim
  | b j =>
    cases ev : view z ρ3 with
    | none => rw [ev] at h3; exact h3.elim
    | some dz =>
      rw [ev] at h3
      cases dz <;> first | exact h3.elim | skip
      rename_i k
      obtain ⟨o1, m1⟩ := s3.mem hz (fun p hp => by simp [hp]) ev
      obtain ⟨ws0, q0⟩ := s3.sep
      have ew := q0.int m1
      subst ew
      dsimp only at h3
      have s4 : Stt X.K (hld y u ++ hs) σ H3 ρ3 := Stt.dropA (A := hld z (.int k)) (by simpa [hld] using s3)
      cases ez : frz y ρ3 with
      | bad => rw [ez] at h3; exact h3.elim
      | exc c ρ4 => exact (frz_exc ez).elim
      | ok d ρ4 =>
        rw [ez] at h3
        have h4 : finS X.K W hs pin σ0 (match gt ρ4 j with
          | some (true, .lst ds) => (match ixN ds.length k with
            | some m => .ok .nx (pt ρ4 j (some (true, .lst (ds.set m d))))
            | none => .bad)
          | _ => .bad) E := h3
        have s5 := frz_ok s4 hy ez
        have hx' : σ[j]? = some (some v) := hx
        cases eg : gt ρ4 j with
        | none => rw [eg] at h4; exact h4.elim
        | some t =>
          rw [eg] at h4
          obtain ⟨o, dd⟩ := t
          cases o with
          | false => exact h4.elim
          | true =>
            cases dd <;> first | exact h4.elim | skip
            rename_i ds
            have h5 : finS X.K W hs pin σ0 (match ixN ds.length k with
              | some m => .ok .nx (pt ρ4 j (some (true, .lst (ds.set m d))))
              | none => .bad) E := h4
            cases em : ixN ds.length k with
            | none => rw [em] at h5; exact h5.elim
            | some m =>
              rw [em] at h5
              obtain ⟨a, vs, wsx, L, rfl, h1, r, q, mm, fn⟩ := s5.lstAt hx' eg
              have ru : Rep X.K H3 (· ∈ wsx) u d := q.rep (mm _ (List.mem_append_right _ List.mem_cons_self))
              have s6 := fn (vs.set m u) (ds.set m d) (r.set ru m)
              refine ⟨a, vs, k, m, rfl, rfl, h1, by rw [r.length]; exact em, ?_⟩
              exact h5 σ _ (Stt.dropA (A := [(u, (false, d))]) s6) hp
end
def xRaise (c : Str) (ρ : Env) : R Fl := .exc c ρ
section
variable {X : Cx} {W : WX} {pin : List Nat} {x m : Str} {j : Nat} {p p2 pos rpos : Pos}
theorem ss_raise (hc : X.calm = true) (tk : Takes X W) (q : (He.Fa.exc x).ok X.K = true) (gC : X.mg x = some (.ref (He.ga X.K x))) (hg : Gl X x) (hdb : (x == ("__debug__" : Str)) = false) :
    SS X W pin (.Raise (some (.Call (.Name x p) [.Constant (.str m) j p2] [] pos)) none rpos) (xRaise x) := by
  obtain ⟨q1, q2, q3, q4⟩ := He.exc_ok q
  have r : Raises X (.ref (He.ga X.K x)) := fun M h hx => ⟨PySem.W.looks_subIn hx q3, PySem.W.looks_typeIn hx q4⟩
  refine PS.weak (ps_raise hc tk (pmk_own PySem.F.excBase_ValueError q1 gC q2 r hg hdb)) fun E σ H h => ?_
  obtain ⟨ρ, hs, σ0, s, hp, h⟩ := h
  exact h σ H s hp
end
end Lz
namespace Lz
open PySem PySem.Spec PyProof.Rows L2

theorem room_u {k : Nat} {A : Around} (hr : Room k A) : A.units + 65 < cLine := by have := hr.un; omega
/-- a def of one's own, by its name -/
def OkF (P : Program) (w : World) (K : PySem.W.Frag) (mg : Str → Option Value) (base : Heap) (x : Str) (k : Nat) (F : List T → FR) : Prop :=
  ∃ (f : Addr) (fd : FuncData) (ps : List Str), FnOk P w K mg base (L2.CX P w) k f fd ps (spF K F) ∧ mg x = some (.ref f) ∧ PySem.W.keepIn K (.ref f) = true ∧ Binds K fd ps []
section
variable {X : Cx} {W : WX} {e : Expr} {es : List Expr} {fa : Env → R (List XV)} {k : Nat} {F : List T → FR} {x : Str} {p pos : Pos}
theorem cf (h : OkF X.prog X.w X.K X.mg X.base x k F) (hr : Room k X.A) (tk : Takes X W) (ha : SA X W (e :: es) fa) (hg : Gl X x := by rfl) (hdb : (x == ("__debug__" : Str)) = false := by decide)
    (he : starEach (e :: es) X.env = (false, eval e X.env) :: starEach es X.env := by rfl) (hpl : (backTo pos (starEach es X.env)).any (·.1) = false := by rfl) :
    SE X W (.Call (.Name x p) (e :: es) [] pos) (sCallF F fa) := by
  obtain ⟨f, fd, ps, h1, h2, h3, h4⟩ := h
  exact se_callF h1 hr hg h2 h3 h4 tk ha hdb he hpl
end

def gN (i : Nat) (d : D) (ρ : Env) : Option Env := some (pt ρ i (some (false, d)))
def putY (i : Nat) (x : XV) (ρ : Env) : R Fl := match x with
  | .v o d => .ok .nx (pt ρ i (some (o, d)))
  | .b j => (match gt ρ j with
    | some t => .ok .nx (pt (pt ρ j (some (false, t.2))) i (some (false, t.2)))
    | none => .bad)
def xSt (i : Nat) (f : Env → R XV) (ρ : Env) : R Fl := (f ρ).bind (putY i)
theorem xSt_eq {pin : List Nat} {i : Nat} (h : i ∉ pin) (f : Env → R XV) : xSt i f = xSet pin i f := by
  funext ρ
  unfold xSt xSet
  congr 1
  funext x ρ
  unfold putX putY
  rw [if_neg h]
  try (cases x <;> rfl)
theorem gN_eq {pin : List Nat} {i : Nat} (h : i ∉ pin) : gN i = gNm pin i := by
  funext d ρ
  unfold gN gNm
  rw [if_neg h]
section
variable {X : Cx} {W : WX} {pin : List Nat}
theorem va (i : Nat) {x : Str} {pos : Pos} (hN : X.N[i]? = some x := by rfl) (hv : Vis X.env.scope x := by first | exact Or.inl rfl | exact Or.inr (Or.inl rfl) | exact Or.inr (Or.inr rfl)) (hd : (x == ("__debug__" : Str)) = false := by decide)
    (hcd : (x == ("__classdict__" : Str)) = false := by decide) : SE X W (.Name x pos) (sVar i) := se_var hN hv hd hcd
theorem gn (i : Nat) {x : Str} {pos : Pos} (hN : X.N.Nodup) (hm : i ∉ pin) (hi : X.N[i]? = some x := by rfl) (hx : Loc X.env.scope x := by first | exact Or.inl rfl | exact Or.inr rfl) (hf : X.fn x = true ∨ X.env.scope.names.lookup x = some .local := by first | exact .inl rfl | exact .inr rfl) :
    SG X pin (.Name x pos) (gN i) := by
  rw [gN_eq hm]
  exact sg_nm hN hi hx hf
theorem gc {e : Expr} {es : List Expr} {g : D → Env → Option Env} {h : List D → Env → Option Env} (h1 : SG X pin e g) (h2 : SGs X pin es h)
    (hst : (assignEach (e :: es) X.env).map (·.2) = assign e X.env :: (assignEach es X.env).map (·.2) := by rfl) : SGs X pin (e :: es) (gCn g h) := sg_cons h1 h2 hst
theorem gT {es : List Expr} {k : Nat} {h : List D → Env → Option Env} {pos : Pos} {n : Nat} (h2 : SGs X pin es h) (hc : X.calm = true := by rfl) (hn : (assignEach es X.env).length = n := by rfl) (hst : (assignEach es X.env).findIdx? (·.1) = none := by rfl) : SG X pin (.Tuple es k pos) (gTp n h) := sg_tup hc h2 hn hst
theorem st {i : Nat} {x : Str} {e : Expr} {fe : Env → R XV} {pos pos' : Pos} (hN : X.N.Nodup) (hm : i ∉ pin) (he : SE X W e fe) (hi : X.N[i]? = some x := by rfl) (hx : Loc X.env.scope x := by first | exact Or.inl rfl | exact Or.inr rfl) (hs : swapsWith e (some (.Name x pos')) pos.line X.env = pure false := by rfl)
    (hf : X.fn x = true ∨ X.env.scope.names.lookup x = some .local := by first | exact .inl rfl | exact .inr rfl) : SS X W pin (.Assign [.Name x pos'] e pos) (xSt i fe) := by
  rw [xSt_eq hm]
  exact ss_set hN hi hx he hs hf
theorem sg {e tg : Expr} {fe : Env → R XV} {g : D → Env → Option Env} {pos : Pos} (he : SE X W e fe) (hg : SG X pin tg g) (hs : swapsWithSole [tg] e pos.line X.env = pure false := by rfl) (hw : swappedStores [tg] e X.env = pure none := by rfl) (h1 : (assignEach [tg] X.env).map (·.2) = [assign tg X.env] := by rfl) :
    SS X W pin (.Assign [tg] e pos) (xSetG g fe) := ss_asg he hg hs hw h1
theorem si' {e o i : Expr} {fe fo fi : Env → R XV} {pos p2 : Pos} (he : SE X W e fe) (ho : SE X W o fo) (hi : SE X W i fi) (hs : swapsWithSole [.Subscript o i p2] e pos.line X.env = pure false := by rfl) (hw : swappedStores [.Subscript o i p2] e X.env = pure none := by rfl)
    (h1 : (assignEach [.Subscript o i p2] X.env).map (·.2) = [assign (.Subscript o i p2) X.env] := by rfl)
    (ha : ∀ v, assign (.Subscript o i p2) X.env v = (do
      let ov ← holding [v] (eval o X.env)
      let iv ← holding [v, ov] (eval i X.env)
      standAt p2
      holding [v, ov, iv] (setItem ov iv v)
      release [v, ov, iv] []) := by intro _; rfl) : SS X W pin (.Assign [.Subscript o i p2] e pos) (xSetI fe fo fi) := ss_setI he ho hi hs hw h1 ha
theorem ex {e : Expr} {fe : Env → R XV} {pos : Pos} (he : SE X W e fe) (hs : swapsWith e none pos.line X.env = pure false := by rfl) : SS X W pin (.Expr e pos) (xExpr fe) := ss_expr he hs

def xFr (pin : List Nat) (si : Env → R Its) (g : D → Env → Option Env) (f : Env → R Fl) (ρ : Env) : R Fl := (si ρ).bind fun it ρ => if lkOk pin it.lk = true then relk it.lk (forL g f it.items ρ) else .bad
theorem R.bind_le {K : PySem.W.Frag} {hs : List VT} {σ0 : Sg} {E : Ends} {α : Type} {r : R α} {k k' : α → Env → R Fl} (h : ∀ a ρ, k a ρ = k' a ρ ∨ k a ρ = .bad) (f : finS K W hs pin σ0 (r.bind k) E) : finS K W hs pin σ0 (r.bind k') E := by
  cases r with
  | ok a ρ =>
    rcases h a ρ with e | e
    · have f' : finS K W hs pin σ0 (k a ρ) E := f
      rw [e] at f'
      exact f'
    · have f' : finS K W hs pin σ0 (k a ρ) E := f
      rw [e] at f'
      exact f'.elim
  | exc c ρ => exact f
  | bad => exact f
theorem fr {L pin' : List Nat} {tg iter : Expr} {body : List Stmt} {si : Env → R Its} {g : D → Env → Option Env} {f : Env → R Fl} {pos : Pos} (hpo : PassesOwn (model X.prog X.w) X.A X.env X.xe) (hsub : ∀ j ∈ pin, j ∈ pin') (hL : ∀ j ∈ L, j ∈ pin') (hi : SI X W tg iter si) (hg : SG X pin' tg g) (hb : SSs X W pin' body f)
    (hc : X.calm = true := by rfl) (hs : ∀ x, foldedSetIterable iter X.env x = pure x := by intro _; rfl) : SS X W pin (.For tg iter body [] pos) (xFr L si g f) := by
  refine PS.weak (ss_for (pin := pin) hpo hc hsub hi hg hb hs) fun E σ H h => ?_
  obtain ⟨ρ, hs, σ0, s, hp, h⟩ := h
  refine ⟨ρ, hs, σ0, s, hp, R.bind_le (fun it ρ => ?_) h⟩
  cases e : lkOk L it.lk with
  | false => exact .inr (if_neg Bool.false_ne_true)
  | true =>
    have e2 : lkOk pin' it.lk = true := by
      unfold lkOk at e ⊢
      split at e
      · rfl
      · exact List.contains_iff_mem.mpr (hL _ (List.contains_iff_mem.mp e))
    rw [e2]
    exact .inl rfl
theorem wh (n : Nat) {c : Expr} {body : List Stmt} {gc : Env → R Bool} {f : Env → R Fl} {pos : Pos} (hpo : PassesOwn (model X.prog X.w) X.A X.env X.xe) (hc : SB X W c gc) (hb : SSs X W pin body f) : SS X W pin (.While c body [] pos) (xWhile gc f n) := ss_while n hpo hc hb

theorem tv {e : Expr} {fa : Env → R XV} (h : SE X W e fa) (he : ∀ whole, isTrue e X.env whole = (do let v ← whole; standAt e.pos; holding [v] (truthy v)) := by intro _; rfl) : SB X W e (sB fa) := sb_val h he
theorem an : SA X W [] sNil := sa_nil
theorem ac {e : Expr} {es : List Expr} {f : Env → R XV} {g : Env → R (List XV)} (ha : SE X W e f) (hr : SA X W es g) (hst : starEach (e :: es) X.env = (false, eval e X.env) :: starEach es X.env := by rfl) : SA X W (e :: es) (sCons f g) := sa_cons ha hr hst
theorem cb {e : Expr} {es : List Expr} {f : Env → R (List XV)} {p pos : Pos} {x : Str} {id : String} {cf : List D → Option T} (hc : CallR X (.builtin id) (rCl X.K cf)) (hm : X.mg x = none) (ha : SA X W (e :: es) f) (hv : bootBuiltins x = some (.builtin id) := by decide +kernel) (hg : Gl X x := by rfl) (hn : x ≠ "__name__" := by decide) (hdb : (x == ("__debug__" : Str)) = false := by decide)
    (he : starEach (e :: es) X.env = (false, eval e X.env) :: starEach es X.env := by rfl) (hpl : (backTo pos (starEach es X.env)).any (·.1) = false := by rfl) : SE X W (.Call (.Name x p) (e :: es) [] pos) (sCl cf f) := se_callB hc hg hm hv ha hn hdb he hpl
theorem ct {e : Expr} {es : List Expr} {f : Env → R (List XV)} {p pos : Pos} {x : Str} {T : String} {cf : List D → Option Lz.T} (hc : CallR X (.type T) (rCl X.K cf)) (hm : X.mg x = none) (ha : SA X W (e :: es) f) (hv : bootBuiltins x = some (.type T) := by decide +kernel) (hg : Gl X x := by rfl) (hn : x ≠ "__name__" := by decide) (hdb : (x == ("__debug__" : Str)) = false := by decide)
    (he : starEach (e :: es) X.env = (false, eval e X.env) :: starEach es X.env := by rfl) (hpl : (backTo pos (starEach es X.env)).any (·.1) = false := by rfl) : SE X W (.Call (.Name x p) (e :: es) [] pos) (sCl cf f) := se_callTy hc hg hm hv ha hn hdb he hpl
theorem isi {e : Expr} {f : Env → R XV} {ty : Str} {T : String} {p p2 pos : Pos} (hm : X.mg "isinstance" = none) (hm2 : X.mg ty = none) (he : SE X W e f) (hv2 : bootBuiltins ty = some (.type T) := by decide +kernel) (hg : Gl X "isinstance" := by rfl) (hg2 : Gl X ty := by rfl) 
    (hn2 : ty ≠ "__name__" := by decide) (hd2 : (ty == ("__debug__" : Str)) = false := by decide) (hst : starEach [e, .Name ty p2] X.env = (false, eval e X.env) :: starEach [.Name ty p2] X.env := by rfl) :
    SE X W (.Call (.Name "isinstance" p) [e, .Name ty p2] [] pos) (sUn (isiD T) f) := se_isi trivial he hg hm hg2 hm2 hv2 hn2 hd2 hst
theorem ix {a b : Expr} {fa fb : Env → R XV} {pos : Pos} (ha : SE X W a fa) (hb : SE X W b fb) (hs : PlainIx b := by exact fun _ _ => rfl) : SE X W (.Subscript a b pos) (sBin opIx fa fb) := se_ix ir_ix ha hb hs
theorem sl {a : Expr} {lo hi : Option Expr} {p2 pos : Pos} {fa : Env → R XV} {fl fh : Option (Env → R XV)} (ha : SE X W a fa) (hl : SO X W lo (sOpt fl)) (hh : SO X W hi (sOpt fh)) :
    SE X W (.Subscript a (.Slice lo hi none p2) pos) (sSl opSl fa fl fh) := se_slice sr_sl ha hl hh
theorem cm {op : CmpOp} {f : D → D → Option T} {a b : Expr} {fa fb : Env → R XV} {pos : Pos} (ho : OpR X (compareOp op) (rOp X.K f)) (ha : SE X W a fa) (hb : SE X W b fb) (hm : behindInMarks op b = false := by rfl) : SE X W (.Compare a [op] [b] pos) (sBin f fa fb) := se_cmp ho ha hb hm
theorem cmB {op : CmpOp} {f : D → D → Option T} {a b : Expr} {fa fb : Env → R XV} {pos : Pos} (ho : OpR X (compareOp op) (rOp X.K f)) (ha : SE X W a fa) (hb : SE X W b fb) (hm : behindInMarks op b = false := by rfl) : SB X W (.Compare a [op] [b] pos) (sB (sBin f fa fb)) := sb_cmp ho ha hb hm
theorem chn {a b : Expr} {fa fb : Env → R XV} {pos : Pos} {op op' : CmpOp} {c : Expr} {fc : Env → R XV} {f f' : D → D → Option T} (ho : OpR X (compareOp op) (rOp X.K f)) (ho' : OpR X (compareOp op') (rOp X.K f')) (ha : SE X W a fa) (hb : SE X W b fb) (hc : SE X W c fc)
    (hm : lastMarks [op, op'] [b, c] = false := by rfl) : SE X W (.Compare a [op, op'] [b, c] pos) (sChain f f' fa fb fc) := se_chain ho ho' ha hb hc hm
theorem chnB {a b : Expr} {fa fb : Env → R XV} {pos : Pos} {op op' : CmpOp} {c : Expr} {fc : Env → R XV} {f f' : D → D → Option T} (ho : OpR X (compareOp op) (rOp X.K f)) (ho' : OpR X (compareOp op') (rOp X.K f')) (ha : SE X W a fa) (hb : SE X W b fb) (hc : SE X W c fc)
    (hm : lastMarks [op, op'] [b, c] = false := by rfl) : SB X W (.Compare a [op, op'] [b, c] pos) (sB (sChain f f' fa fb fc)) := sb_chain ho ho' ha hb hc hm
theorem mB {o e : Expr} {es : List Expr} {fa : Env → R XV} {f : Env → R (List XV)} {name : Str} {apos cpos : Pos} {ty id : String} {mf : D → List D → Option T} (pa : PlainAttrs ty) (slot : Slot ty name id) (hty : typeOf (.builtin id) = pure (.type "method_descriptor")) (hm : MtR X id (rMt X.K mf)) (ho : SE X W o fa) (ha : SA X W (e :: es) f)
    (hbase : attributeBase o name X.env (eval o X.env) = eval o X.env := by rfl)
    (few : ((backTo cpos (starEach (e :: es) X.env)).all (fun x => !x.1) && (backToKw cpos (keywordEach [] X.env)).all (fun x => x.1.isSome) && decide ((e :: es).length + 0 + 0 < 30)) = true := by rfl)
    (hline : (apos.endLine == cpos.line) = true := by rfl) (hst : starEach (e :: es) X.env = (false, eval e X.env) :: starEach es X.env := by rfl) (hpl : (backTo cpos (starEach es X.env)).any (·.1) = false := by rfl) :
    SE X W (.Call (.Attribute o name apos) (e :: es) [] cpos) (sMt ty mf fa f) := se_bm pa slot hty hm ho ha hbase few hline hst hpl
theorem mU {op : XV → List XV → Env → R XV} {r : V → List V → Hp → VK → Prop} {o e : Expr} {es : List Expr} {fa : Env → R XV} {f : Env → R (List XV)} {name : Str} {apos cpos : Pos} {id : String} (slot : Slot "list" name id) (hty : typeOf (.builtin id) = pure (.type "method_descriptor")) (hm : MtR X id r)
    (hop : ∀ {hs : List VT} {σ : Sg} {H : Hp} {ρ : Env} {Q : VK} {x : XV} {v : V} {xs : List XV} {vs : List V}, Stt X.K (hlds xs vs ++ (hld x v ++ hs)) σ H ρ → ResV σ x v → ResVs σ xs vs → fin X.K W hs σ (op x xs ρ) Q → r v vs H Q)
    (ho : SE X W o fa) (ha : SA X W (e :: es) f)
    (hbase : attributeBase o name X.env (eval o X.env) = eval o X.env := by rfl)
    (few : ((backTo cpos (starEach (e :: es) X.env)).all (fun x => !x.1) && (backToKw cpos (keywordEach [] X.env)).all (fun x => x.1.isSome) && decide ((e :: es).length + 0 + 0 < 30)) = true := by rfl)
    (hline : (apos.endLine == cpos.line) = true := by rfl) (hst : starEach (e :: es) X.env = (false, eval e X.env) :: starEach es X.env := by rfl) (hpl : (backTo cpos (starEach es X.env)).any (·.1) = false := by rfl) :
    SE X W (.Call (.Attribute o name apos) (e :: es) [] cpos) (sMu op fa f) := se_mu PySem.F.plainAttrs_list slot hty hm hop ho ha hbase few hline hst hpl
theorem mApp {o e : Expr} {fa : Env → R XV} {f : Env → R (List XV)} {apos cpos : Pos} (ho : SE X W o fa) (ha : SA X W [e] f)
    (hbase : attributeBase o "append" X.env (eval o X.env) = eval o X.env := by rfl)
    (few : ((backTo cpos (starEach [e] X.env)).all (fun x => !x.1) && (backToKw cpos (keywordEach [] X.env)).all (fun x => x.1.isSome) && decide ([e].length + 0 + 0 < 30)) = true := by rfl)
    (hline : (apos.endLine == cpos.line) = true := by rfl) (hst : starEach [e] X.env = (false, eval e X.env) :: starEach [] X.env := by rfl) :
    SE X W (.Call (.Attribute o "append" apos) [e] [] cpos) (sMu opApp fa f) := mU PySem.F.slot_list_append PySem.F.type_list_append mt_append (fun s hx hxs h => opApp_ok s hx hxs h) ho ha hbase few hline hst rfl
theorem mExt {o e : Expr} {fa : Env → R XV} {f : Env → R (List XV)} {apos cpos : Pos} (ho : SE X W o fa) (ha : SA X W [e] f)
    (hbase : attributeBase o "extend" X.env (eval o X.env) = eval o X.env := by rfl)
    (few : ((backTo cpos (starEach [e] X.env)).all (fun x => !x.1) && (backToKw cpos (keywordEach [] X.env)).all (fun x => x.1.isSome) && decide ([e].length + 0 + 0 < 30)) = true := by rfl)
    (hline : (apos.endLine == cpos.line) = true := by rfl) (hst : starEach [e] X.env = (false, eval e X.env) :: starEach [] X.env := by rfl) :
    SE X W (.Call (.Attribute o "extend" apos) [e] [] cpos) (sMu opExt fa f) := mU PySem.F.slot_list_extend PySem.F.type_list_extend mt_extend (fun s hx hxs h => opExt_ok s hx hxs h) ho ha hbase few hline hst rfl
theorem gInt {x : Str} {i : Int} {pos : Pos} (hm : ∃ t, X.mg x = some (.int i t)) (hg : Gl X x := by rfl) (hd : (x == ("__debug__" : Str)) = false := by decide) : SE X W (.Name x pos) (sC (.int i)) := by
  obtain ⟨t, h⟩ := hm
  exact se_cst (pe_glob hg h (v := .int i) ⟨t, rfl⟩ hd) fun _ _ => .int i
theorem gStr {x z : Str} {pos : Pos} (hm : ∃ t, X.mg x = some (.str z t)) (hg : Gl X x := by rfl) (hd : (x == ("__debug__" : Str)) = false := by decide) : SE X W (.Name x pos) (sC (.str z)) := by
  obtain ⟨t, h⟩ := hm
  exact se_cst (pe_glob hg h (v := .str z) ⟨t, rfl⟩ hd) fun _ _ => .str z
theorem rep_strs {K : PySem.W.Frag} {H : Hp} {av : Addr → Prop} : ∀ zs : List Str, RepAll K H av (zs.map V.str) (zs.map D.str)
  | [] => .nil
  | z :: zs => .cons (.str z) (rep_strs zs)
theorem gTup {x : Str} {zs : List Str} {pos : Pos} (hm : ∃ a, X.mg x = some (.ref a) ∧ KTup X.K a (zs.map V.str)) (hg : Gl X x := by rfl) (hd : (x == ("__debug__" : Str)) = false := by decide) : SE X W (.Name x pos) (sC (.tup (zs.map D.str))) := by
  obtain ⟨a, h, ht⟩ := hm
  exact se_cst (pe_glob hg h (v := .ref a) rfl hd) fun _ _ => .ktup ht (rep_strs zs)
end
def opNeg : D → Option T := fun d => match d with | .int i => pI (-i) | _ => none
end Lz
namespace Lz
open PySem PySem.Spec PyProof.Rows L2
theorem tuple_mul1 (l : Addr) (items : Array Value) (n : Nat) (dd : Option Addr) (sl : Array (Option Value)) (u : Tok) :
    Meets (Builtin.«tuple.__mul__» ⟨[.ref l, .int 1 u], []⟩) (fun _ R s => s.heap.get? l = some { cls := .type "tuple", dict := dd, data := .seq items n, slots := sl } ∧
      R (.ok (.ret (Value.ref l))) s) :=
  .of_wp fun prog w A R s h => by
    obtain ⟨hp, g, d, tk, os⟩ := s
    obtain ⟨hl, h⟩ := h
    have f1 := AutoSeq1.idx_int
    wp_walk using wpAny_loadPart' hl
    exact ⟨_, rfl, h⟩
section
variable {X : Cx}
theorem op_rep1 : OpR X (binaryOp .Mult) (fun x y H Q => ∃ l xs, x = .ref l ∧ y = .int 1 ∧ SqT X.K H l xs ∧ Q (.ref l) H) := by
  intro pins s σ H x y v u Q I rx ry h
  obtain ⟨l, xs, rfl, rfl, hT, q⟩ := h
  cases rx
  obtain ⟨t, rfl⟩ := ry
  obtain ⟨its, r, ⟨⟨cls, dd, data, sl⟩, ho, hc, n, hd⟩, hs⟩ := I.tuple hT
  simp only at hc hd
  subst hc hd
  exact wpAny_binaryOp_repeat_ref (T := "tuple") (U := "int") (by decide) ⟨_, ho, rfl⟩ (fun s' => typeIs_int s' 1 t) noFill_tuple_mul F.fills_int_mul F.slot_int_rmul repeat_tuple F.slot_int_index.lookup
    (call_meets F.slot_int_rmul (typeIs_int s 1 t) F.entry_int_rmul (F.args_int_rmul_2 _ _) (int_rmul_tuple 1 t l its.toArray n dd sl)
      ⟨ho, rfl, ⟨_, ho, rfl⟩, call_meets F.slot_tuple_mul ⟨_, ho, rfl⟩ F.entry_tuple_mul (F.args_tuple_mul_2 _ _) (tuple_mul1 l its.toArray n dd sl t) ⟨ho, ⟨.ref l, H, I, rfl, q⟩⟩⟩)
theorem op_repF : OpR X (binaryOp .Mult) (fun x y H Q => ∃ l k xs, x = .ref l ∧ y = .int k ∧ SqT X.K H l xs ∧ xs ≠ [] ∧ 2 ≤ k ∧ k ≤ 1000 ∧ xs.length ≤ 1000 ∧ rNewT (List.replicate k.toNat xs).flatten H Q) := by
  intro pins s σ H x y v u Q I rx ry h
  obtain ⟨l, k, xs, rfl, rfl, hT, hne, h1, h2, hz, q⟩ := h
  cases rx
  obtain ⟨t, rfl⟩ := ry
  obtain ⟨its, r, ⟨⟨cls, dd, data, sl⟩, ho, hc, n, hd⟩, hs⟩ := I.tuple hT
  simp only at hc hd
  subst hc hd
  have hle : its.length = xs.length := r.length.symm
  have hn : its ≠ [] := fun e => hne (by
    rw [e] at hle
    exact List.eq_nil_of_length_eq_zero hle.symm)
  have hi : its.toArray.isEmpty = false := by
    cases its with
    | nil => exact absurd rfl hn
    | cons a b => rfl
  have hsz0 : its.toArray.size = xs.length := by rw [List.size_toArray, hle]
  have hm : ((its.toArray.size : Nat) : Int) * k ≤ 1000000 := by
    rw [hsz0]
    have a1 : ((xs.length : Nat) : Int) * k ≤ 1000 * k := Int.mul_le_mul_of_nonneg_right (by omega) (by omega)
    omega
  have flen : (List.replicate k.toNat its).flatten.length ≤ sizeLine := by
    rw [PyProof.Rows.lm_len_rep_flat, hle, sizeLine_eq]
    have a1 : k.toNat * xs.length ≤ 1000 * 1000 := Nat.mul_le_mul (by omega) hz
    omega
  have c0 : (decide (k < -(2 ^ 63)) || decide (k ≥ 2 ^ 63)) = false := by
    rw [decide_eq_false (by omega), decide_eq_false (by omega)] <;> rfl
  have c1 : (its.toArray.isEmpty || k == 1) = false := by
    rw [hi, Bool.false_or]
    exact beq_eq_false_iff_ne.mpr (by omega)
  have c2 : (decide (k ≤ 0) || its.toArray.isEmpty) = false := by
    rw [hi, Bool.or_false]
    exact decide_eq_false (by omega)
  have c4 : Builtin.Tuple.tupleTooMany (((its.toArray.size : Nat) : Int) * k) = false := by
    unfold Builtin.Tuple.tupleTooMany
    rw [sizeLine_eq]
    exact decide_eq_false (by omega)
  refine wpAny_binaryOp_repeat_ref (T := "tuple") (U := "int") (by decide) ⟨_, ho, rfl⟩ (fun s' => typeIs_int s' k t) noFill_tuple_mul F.fills_int_mul F.slot_int_rmul repeat_tuple F.slot_int_index.lookup
    (call_meets F.slot_int_rmul (typeIs_int s k t) F.entry_int_rmul (F.args_int_rmul_2 _ _) (int_rmul_tuple k t l its.toArray n dd sl)
      ⟨ho, rfl, ⟨_, ho, rfl⟩, call_meets F.slot_tuple_mul ⟨_, ho, rfl⟩ F.entry_tuple_mul (F.args_tuple_mul_2 _ _) (tuple_mulW l its.toArray n dd sl k t c0 c1 c2 (by omega) c4 (by rw [size_rep, List.size_toArray]; exact flen)) ⟨ho, ?_⟩⟩)
  rw [size_rep]
  exact q.use (t' := s.toks) I (r.rep k.toNat) (by rw [PyProof.Rows.lm_len_rep_flat, sizeLine_eq]; have a1 : k.toNat * xs.length ≤ 1000 * 1000 := Nat.mul_le_mul (by omega) hz; omega)
theorem or_mul : OpR X (binaryOp .Mult) (rOp X.K opMul) := by
  intro pins s σ H x y v u Q I rx ry ⟨L, d, e, o, o', t, sep, m1, m2, ht, q⟩
  cases d <;> cases e <;> first | (cases ht; done) | skip
  · rename_i i j
    have h' : cif ((-(2 ^ 64) < i ∧ i < 2 ^ 64) ∨ (-(2 ^ 64) < j ∧ j < 2 ^ 64)) (pI (i * j)) none = some t := ht
    by_cases hc : (-(2 ^ 64) < i ∧ i < 2 ^ 64) ∨ (-(2 ^ 64) < j ∧ j < 2 ^ 64)
    · rw [cif_pos hc] at h'
      cases h'
      exact op_mul pins s σ H x y v u Q I rx ry ⟨_, _, sep.int m1, sep.int m2, hc, q _ _ (sep.cInt _)⟩
    · rw [cif_neg hc] at h'; cases h'
  · rename_i a k
    have h' : (if a ≠ [] ∧ 2 ≤ k ∧ k ≤ 1000 ∧ a.length ≤ 1000 then some (false, .tup (List.replicate k.toNat a).flatten) else if k = 1 then some (false, .tup a) else none) = some t := ht
    obtain ⟨ws, w⟩ := sep
    obtain ⟨p, xs, rfl, hq, r, td⟩ := w.tup m1
    by_cases hc : a ≠ [] ∧ 2 ≤ k ∧ k ≤ 1000 ∧ a.length ≤ 1000
    · rw [if_pos hc] at h'
      cases h'
      refine op_repF pins s σ H _ y v u Q I rx ry ⟨p, k, xs, rfl, w.int m2, hq, fun e => hc.1 ?_, hc.2.1, hc.2.2.1, by rw [r.length]; exact hc.2.2.2, rNewT.of w (r.rep _) q⟩
      have := r.length
      rw [e] at this
      exact List.eq_nil_of_length_eq_zero this.symm
    · rw [if_neg hc] at h'
      by_cases h1 : k = 1
      · rw [if_pos h1] at h'
        cases h'
        subst h1
        refine op_rep1 pins s σ H _ y v u Q I rx ry ⟨p, xs, rfl, w.int m2, hq, q _ _ ?_⟩
        obtain ⟨w1, o1, hw1⟩ := w.own.get m1
        cases o1 with
        | pure rr => exact ⟨ws, w.pure rr⟩
      · rw [if_neg h1] at h'; cases h'
  · rename_i a k
    have h' : (if -(2 ^ 63) ≤ k ∧ k < 2 ^ 63 ∧ a.length * k.toNat ≤ lim then some (true, .lst (List.replicate k.toNat a).flatten) else none) = some t := ht
    obtain ⟨ws, w⟩ := sep
    obtain ⟨p, xs, rfl, hq, r⟩ := w.lst m1
    by_cases hc : -(2 ^ 63) ≤ k ∧ k < 2 ^ 63 ∧ a.length * k.toNat ≤ lim
    · rw [if_pos hc] at h'
      cases h'
      exact op_rep pins s σ H _ y v u Q I rx ry ⟨p, k, xs, rfl, w.int m2, hq, hc.1, hc.2.1, by rw [r.length]; exact hc.2.2, newLst_of w (r.rep _) q⟩
    · rw [if_neg hc] at h'; cases h'
end
end Lz
namespace Lz
open PySem PySem.Spec PyProof.Rows L2
theorem hu64 {u c : Nat} (h : u + 65 < c) : u + 64 < c := by omega
section
variable {X : Cx} {W : WX} {pin : List Nat}
def cT (ρ : Env) : R Bool := .ok true ρ
theorem stLc {elt tg iter : Expr} {ifs : List Expr} {scope : Scope} {own : List (Str × Nat)} {pos : Pos} {si : Env → R Its} {g : D → Env → Option Env} {c : Env → R Bool} {f : Env → R XV} {i : Nat} {y : Str} {py spos : Pos} (hN : X.N.Nodup) (hm : i ∉ pin)
    (hsw : swapsWith (.ListComp elt [⟨tg, iter, ifs, 0⟩] scope pos) (some (.Name y py)) spos.line X.env = pure true) (hi : SI X W tg iter si) (ok : BlkOk X.N X.env.scope scope own)
    (hg : ∀ (s : Shared) (H : Hp) (C : Addr) (cl : List (Str × Addr)) (fp : List Addr), SG (X.blk s H scope (compEnvC scope cl C X.env) fp) (notOwn X.N.length (own.map (·.2))) tg g)
    (ht : ∀ (s : Shared) (H : Hp) (C : Addr) (cl : List (Str × Addr)) (fp : List Addr), SC (X.blk s H scope (compEnvC scope cl C X.env) fp) ifs c)
    (he : ∀ (s : Shared) (H : Hp) (C : Addr) (cl : List (Str × Addr)) (fp : List Addr), SE (X.blk s H scope (compEnvC scope cl C X.env) fp) W0 elt f) (hs : ∀ x, foldedSetIterable iter X.env x = pure x)
    (hy : X.N[i]? = some y := by rfl) (hyl : X.env.scope.names.lookup y = some .local := by rfl) (hc : X.calm = true := by rfl) :
    SS X W pin (.Assign [.Name y py] (.ListComp elt [⟨tg, iter, ifs, 0⟩] scope pos) spos) (xSt i (sComp (own.map (·.2)) si g c f)) := by
  rw [xSt_eq hm]
  exact ss_setLc hc hN hy hyl hsw hi ok hg ht he hs
theorem rg1 {tg a : Expr} {f : Env → R XV} {p pos : Pos} (hm : X.mg "range" = none) (ha : SA X W [a] (sCons f sNil)) (hg : Gl X "range" := by rfl) (hst : starEach [a] X.env = [(false, eval a X.env)] := by rfl) :
    SI X W tg (.Call (.Name "range" p) [a] [] pos) (sRng (sCons f sNil)) := si_rng1 hg hm ha hst fun ρ xs ρ' h => by
  unfold sCons sNil at h
  cases e : f ρ with
  | ok x ρ1 => rw [e] at h; injection h with h1; rw [← h1]; rfl
  | exc c ρ1 => rw [e] at h; cases h
  | bad => rw [e] at h; cases h
end
def ktupB (K : PySem.W.Frag) (x : Str) (zs : List Str) : Bool := match K.lookup (He.ga K x) with
  | some ⟨.type c, none, .seq its _, _⟩ => decide (c = "tuple") && (decide (its.size ≤ sizeLine) && He.relAll (zs.map V.str) its.toList)
  | _ => false
theorem ktupB_ok {K : PySem.W.Frag} {x : Str} {zs : List Str} (h : ktupB K x zs = true) : KTup K (He.ga K x) (zs.map V.str) := by
  unfold ktupB at h
  split at h
  · rename_i c its n sl q
    obtain ⟨h1, h⟩ := He.ba h
    obtain ⟨h2, h3⟩ := He.ba h
    exact ⟨_, its, n, q, by rw [of_decide_eq_true h1], rfl, rfl, of_decide_eq_true h2, He.relAll_ok h3⟩
  · cases h
def exB (ts : List (Str × List Str)) (K : PySem.W.Frag) : Bool := ts.all fun p => ktupB K p.1 p.2
theorem ex_at {ts : List (Str × List Str)} {K : PySem.W.Frag} (h : exB ts K = true) {i : Nat} {p : Str × List Str} (e : ts[i]? = some p) : ktupB K p.1 p.2 = true :=
  List.all_eq_true.mp h p (List.mem_of_getElem? e)
end Lz
namespace Lz
open PySem PySem.Spec PyProof.Rows L2
theorem law_end {K : PySem.W.Frag} {H : Hp} {a : Addr} {ns : List Int} {F : List T → FR} (hO : Only H) (hS : SqL K H a (ns.map V.int)) (hl : ns.length ≤ sizeLine) (h : ∃ outs, F [(false, .scr ns)] = .ok (false, .bl true) outs) :
    spF K F [.ref a] H (fun v _ => v = .bl true) (fun _ _ _ => False) := by
  obtain ⟨outs, h⟩ := h
  refine ⟨[(false, .scr ns)], [], rfl, ?_, ?_⟩
  · have r : ∀ av : Addr → Prop, (∀ b, ¬ av b) → Rep K H av (.ref a) (.scr ns) := fun av hav => by
      rcases hS with (hS | ⟨o, hS⟩) | hS
      · rcases hO a with q | ⟨o, xs, q⟩ <;> rw [q] at hS <;> cases hS
      · exact .scr (hav a) hS
      · exact .kscr hS
    exact ⟨[], ⟨.cons (w := []) (.pure (r _ fun b hb => by cases hb)) .nil, List.nodup_nil⟩⟩
  · rw [h]
    intro v H' s
    exact s.bl List.mem_cons_self
end Lz
namespace Lz
open PySem PySem.Spec PyProof.Rows L2
def noE : FR → FR
  | .exc _ => .bad
  | r => r
theorem fn_ok0 {P : Program} {w : World} {K : PySem.W.Frag} {mg : Str → Option Value} {base : Heap} {x qual : Str} {params : Arguments} {body : List Stmt} {scope : Scope} {f : Addr} {fd : FuncData}
    {N ps : List Str} {k : Nat} {pin : List Nat} {g : Env → R Fl} (F : FunD K x qual params body scope [] [] f fd) (S : FnScope N ps scope) (hp : ps.length ≤ N.length) (hpin : ∀ j ∈ pin, j < ps.length)
    (hbody : ∀ (cdv : Value) (A : Around) (outer : List PySem.Env) (s : Shared) (H : Hp) (E : XK), Room k (A.deeper (envOfC qual scope s.heap.objs.size f cdv)) →
      SSs (cxOf CX0 P w K mg base N qual scope f cdv A outer s H E) W0 pin body g) :
    FnOk P w K mg base CX0 (k + 1) f fd ps (spF K fun ts => noE (bodyF ps.length pin N.length g ts)) := by
  have len : ∀ vs H Q E, spF K (fun ts => noE (bodyF ps.length pin N.length g ts)) vs H Q E → vs.length = ps.length := fun vs H Q E ⟨ts, hs, hl, _, h⟩ => by
    by_cases q : ts.length = ps.length
    · rw [← hl]; exact q
    · simp only [bodyF, if_neg q, noE] at h
  refine F.ok S len fun cdv A outer s H vs Q E hr hsp => ⟨_, hbody cdv A outer s H E hr, ?_⟩
  have hvl := len _ _ _ _ hsp
  obtain ⟨ts, hs, hl, sep, h⟩ := hsp
  have htl : ts.length = ps.length := hl.trans hvl
  simp only [bodyF, if_pos htl] at h
  have st : Stt K hs (L2.start N vs) H (ts.map some ++ List.replicate (N.length - ps.length) none) := by
    unfold L2.start
    rw [hvl]
    refine ⟨sok_app vs ts _ hl, ?_⟩
    rw [slots_app vs ts _ _ hl]
    exact sep
  refine ⟨_, hs, L2.start N vs, st, fun _ _ => rfl, ?_⟩
  have outs : ∀ {σ : Sg} {H' : Hp} {ρ : Env} {B : List VT}, Stt K (B ++ hs) σ H' ρ → PinOk pin (L2.start N vs) σ → Sep K H' (B ++ (slotsL (vs.map some) (keepP pin ps.length 0 ρ) ++ hs)) := fun {σ H' ρ B} s1 hp1 => by
    have sb := keepP_sub (pin := pin) (vs := vs) (σ := σ) (ρ := ρ) (j := 0) fun i v hv hi => by
      rw [Nat.zero_add] at hi
      rw [hp1 i hi]
      unfold L2.start
      rw [List.getElem?_append_left (by rw [List.length_map]; exact (List.getElem?_eq_some_iff.mp hv).1), List.getElem?_map, hv]
      rfl
    rw [hvl] at sb
    have p1 : (slotsL σ ρ ++ (B ++ hs)).Perm ((B ++ hs) ++ slotsL σ ρ) := List.perm_append_comm
    have q := Sep.sub sb (A := B ++ hs) (s1.sep.perm p1)
    refine q.perm ?_
    rw [List.append_assoc]
    exact List.perm_append_comm.append_left _
  unfold finS
  cases e : g (ts.map some ++ List.replicate (N.length - ps.length) none) with
  | bad => rw [e] at h; exact h.elim
  | exc c ρ => rw [e] at h; exact h.elim
  | ok a ρ =>
    rw [e] at h
    cases a with
    | bk => exact h.elim
    | ct => exact h.elim
    | ra i =>
      intro v σ H' hi s1 hp1
      dsimp only at h
      cases hc : pin.contains i with
      | false => rw [hc, if_neg Bool.false_ne_true] at h; exact h.elim
      | true =>
        rw [hc, if_pos rfl] at h
        have hm : i ∈ pin := by simpa using hc
        have hlt : i < vs.length := by rw [hvl]; exact hpin i hm
        refine h v H' ?_ (outs (B := []) s1 hp1)
        have e1 := hp1 i hm
        rw [hi] at e1
        unfold L2.start at e1
        rw [List.getElem?_append_left (by rw [List.length_map]; exact hlt), List.getElem?_map] at e1
        cases hq : vs[i]? with
        | none => rw [hq] at e1; cases e1
        | some w =>
          rw [hq] at e1
          have e2 : some v = some w := Option.some.inj e1
          exact e2.symm
    | nx =>
      intro σ H' s1 hp1
      refine h _ H' ?_
      obtain ⟨ws, q⟩ := outs (B := []) s1 hp1
      exact ⟨ws, q.pure .non⟩
    | rt t =>
      intro v σ H' s1 hp1
      exact h v H' (outs (B := [(v, t)]) s1 hp1)
theorem law_end0 {K : PySem.W.Frag} {H : Hp} {a : Addr} {ns : List Int} {F : List T → FR} (hO : Only H) (hS : SqL K H a (ns.map V.int)) (hl : ns.length ≤ sizeLine) (h : ∃ outs, F [(false, .scr ns)] = .ok (false, .bl true) outs) :
    spF K (fun ts => noE (F ts)) [.ref a] H (fun v _ => v = .bl true) (fun _ _ _ => False) := by
  obtain ⟨outs, h⟩ := h
  exact law_end hO hS hl ⟨outs, by show noE (F _) = _; rw [h]; rfl⟩
end Lz
namespace Lz
open PySem PySem.Spec PyProof.Rows L2
def strsD : List D → Option (List Str)
  | [] => some []
  | .str b :: r => (strsD r).map (b :: ·)
  | _ :: _ => none
theorem strsD_rep {K : PySem.W.Frag} {H : Hp} {av : Addr → Prop} : ∀ {vs : List V} {ds : List D} {bs : List Str}, RepAll K H av vs ds → strsD ds = some bs → vs = bs.map V.str
  | [], [], _, _, h => by cases h; rfl
  | _ :: _, d :: ds, bs, .cons r t, h => by
    cases d <;> first | (cases h; done) | skip
    rename_i b
    have h' : (strsD ds).map (b :: ·) = some bs := h
    cases e : strsD ds with
    | none => rw [e] at h'; cases h'
    | some bs' =>
      rw [e] at h'
      cases h'
      cases r
      rw [strsD_rep t e]
      rfl
def fstAt (z : Str) : List Str → Nat → Option Nat
  | [], _ => none
  | y :: ys, n => if y = z then some n else fstAt z ys (n + 1)
def mfCount (d : D) (ds : List D) : Option T := match d, ds with
  | .tup xs, [.str z] => (strsD xs).map fun ys => (false, .int ((ys.countP fun y => y == z : Nat) : Int))
  | _, _ => none
def mfIndex (d : D) (ds : List D) : Option T := match d, ds with
  | .tup xs, [.str z] => (strsD xs).bind fun ys => (fstAt z ys 0).map fun j => (false, .int (j : Nat))
  | _, _ => none
section
variable {X : Cx}
theorem mt_tup_count : MtR X "tuple.count" (fun x xs H Q => ∃ p, ∃ ys : List Str, ∃ z, x = .ref p ∧ xs = [.str z] ∧ SqT X.K H p (ys.map V.str) ∧ Q (.int ((ys.countP fun y => y == z : Nat) : Int)) H) := by
  intro pins s σ H x xs v us Q I rx rs h
  obtain ⟨p, ys, z, rfl, rfl, hq, q⟩ := h
  cases rx
  obtain ⟨u, rfl, t, rfl⟩ := vals1 rs
  obtain ⟨its, r, pl, hz⟩ := I.tuple hq
  obtain ⟨⟨cls, dd, dt, sl⟩, ho, hc, n, hd⟩ := pl
  simp only at hc hd
  subst hc
  subst hd
  have hcnt : ∀ {ys : List Str} {its : List Value}, Vals (ys.map V.str) its → its.countP (eqU (.str z)) = ys.countP fun y => y == z := by
    intro ys
    induction ys with
    | nil => intro its r; cases r; rfl
    | cons y ys ih =>
      intro its r
      cases r with
      | cons r t =>
        rw [List.countP_cons, List.countP_cons, ih t, eqU_of r rfl]
        rfl
  refine call_meets PySem.F.slot_tuple_count ⟨_, ho, rfl⟩ PySem.F.entry_tuple_count (PySem.F.args_tuple_count_2 _ _) (SeqAt.tuple_countAt p its.toArray n dd sl (.str z t) (eqU (.str z)))
    ⟨ho, fun w hw => mem_eqAt (x := .str z) ⟨t, rfl⟩ rfl r (flat_strs ys) w (by simpa using hw), ?_⟩
  refine ⟨.int ((ys.countP fun y => y == z : Nat) : Int), H, I.tok _, ⟨s.toks, ?_⟩, q⟩
  show Value.int ((its.countP (eqU (.str z)) : Nat) : Int) s.toks = _
  rw [hcnt r]
theorem mr_count : MtR X "tuple.count" (rMt X.K mfCount) := by
  intro pins s σ H x xs v us Q I rx rs ⟨L, d, o, ds, t, sep, m, ms, ht, q⟩
  unfold mfCount at ht
  split at ht
  · rename_i zs z
    cases ms with
    | cons h1 t1 =>
      cases t1
      obtain ⟨o1, m1⟩ := h1
      obtain ⟨ws, w⟩ := sep
      obtain ⟨p, vs, rfl, hq, r, _⟩ := w.tup m
      cases e : strsD zs with
      | none => rw [e] at ht; cases ht
      | some ys =>
        rw [e] at ht
        cases ht
        have ev := strsD_rep r e
        subst ev
        have ez := w.str m1
        subst ez
        exact mt_tup_count pins s σ H _ _ v us Q I rx rs ⟨p, ys, z, rfl, rfl, hq, q _ _ (Sep.cInt ⟨ws, w⟩ _)⟩
  · cases ht
/-- list.index: the first place of an equal one -/
def fstEq (d : PyData) : List PyData → Nat → Option Nat
  | [], _ => none
  | y :: ys, n => if PyData.eqv y d = true then some n else fstEq d ys (n + 1)
def mfLIndex (d : D) (ds : List D) : Option T := match d, ds with
  | .lst xs, [z] => if okD (.lst xs) = true ∧ okD z = true then (fstEq z.toPy (D.toPys xs) 0).map fun j => (false, .int (j : Nat)) else none
  | _, _ => none
end
section
variable {X : Cx} {W : WX} {o e : Expr} {fa : Env → R XV} {f : Env → R (List XV)} {apos cpos : Pos}
theorem tCount (ho : SE X W o fa) (ha : SA X W [e] f)
    (hbase : attributeBase o "count" X.env (eval o X.env) = eval o X.env := by rfl)
    (few : ((backTo cpos (starEach [e] X.env)).all (fun x => !x.1) && (backToKw cpos (keywordEach [] X.env)).all (fun x => x.1.isSome) && decide ([e].length + 0 + 0 < 30)) = true := by rfl)
    (hline : (apos.endLine == cpos.line) = true := by rfl) (hst : starEach [e] X.env = (false, eval e X.env) :: starEach [] X.env := by rfl) :
    SE X W (.Call (.Attribute o "count" apos) [e] [] cpos) (sMt "tuple" mfCount fa f) := mB PySem.F.plainAttrs_tuple PySem.F.slot_tuple_count PySem.F.type_tuple_count mr_count ho ha hbase few hline hst rfl
end
end Lz
namespace Lz
open PySem PySem.Spec PyProof.Rows L2
/-- whether the one class stands under the other -/
def excSub (x c : Str) : Bool := x == c || (c == "LossError" || c == "ValueError")
/-- the value of a class's name -/
def clV (K : PySem.W.Frag) (c : Str) : Value := if c == "ValueError" then .type "ValueError" else .ref (He.ga K c)
structure ExF (K : PySem.W.Frag) (xs cs : List Str) : Prop where
  c : ∀ x ∈ xs, ExcC K (He.ga K x)
  k : ∀ x ∈ xs, ∀ c ∈ cs, PySem.W.kitOne K (.ref (He.ga K x)) (clV K c) = some (excSub x c)
  m : ∀ x ∈ xs, ∀ c ∈ cs, (c == "ValueError") = false → PySem.W.exmOne K (.ref (He.ga K x)) (.ref (He.ga K c)) = some (excSub x c)
def xTry (xs : List Str) (c : Str) (f : Env → R Fl) (h : Str → Env → R Fl) (ρ : Env) : R Fl := match f ρ with
  | .exc x ρ' => if x ∈ xs then (if excSub x c = true then (match h x ρ' with
    | .exc _ _ => .bad
    | r => r) else .exc x ρ') else .bad
  | r => r
section
variable {X : Cx} {W : WX} {x : Str} {xs cs : List Str} {body suite : List Stmt} {b₀ : Stmt} {np pos pos' : Pos} {pin : List Nat} {f : Env → R Fl}
/-- in the suite: an expression that asks of which class the exception is -/
def KE (X : Cx) (xs : List Str) (i : Nat) (a : Addr) (cls : Value) (d : Option Addr) (e : Expr) (B : Str → Bool) : Prop := ∀ x ∈ xs, cls = .ref (He.ga X.K x) → d = none → PE X e (fun σ H Q => σ[i]? = some (some (.ref a)) ∧ Q (.bl (B x)) H)
section
variable {i : Nat} {a : Addr} {oe : Obj} {cls : Value} {d : Option Addr} {pn : List (Addr × Obj)} {e e1 e2 : Expr} {rest : List Expr} {B1 B2 : Str → Bool} {p : Pos}
end
section
variable {i : Nat} {a : Addr} {oe : Obj} {cls : Value} {d : Option Addr} {pn : List (Addr × Obj)} {e : Expr} {B : Str → Bool} {p p2 p3 : Pos} {k : Nat}
end
end
section
variable {xs : List Str} {c x : Str} {f : Env → R Fl} {h : Str → Env → R Fl} {ρ : Env} {i : Nat}
def tryE (h : Str → Env → R Fl) (x : Str) (ρ : Env) : R Fl := match h x ρ with
  | .exc _ _ => .bad
  | r => r
def tryK (xs : List Str) (c : Str) (h : Str → Env → R Fl) : R Fl → R Fl
  | .exc x ρ' => if x ∈ xs then (if excSub x c = true then tryE h x ρ' else .exc x ρ') else .bad
  | r => r
@[simp] theorem tryK_ok {a : Fl} : tryK xs c h (.ok a ρ) = .ok a ρ := rfl
@[simp] theorem tryK_exc : tryK xs c h (.exc x ρ) = if x ∈ xs then (if excSub x c = true then tryE h x ρ else .exc x ρ) else .bad := rfl
@[simp] theorem xTry_ev : xTry xs c f h ρ = tryK xs c h (f ρ) := by
  unfold xTry tryK
  cases f ρ <;> rfl
end
end Lz
namespace Lz
open PySem PySem.Spec PyProof.Rows L2
abbrev LW : PySem.W.OpenLaw := PySem.Challenge.rw_leastloss_k20_whole_lesser
def topS (i : Nat) : Stmt := PySem.Challenge.pw_leastloss_k20_whole_lesser.main.body.getD i (.Pass ⟨0, 0, 0, 0⟩)
abbrev s_is_whole : Stmt := topS 11
abbrev s_between : Stmt := topS 12
abbrev s_is_name : Stmt := topS 13
abbrev s_is_saying : Stmt := topS 14
abbrev s_parts_of : Stmt := topS 15
abbrev s_gathered : Stmt := topS 16
abbrev s_are_names : Stmt := topS 20
abbrev s_stands_free : Stmt := topS 21
abbrev s_are_sayings : Stmt := topS 22
abbrev s_is_wish : Stmt := topS 23
abbrev s_sayings_of : Stmt := topS 24
abbrev s_pieces_of : Stmt := topS 25
abbrev s_is_book : Stmt := topS 26
abbrev s_checked : Stmt := topS 27
abbrev s_is_setting : Stmt := topS 29
abbrev s_settings_of : Stmt := topS 31
abbrev s_is_stand : Stmt := topS 34
abbrev s_is_machine : Stmt := topS 35
abbrev s_need_machine : Stmt := topS 36
abbrev s_checked_machine : Stmt := topS 37
abbrev s_numbered : Stmt := topS 38
abbrev s_lesser_of : Stmt := topS 39
abbrev s_lesser : Stmt := topS 40
abbrev s_l_cell_at : Stmt := topS 42
abbrev s_l_mixed : Stmt := topS 43
abbrev s_l_next : Stmt := topS 44
abbrev s_l_names : Stmt := topS 45
abbrev s_l_saying : Stmt := topS 46
abbrev s_l_promise : Stmt := topS 47
abbrev s_l_book : Stmt := topS 48
abbrev s_l_settings : Stmt := topS 49
abbrev s_l_machine : Stmt := topS 50
abbrev s_l_whole : Stmt := topS 51
abbrev s_l_is_machine : Stmt := topS 52
abbrev s_l_are_apart : Stmt := topS 53
abbrev s_l_is_least : Stmt := topS 54
abbrev s_l_same : Stmt := topS 55
abbrev s_law : Stmt := topS 56
def dd_is_whole : He.DefD := ⟨("is_whole", none), "is_whole", "is_whole", defArgs s_is_whole, defBody s_is_whole, defScope s_is_whole, [], []⟩
def dd_between : He.DefD := ⟨("between", none), "between", "between", defArgs s_between, defBody s_between, defScope s_between, [], []⟩
def dd_is_name : He.DefD := ⟨("is_name", none), "is_name", "is_name", defArgs s_is_name, defBody s_is_name, defScope s_is_name, [], []⟩
def dd_is_saying : He.DefD := ⟨("is_saying", none), "is_saying", "is_saying", defArgs s_is_saying, defBody s_is_saying, defScope s_is_saying, [], []⟩
def dd_parts_of : He.DefD := ⟨("parts_of", none), "parts_of", "parts_of", defArgs s_parts_of, defBody s_parts_of, defScope s_parts_of, [], []⟩
def dd_gathered : He.DefD := ⟨("gathered", none), "gathered", "gathered", defArgs s_gathered, defBody s_gathered, defScope s_gathered, [], []⟩
def dd_are_names : He.DefD := ⟨("are_names", none), "are_names", "are_names", defArgs s_are_names, defBody s_are_names, defScope s_are_names, [], []⟩
def dd_stands_free : He.DefD := ⟨("stands_free", none), "stands_free", "stands_free", defArgs s_stands_free, defBody s_stands_free, defScope s_stands_free, [], []⟩
def dd_are_sayings : He.DefD := ⟨("are_sayings", none), "are_sayings", "are_sayings", defArgs s_are_sayings, defBody s_are_sayings, defScope s_are_sayings, [], []⟩
def dd_is_wish : He.DefD := ⟨("is_wish", none), "is_wish", "is_wish", defArgs s_is_wish, defBody s_is_wish, defScope s_is_wish, [], []⟩
def dd_sayings_of : He.DefD := ⟨("sayings_of", none), "sayings_of", "sayings_of", defArgs s_sayings_of, defBody s_sayings_of, defScope s_sayings_of, [], []⟩
def dd_pieces_of : He.DefD := ⟨("pieces_of", none), "pieces_of", "pieces_of", defArgs s_pieces_of, defBody s_pieces_of, defScope s_pieces_of, [], []⟩
def dd_is_book : He.DefD := ⟨("is_book", none), "is_book", "is_book", defArgs s_is_book, defBody s_is_book, defScope s_is_book, [], []⟩
def dd_checked : He.DefD := ⟨("checked", none), "checked", "checked", defArgs s_checked, defBody s_checked, defScope s_checked, [], []⟩
def dd_is_setting : He.DefD := ⟨("is_setting", none), "is_setting", "is_setting", defArgs s_is_setting, defBody s_is_setting, defScope s_is_setting, [], []⟩
def dd_settings_of : He.DefD := ⟨("settings_of", none), "settings_of", "settings_of", defArgs s_settings_of, defBody s_settings_of, defScope s_settings_of, [], []⟩
def dd_is_stand : He.DefD := ⟨("is_stand", none), "is_stand", "is_stand", defArgs s_is_stand, defBody s_is_stand, defScope s_is_stand, [], []⟩
def dd_is_machine : He.DefD := ⟨("is_machine", none), "is_machine", "is_machine", defArgs s_is_machine, defBody s_is_machine, defScope s_is_machine, [], []⟩
def dd_need_machine : He.DefD := ⟨("need_machine", none), "need_machine", "need_machine", defArgs s_need_machine, defBody s_need_machine, defScope s_need_machine, [], []⟩
def dd_checked_machine : He.DefD := ⟨("checked_machine", none), "checked_machine", "checked_machine", defArgs s_checked_machine, defBody s_checked_machine, defScope s_checked_machine, [], []⟩
def dd_numbered : He.DefD := ⟨("numbered", none), "numbered", "numbered", defArgs s_numbered, defBody s_numbered, defScope s_numbered, [], []⟩
def dd_lesser_of : He.DefD := ⟨("lesser_of", none), "lesser_of", "lesser_of", defArgs s_lesser_of, defBody s_lesser_of, defScope s_lesser_of, [], []⟩
def dd_lesser : He.DefD := ⟨("lesser", none), "lesser", "lesser", defArgs s_lesser, defBody s_lesser, defScope s_lesser, [], []⟩
def dd_l_cell_at : He.DefD := ⟨("_law_cell_at", none), "_law_cell_at", "_law_cell_at", defArgs s_l_cell_at, defBody s_l_cell_at, defScope s_l_cell_at, [], []⟩
def dd_l_mixed : He.DefD := ⟨("_law_mixed", none), "_law_mixed", "_law_mixed", defArgs s_l_mixed, defBody s_l_mixed, defScope s_l_mixed, [], []⟩
def dd_l_next : He.DefD := ⟨("_law_next", none), "_law_next", "_law_next", defArgs s_l_next, defBody s_l_next, defScope s_l_next, [], []⟩
def dd_l_names : He.DefD := ⟨("_law_names", none), "_law_names", "_law_names", defArgs s_l_names, defBody s_l_names, defScope s_l_names, [], []⟩
def dd_l_saying : He.DefD := ⟨("_law_saying", none), "_law_saying", "_law_saying", defArgs s_l_saying, defBody s_l_saying, defScope s_l_saying, [], []⟩
def dd_l_promise : He.DefD := ⟨("_law_promise", none), "_law_promise", "_law_promise", defArgs s_l_promise, defBody s_l_promise, defScope s_l_promise, [], []⟩
def dd_l_book : He.DefD := ⟨("_law_book", none), "_law_book", "_law_book", defArgs s_l_book, defBody s_l_book, defScope s_l_book, [], []⟩
def dd_l_settings : He.DefD := ⟨("_law_settings", none), "_law_settings", "_law_settings", defArgs s_l_settings, defBody s_l_settings, defScope s_l_settings, [], []⟩
def dd_l_machine : He.DefD := ⟨("_law_machine", none), "_law_machine", "_law_machine", defArgs s_l_machine, defBody s_l_machine, defScope s_l_machine, [], []⟩
def dd_l_whole : He.DefD := ⟨("_law_whole", none), "_law_whole", "_law_whole", defArgs s_l_whole, defBody s_l_whole, defScope s_l_whole, [], []⟩
def dd_l_is_machine : He.DefD := ⟨("_law_is_machine", none), "_law_is_machine", "_law_is_machine", defArgs s_l_is_machine, defBody s_l_is_machine, defScope s_l_is_machine, [], []⟩
def dd_l_are_apart : He.DefD := ⟨("_law_are_apart", none), "_law_are_apart", "_law_are_apart", defArgs s_l_are_apart, defBody s_l_are_apart, defScope s_l_are_apart, [], []⟩
def dd_l_is_least : He.DefD := ⟨("_law_is_least", none), "_law_is_least", "_law_is_least", defArgs s_l_is_least, defBody s_l_is_least, defScope s_l_is_least, [], []⟩
def dd_l_same : He.DefD := ⟨("_law_same", none), "_law_same", "_law_same", defArgs s_l_same, defBody s_l_same, defScope s_l_same, [], []⟩
def dd_law : He.DefD := ⟨("law", none), "law", "law", defArgs s_law, defBody s_law, defScope s_law, [], []⟩
def fnL : List He.DefD := [dd_is_whole, dd_between, dd_is_name, dd_is_saying, dd_parts_of, dd_gathered, dd_are_names, dd_stands_free, dd_are_sayings, dd_is_wish, dd_sayings_of, dd_pieces_of, dd_is_book, dd_checked, dd_is_setting, dd_settings_of, dd_is_stand, dd_is_machine, dd_need_machine, dd_checked_machine, dd_numbered, dd_lesser_of, dd_lesser, dd_l_cell_at, dd_l_mixed, dd_l_next, dd_l_names, dd_l_saying, dd_l_promise, dd_l_book, dd_l_settings, dd_l_machine, dd_l_whole, dd_l_is_machine, dd_l_are_apart, dd_l_is_least, dd_l_same, dd_law]
def faL : List He.Fa := [.free "all", .free "any", .free "bool", .free "int", .free "isinstance", .free "len", .free "list", .free "range", .free "str", .free "tuple", .free "zip", .glo "is_whole", .glo "between", .glo "is_name", .glo "is_saying", .glo "parts_of", .glo "gathered", .glo "are_names", .glo "stands_free", .glo "are_sayings", .glo "is_wish", .glo "sayings_of", .glo "pieces_of", .glo "is_book", .glo "checked", .glo "is_setting", .glo "settings_of", .glo "is_stand", .glo "is_machine", .glo "need_machine", .glo "checked_machine", .glo "numbered", .glo "lesser_of", .glo "lesser", .glo "_law_cell_at", .glo "_law_mixed", .glo "_law_next", .glo "_law_names", .glo "_law_saying", .glo "_law_promise", .glo "_law_book", .glo "_law_settings", .glo "_law_machine", .glo "_law_whole", .glo "_law_is_machine", .glo "_law_are_apart", .glo "_law_is_least", .glo "_law_same", .glo "law", .int "DEPTH" 8, .glo "DOUBLE", .str "LETTERS" "abcdefghijklmnopqrstuvwxyz", .glo "PAST", .int "PIECES" 4, .int "PRICE" 99, .glo "SINGLE", .int "STANDS" 64, .glo "WORDS", .glo "NoBook", .exc "NoBook", .glo "NoMachine", .exc "NoMachine"]
def tbL : List (Str × List Str) := [("DOUBLE", ["and", "or", "then", "same", "since"]), ("PAST", ["before", "once", "sofar", "since"]), ("SINGLE", ["not", "before", "once", "sofar"]), ("WORDS", ["yes", "no", "not", "and", "or", "then", "same", "before", "once", "sofar", "since", "foe", "friend", "promise", "must", "wish"])]
def exaL (K : PySem.W.Frag) : Bool := exB tbL K && true
def loose0 : List Str := ["is_whole", "between", "is_name", "is_saying", "parts_of", "gathered", "are_names", "stands_free", "are_sayings", "is_wish", "sayings_of", "pieces_of", "is_book", "checked", "is_setting", "settings_of", "is_stand", "is_machine", "need_machine", "checked_machine", "numbered", "lesser_of", "lesser", "_law_cell_at", "_law_mixed", "_law_next", "_law_names", "_law_saying", "_law_promise", "_law_book"]
def loose1 : List Str := ["_law_settings", "_law_machine", "_law_whole", "_law_is_machine", "_law_are_apart", "_law_is_least", "_law_same", "LossError", "NoBook", "NoMachine", "WORDS", "SINGLE", "DOUBLE", "PAST", "LETTERS", "DEPTH", "PIECES", "PRICE", "STANDS"]
def looseL : List Str := loose0 ++ loose1
abbrev RR : PySem.W.OpenRow := PySem.W.OpenLaw.row LW
abbrev hkL : PySem.W.Hook := He.hookX 4 faL fnL [] [] exaL
def obL (s : PySem.W.SharedT) : He.AlX := He.obsX 4 faL fnL [] [] exaL (HandSHeadRun.getT s)
theorem obL_eq (s : PySem.W.SharedT) : obL s = hkL.obs s.abs := He.obsX_eq (HandSHeadRun.getT_eq s)
theorem mapL {α β γ δ : Type _} {r : Option α} {f : α → β} {g : α → γ} {h : α → δ} {x : β} {y : γ} {z : δ} (a : r.map (fun s => (f s, g s)) = some (x, y)) (b : r.map h = some z) : r.map (fun s => (f s, g s, h s)) = some (x, y, z) := by
  cases r with
  | none => cases a
  | some s =>
    have a' : (f s, g s) = (x, y) := Option.some.inj a
    have b' : h s = z := Option.some.inj b
    cases a'
    cases b'
    rfl
section
open PySem.W PySem.Calls HandSHeadRun
theorem runA (w : World) (os : OsState) : (HandSHeadRun.endF (stepQ (denQ tabQ) RR.prog w) 12000 RR.prog w os).map (fun s => (HandSHeadRun.looksF RR.prog (boot_heap w.params) s.abs, HandSHeadRun.seenQ (PySem.W.view RR.prog [56]) looseL (importedModules RR.prog.main.body) (fun s => xlAt (PySem.W.view RR.prog [56]) [] s && recOk RR.toRowW.records s) s.abs)) = some (true, openGood (PySem.W.view RR.prog [56]) looseL) := by kernel_rfl
theorem runB (w : World) (os : OsState) : (HandSHeadRun.endF (stepQ (denQ tabQ) RR.prog w) 12000 RR.prog w os).map (fun s => obL s) = some (hkL.val w) := by kernel_rfl
end
theorem runL (w : World) : HandSHeadRun.RunEq RR (PySem.W.view RR.prog [56]) hkL obL 12000 looseL w := by
  intro os
  exact mapL (runA w os) (runB w os)
end Lz
namespace Lz
open PySem PySem.Spec PyProof.Rows L2
noncomputable def rngX3 (xs : List XV) (ρ : Env) : R Its := match views xs ρ with
  | some [.int a, .int b, .int c] => cif (c = -1 ∧ -(2 ^ 62) ≤ a ∧ a < 2 ^ 62 ∧ -(2 ^ 62) ≤ b ∧ b < 2 ^ 62 ∧ a - b ≤ 16777216) (.ok ⟨rngL a (-1) (a - b).toNat, none⟩ ρ) .bad
  | _ => .bad
noncomputable def sRng3 (f : Env → R (List XV)) (ρ : Env) : R Its := (f ρ).bind rngX3
section
variable {X : Cx} {W : WX} {tg : Expr}
noncomputable def rng3K (ρ : Env) : Option (List D) → R Its
  | some [.int a, .int b, .int c] => cif (c = -1 ∧ -(2 ^ 62) ≤ a ∧ a < 2 ^ 62 ∧ -(2 ^ 62) ≤ b ∧ b < 2 ^ 62 ∧ a - b ≤ 16777216) (.ok ⟨rngL a (-1) (a - b).toNat, none⟩ ρ) .bad
  | _ => .bad
@[simp] theorem rng3K_s {ρ : Env} {a b c : Int} : rng3K ρ (some [.int a, .int b, .int c]) = cif (c = -1 ∧ -(2 ^ 62) ≤ a ∧ a < 2 ^ 62 ∧ -(2 ^ 62) ≤ b ∧ b < 2 ^ 62 ∧ a - b ≤ 16777216) (.ok ⟨rngL a (-1) (a - b).toNat, none⟩ ρ) .bad := rfl
@[simp] theorem rngX3_ev {ρ : Env} {xs : List XV} : rngX3 xs ρ = rng3K ρ (views xs ρ) := by
  unfold rngX3 rng3K
  rfl
@[simp] theorem sRng3_ev {f : Env → R (List XV)} {ρ : Env} : sRng3 f ρ = (f ρ).bind rngX3 := rfl
end
end Lz
namespace Lz
open PySem PySem.Spec PyProof.Rows L2
def rgOkB (a b : Int) : Prop := -(2 ^ 62) ≤ a ∧ a < 2 ^ 62 ∧ -(2 ^ 62) ≤ b ∧ b < 2 ^ 62 ∧ b - a ≤ 16777216
noncomputable def opLRg : D → D → Option T
  | .int a, .int b => cif (rgOkB a b) (some (true, .lst (rngL a 1 (b - a).toNat))) none
  | _, _ => none
noncomputable def opLRg1 : D → Option T := fun d => opLRg (.int 0) d
noncomputable def opTRg : D → D → Option T
  | .int a, .int b => cif (rgOkB a b) (some (false, .tup (rngL a 1 (b - a).toNat))) none
  | _, _ => none
noncomputable def opTRg1 : D → Option T := fun d => opTRg (.int 0) d
theorem rgV_cons {a b : Int} (h : a < b) : rgV a b = .int a :: rgV (a + 1) b := by
  unfold rgV
  obtain ⟨n, hn⟩ : ∃ n, (b - a).toNat = n + 1 := ⟨(b - a).toNat - 1, by omega⟩
  have e : (b - (a + 1)).toNat = n := by omega
  rw [hn, e, List.range_succ_eq_map]
  simp only [List.map_cons, List.map_map]
  refine congr (congrArg List.cons (by simp)) (List.map_congr_left fun i _ => ?_)
  show V.int (a + ((i + 1 : Nat) : Int)) = V.int (a + 1 + (i : Int))
  congr 1
  omega
theorem rep_rg {K : PySem.W.Frag} {H : Hp} {av : Addr → Prop} {b : Int} : ∀ (n : Nat) (a : Int), (b - a).toNat = n → RepAll K H av (rgV a b) (rngL a 1 n)
  | 0, a, h => by
    have e : rgV a b = [] := by unfold rgV; rw [h]; rfl
    rw [e]
    exact .nil
  | n + 1, a, h => by
    rw [rgV_cons (by omega)]
    exact .cons (.int a) (rep_rg n (a + 1) (by omega))
theorem rgOk_of {a b : Int} (h : rgOkB a b) : RgOk a b := by
  exact ⟨h.1, h.2.1, h.2.2.1, h.2.2.2.1, by have := h.2.2.2.2; omega⟩
section
variable {X : Cx} {W : WX} {a b : Expr} {fa fb : Env → R XV} {p p2 pos pos2 : Pos}
theorem lrg_use {K : PySem.W.Frag} {x y : V} {H : Hp} {Q : VK} (h : rOp K opLRg x y H Q) : ∃ i j, x = .int i ∧ y = .int j ∧ RgOk i j ∧ ∀ q, H q = none → Q (.ref q) (upd H q (.lst (rgV i j))) := by
  obtain ⟨L, d, e, o, o', t, s, m1, m2, ht, q⟩ := h
  cases d <;> cases e <;> first | (cases ht; done) | skip
  rename_i i j
  have h' : (cif (rgOkB i j) (some (true, D.lst (rngL i 1 (j - i).toNat))) none) = some t := ht
  by_cases hr : rgOkB i j
  · rw [cif_pos hr] at h'
    cases h'
    obtain ⟨ws, w⟩ := s
    exact ⟨i, j, w.int m1, w.int m2, rgOk_of hr, newLst_of w (rep_rg _ i rfl) q⟩
  · rw [cif_neg hr] at h'; cases h'
theorem se_lrg1 (hm : X.mg "list" = none) (hm2 : X.mg "range" = none) (ha : SE X W a fa) (hc : X.calm = true := by rfl) (hg : Gl X "list" := by rfl) (hg2 : Gl X "range" := by rfl)
    (n1 : starEach [.Call (.Name "range" p2) [a] [] pos2] X.env = (false, eval (.Call (.Name "range" p2) [a] [] pos2) X.env) :: starEach [] X.env := by rfl)
    (na : starEach [a] X.env = (false, eval a X.env) :: starEach [] X.env := by rfl) :
    SE X W (.Call (.Name "list" p) [.Call (.Name "range" p2) [a] [] pos2] [] pos) (sUn opLRg1 fa) := by
  refine PE.weak (pe_listRg hc hg hm (prg_1 hg2 hm2 ha na) n1) fun σ H Q h => ?_
  obtain ⟨ρ, hs, s, h⟩ := h
  refine ⟨ρ, hs, s, fin_mono (fin_bind0 h) fun v H1 ⟨x, ρ1, hx, s1, h1⟩ => ?_⟩
  obtain ⟨L, d, o, t, sp, m, ht, q⟩ := op1_ok s1 hx (fun p hp => by simp [hp]) h1
  obtain ⟨i, j, e1, e2, ok, qq⟩ := lrg_use (K := X.K) (x := .int 0) (y := v) (H := H1) (Q := Q) ⟨_, .int 0, d, false, o, t, sp.cInt 0, List.mem_cons_self, List.mem_cons_of_mem _ m, ht, fun w H' s' => q w H' (Sep.drop_mid (A := [(w, t)]) (B := [(V.int 0, (false, D.int 0))]) s')⟩
  cases e1
  exact ⟨j, e2, ok, qq⟩
@[simp] theorem opLRg_s {i j : Int} : opLRg (.int i) (.int j) = cif (rgOkB i j) (some (true, .lst (rngL i 1 (j - i).toNat))) none := rfl
@[simp] theorem opLRg1_s {j : Int} : opLRg1 (.int j) = cif (rgOkB 0 j) (some (true, .lst (rngL 0 1 (j - 0).toNat))) none := rfl
@[simp] theorem opTRg1_s {j : Int} : opTRg1 (.int j) = cif (rgOkB 0 j) (some (false, .tup (rngL 0 1 (j - 0).toNat))) none := rfl
end
end Lz
namespace Lz
open PySem PySem.Spec PyProof.Rows L2
def viewT (x : XV) (ρ : Env) : Option T := match x with
  | .v o d => some (o, d)
  | .b i => gt ρ i
theorem lk_names {K : PySem.W.Frag} {H : Hp} {av : Addr → Prop} {f : Str} {b : Bool} {d : D} : ∀ {fs : List (Str × V)} {gs : List (Str × Bool × D)}, fs.map (·.1) = gs.map (·.1) → RepAll K H av (fs.map (·.2)) (gs.map (·.2.2)) → gs.lookup f = some (b, d) → ∃ u, fs.lookup f = some u ∧ Rep K H av u d
  | [], [], _, _, h => by cases h
  | [], _ :: _, h, _, _ => by cases h
  | _ :: _, [], h, _, _ => by cases h
  | (g, v) :: fs, (g', b', d') :: gs, hn, r, h => by
    simp only [List.map_cons, List.cons.injEq] at hn r
    obtain ⟨rfl, hn⟩ := hn
    cases r with
    | cons r1 r2 =>
      rw [List.lookup_cons] at h ⊢
      cases hb : (f == g) with
      | true =>
        rw [hb] at h
        cases h
        exact ⟨v, rfl, r1⟩
      | false =>
        rw [hb] at h
        exact lk_names hn r2 h
theorem lk_own {K : PySem.W.Frag} {H : Hp} {av : Addr → Prop} {f : Str} {d : D} : ∀ {fs : List (Str × V)} {gs : List (Str × Bool × D)} {w : List Addr}, OwnFs K H av fs gs w → gs.lookup f = some (false, d) → ∃ u, fs.lookup f = some u ∧ Rep K H av u d
  | _, _, _, .nil, h => by cases h
  | _, _, _, .pure (f := g) r t, h => by
    rw [List.lookup_cons] at h ⊢
    cases hb : (f == g) with
    | true => rw [hb] at h; cases h; exact ⟨_, rfl, r⟩
    | false => rw [hb] at h; exact lk_own t h
  | _, _, _, .lst (f := g) e r t, h => by
    rw [List.lookup_cons] at h ⊢
    cases hb : (f == g) with
    | true => rw [hb] at h; cases h
    | false => rw [hb] at h; exact lk_own t h
/-- what an object's attribute gives free -/
def fldV (o : Bool) (gs : List (Str × Bool × D)) (f : Str) : Option D := match gs.lookup f with
  | some (b, d) => if (o && b) = true then none else some d
  | none => none
theorem SepW.ob {K : PySem.W.Frag} {H : Hp} {L : List VT} {ws : List Addr} {v : V} {o : Bool} {c : Str} {gs : List (Str × Bool × D)} (s : SepW K H L ws) (hm0 : (v, (o, D.ob c gs)) ∈ L) :
    ∃ a dx fs, v = .ref a ∧ H a = some (.ins (He.ga K c) dx fs) ∧ fs.map (·.1) = gs.map (·.1) ∧ ∀ f d, fldV o gs f = some d → ∃ u, fs.lookup f = some u ∧ Rep K H (· ∈ ws) u d := by
  obtain ⟨w, q, hw⟩ := s.own.get hm0
  cases q with
  | pure r =>
    cases r with
    | ob n h e m r =>
      subst e
      refine ⟨_, _, _, rfl, h, m, fun f d hf => ?_⟩
      unfold fldV at hf
      cases hl : gs.lookup f with
      | none => rw [hl] at hf; cases hf
      | some p =>
        obtain ⟨b, d'⟩ := p
        rw [hl] at hf
        simp only [Bool.false_and, Bool.false_eq_true, if_false, Option.some.injEq] at hf
        subst hf
        exact lk_names m r hl
  | ob h e r =>
    subst e
    refine ⟨_, _, _, rfl, h, r.names, fun f d hf => ?_⟩
    unfold fldV at hf
    cases hl : gs.lookup f with
    | none => rw [hl] at hf; cases hf
    | some p =>
      obtain ⟨b, d'⟩ := p
      rw [hl] at hf
      cases b with
      | true => simp at hf
      | false =>
        simp at hf
        subst hf
        exact lk_own r hl
def fldX (c f : Str) (x : XV) (ρ : Env) : R XV := match viewT x ρ with
  | some (o, .ob c' gs) => if c' = c then (match fldV o gs f with
    | some d => .ok (.v false d) ρ
    | none => .bad) else .bad
  | _ => .bad
def sFld (c f : Str) (fe : Env → R XV) (ρ : Env) : R XV := (fe ρ).bind (fldX c f)
section
variable {X : Cx} {W : WX} {e : Expr} {fe : Env → R XV} {c f : Str} {pos : Pos}
end
/-- nothing is let out -/
def nX (F : List T → FR) (ts : List T) : FR := match F ts with
  | .exc _ => .bad
  | r => r
/-- whether it is an object of the class, without an attribute of the name -/
def isOb (c m : Str) (x : XV) (ρ : Env) : Bool := match viewT x ρ with
  | some (_, .ob c' gs) => decide (c' = c) && (gs.lookup m).isNone
  | _ => false
def sMeth (c m : Str) (F : List T → FR) (fo : Env → R XV) (fa : Env → R (List XV)) (ρ : Env) : R XV := (fo ρ).bind fun x ρ => if isOb c m x ρ = true then (fa ρ).bind fun xs ρ => opF (nX F) (x :: xs) ρ else .bad
section
variable {X : Cx} {W : WX} {o e : Expr} {es : List Expr} {fo : Env → R XV} {fa : Env → R (List XV)} {k : Nat} {F : List T → FR} {c m : Str} {apos pos : Pos}
def opMk (c : Str) (F : List T → FR) (xs : List XV) (ρ : Env) : R XV := match takeA xs ρ with
  | none => .bad
  | some p => (match F ((true, .ob c []) :: p.1) with
    | .ok (false, .non) (some t :: outs) => .ok (.v t.1 t.2) (putA xs outs p.2)
    | _ => .bad)
def sMake (c : Str) (F : List T → FR) (fa : Env → R (List XV)) (ρ : Env) : R XV := (fa ρ).bind (opMk c F)
end
end Lz
namespace Lz
open PySem PySem.Spec PyProof.Rows L2
def putO (f : Str) (x : Bool × D) : List (Str × Bool × D) → List (Str × Bool × D)
  | [] => [(f, x)]
  | (g, y) :: r => if g = f then (g, x) :: r else (g, y) :: putO f x r
section
variable {K : PySem.W.Frag} {H : Hp} {av : Addr → Prop}
theorem OwnFs.put {f : Str} {y : V} {d : D} (q : Rep K H av y d) : ∀ {fs : List (Str × V)} {gs : List (Str × Bool × D)} {w : List Addr}, OwnFs K H av fs gs w → ∃ w', OwnFs K H av (putF f y fs) (putO f (false, d) gs) w' ∧ w'.Sublist w
  | _, _, _, .nil => ⟨[], .pure q .nil, List.Sublist.refl _⟩
  | _, _, _, .pure (f := g) (fs := fs) (gs := gs) (w := w) r t => by
    unfold putF putO
    by_cases h : g = f
    · rw [if_pos h, if_pos h]
      exact ⟨w, .pure q t, List.Sublist.refl _⟩
    · rw [if_neg h, if_neg h]
      obtain ⟨w', h1, h2⟩ := OwnFs.put q t
      exact ⟨w', .pure r h1, h2⟩
  | _, _, _, .lst (f := g) (b := b) (w := w) e r t => by
    unfold putF putO
    by_cases h : g = f
    · rw [if_pos h, if_pos h]
      exact ⟨w, .pure q t, List.sublist_cons_self _ _⟩
    · rw [if_neg h, if_neg h]
      obtain ⟨w', h1, h2⟩ := OwnFs.put q t
      exact ⟨b :: w', .lst e r h1, h2.cons_cons b⟩
end
def setFld (i : Nat) (c f : Str) (own : Bool) (y : XV) (ρ : Env) : R Fl := match own with
  | false => (frz y ρ).bind fun d ρ => (match gt ρ i with
    | some (true, .ob c' gs) => if c' = c ∧ gs.length < 1000 then .ok .nx (pt ρ i (some (true, .ob c (putO f (false, d) gs)))) else .bad
    | _ => .bad)
  | true => (match y, gt ρ i with
    | .v true (.lst ds), some (true, .ob c' gs) => if c' = c ∧ gs.length < 1000 then .ok .nx (pt ρ i (some (true, .ob c (putO f (true, .lst ds) gs)))) else .bad
    | _, _ => .bad)
def xFset (i : Nat) (c f : Str) (own : Bool) (fe : Env → R XV) (ρ : Env) : R Fl := (fe ρ).bind (setFld i c f own)
section
variable {X : Cx} {W : WX} {pin : List Nat} {value : Expr} {fe : Env → R XV} {c f x : Str} {i : Nat} {p pos pos' : Pos}
end
section
variable {ρ : Env} {c f m : Str} {gs : List (Str × Bool × D)} {o : Bool} {i : Nat} {d : D}
@[simp] theorem viewT_v : viewT (.v o d) ρ = some (o, d) := rfl
@[simp] theorem viewT_b : viewT (.b i) ρ = gt ρ i := rfl
def fldK (c f : Str) (ρ : Env) : Option T → R XV
  | some (o, .ob c' gs) => if c' = c then (match fldV o gs f with
    | some d => .ok (.v false d) ρ
    | none => .bad) else .bad
  | _ => .bad
def fldK2 (ρ : Env) : Option D → R XV
  | some d => .ok (.v false d) ρ
  | none => .bad
@[simp] theorem fldK2_s : fldK2 ρ (some d) = .ok (.v false d) ρ := rfl
@[simp] theorem fldK_s : fldK c f ρ (some (o, .ob c gs)) = fldK2 ρ (fldV o gs f) := by
  unfold fldK fldK2
  dsimp only
  rw [if_pos rfl]
  try (cases fldV o gs f <;> rfl)
@[simp] theorem fldX_ev {x : XV} : fldX c f x ρ = fldK c f ρ (viewT x ρ) := by
  unfold fldX fldK
  try (cases viewT x ρ with
  | none => rfl
  | some t => obtain ⟨o, d⟩ := t; cases d <;> rfl)
@[simp] theorem sFld_ev {fe : Env → R XV} : sFld c f fe ρ = (fe ρ).bind (fldX c f) := rfl
@[simp] theorem isOb_v {c' : Str} : isOb c m (.v o (.ob c' gs)) ρ = (decide (c' = c) && (gs.lookup m).isNone) := rfl
def isObK (c m : Str) : Option T → Bool
  | some (_, .ob c' gs) => decide (c' = c) && (gs.lookup m).isNone
  | _ => false
@[simp] theorem isObK_s {c' : Str} : isObK c m (some (o, .ob c' gs)) = (decide (c' = c) && (gs.lookup m).isNone) := rfl
@[simp] theorem isOb_b : isOb c m (.b i) ρ = isObK c m (gt ρ i) := by
  show isOb c m (.b i) ρ = _
  unfold isOb isObK
  rw [viewT_b]
  try (cases gt ρ i with
  | none => rfl
  | some t => obtain ⟨o, d⟩ := t; cases d <;> rfl)
def methK (F : List T → FR) (x : XV) (xs : List XV) (ρ : Env) : R XV := opF (nX F) (x :: xs) ρ
@[simp] theorem methK_ev {F : List T → FR} {x : XV} {xs : List XV} : methK F x xs ρ = opF (nX F) (x :: xs) ρ := rfl
def methK2 (c m : Str) (F : List T → FR) (fa : Env → R (List XV)) (x : XV) (ρ : Env) : R XV := if isOb c m x ρ = true then (fa ρ).bind (methK F x) else .bad
@[simp] theorem methK2_ev {F : List T → FR} {fa : Env → R (List XV)} {x : XV} : methK2 c m F fa x ρ = if isOb c m x ρ = true then (fa ρ).bind (methK F x) else .bad := rfl
@[simp] theorem sMeth_ev {F : List T → FR} {fo : Env → R XV} {fa : Env → R (List XV)} : sMeth c m F fo fa ρ = (fo ρ).bind (methK2 c m F fa) := rfl
def nXK : FR → FR
  | .exc _ => .bad
  | r => r
@[simp] theorem nXK_ok {r : T} {outs : Env} : nXK (.ok r outs) = .ok r outs := rfl
@[simp] theorem nXK_al {outs : Env} : nXK (.al i outs) = .al i outs := rfl
@[simp] theorem nX_ev {F : List T → FR} {ts : List T} : nX F ts = nXK (F ts) := by
  unfold nX nXK
  try (cases F ts <;> rfl)
@[simp] theorem sMake_ev {F : List T → FR} {fa : Env → R (List XV)} : sMake c F fa ρ = (fa ρ).bind (opMk c F) := rfl
def mkK2 (xs : List XV) (ρ : Env) : FR → R XV
  | .ok (false, .non) (some t :: outs) => .ok (.v t.1 t.2) (putA xs outs ρ)
  | _ => .bad
@[simp] theorem mkK2_s {xs : List XV} {t : T} {outs : Env} : mkK2 xs ρ (.ok (false, .non) (some t :: outs)) = .ok (.v t.1 t.2) (putA xs outs ρ) := rfl
def mkK (c : Str) (F : List T → FR) (xs : List XV) : Option (List T × Env) → R XV
  | none => .bad
  | some p => mkK2 xs p.2 (F ((true, .ob c []) :: p.1))
@[simp] theorem mkK_s {F : List T → FR} {xs : List XV} {ts : List T} {ρ' : Env} : mkK c F xs (some (ts, ρ')) = mkK2 xs ρ' (F ((true, .ob c []) :: ts)) := rfl
@[simp] theorem opMk_ev {F : List T → FR} {xs : List XV} : opMk c F xs ρ = mkK c F xs (takeA xs ρ) := by
  unfold opMk mkK
  cases takeA xs ρ with
  | none => rfl
  | some p =>
    dsimp only
    unfold mkK2
    rfl
@[simp] theorem xFset_ev {own : Bool} {fe : Env → R XV} : xFset i c f own fe ρ = (fe ρ).bind (setFld i c f own) := rfl
def setK2 (i : Nat) (c f : Str) (x : Bool × D) (ρ : Env) : Option T → R Fl
  | some (true, .ob c' gs) => if c' = c ∧ gs.length < 1000 then .ok .nx (pt ρ i (some (true, .ob c (putO f x gs)))) else .bad
  | _ => .bad
@[simp] theorem setK2_s {x : Bool × D} {c' : Str} : setK2 i c f x ρ (some (true, .ob c' gs)) = if c' = c ∧ gs.length < 1000 then .ok .nx (pt ρ i (some (true, .ob c (putO f x gs)))) else .bad := rfl
def setK (i : Nat) (c f : Str) (d : D) (ρ : Env) : R Fl := setK2 i c f (false, d) ρ (gt ρ i)
@[simp] theorem setK_ev : setK i c f d ρ = setK2 i c f (false, d) ρ (gt ρ i) := rfl
@[simp] theorem setFld_f {y : XV} : setFld i c f false y ρ = (frz y ρ).bind (setK i c f) := by
  unfold setFld
  dsimp only
  congr 1
  try funext d ρ
  try (cases gt ρ i with
  | none => rfl
  | some t => obtain ⟨o, d⟩ := t; cases o <;> cases d <;> rfl)
@[simp] theorem setFld_t {ds : List D} : setFld i c f true (.v true (.lst ds)) ρ = setK2 i c f (true, .lst ds) ρ (gt ρ i) := by
  unfold setFld setK2
  dsimp only
  try (cases gt ρ i with
  | none => rfl
  | some t => obtain ⟨o, d⟩ := t; cases o <;> cases d <;> rfl)
@[simp] theorem putO_n {x : Bool × D} : putO f x [] = [(f, x)] := rfl
@[simp] theorem putO_c {g : Str} {x y : Bool × D} : putO f x ((g, y) :: gs) = if g = f then (g, x) :: gs else (g, y) :: putO f x gs := rfl
end
end Lz
namespace Lz
open PySem PySem.Spec PyProof.Rows L2
section
variable {X : Cx} {pins : List (Addr × Obj)} {σ : Sg} {H : Hp} {s : Shared} {av : Addr → Prop}
mutual
theorem rep_nk (I : L2.Inv X pins σ H s) : ∀ {v : V} {d : D} {k : NestedKey} {u : Value}, Rep X.K H av v d → nkD d = some k → RelV v u → NestedIs s.heap k u
  | _, _, _, _, .non, h, _ => by rw [nkD] at h; cases h; all_goals exact nofun
  | _, _, _, _, .bl b, h, r => by
    rw [nkD] at h
    cases h
    have e : _ = Value.bool b := r
    subst e
    exact .bool rfl
  | _, _, _, _, .int i, h, r => by
    rw [nkD] at h
    cases h
    obtain ⟨t, rfl⟩ := r
    exact .int i t
  | _, _, _, _, .str x, h, _ => by rw [nkD] at h; cases h; all_goals exact nofun
  | _, _, _, _, .tup (a := a) (vs := vs) (ds := ds) n h1 e rr, h, r => by
    rw [nkD] at h
    have eu : _ = Value.ref a := r
    subst eu
    cases e2 : nkDs ds with
    | none => rw [e2] at h; cases h
    | some ks =>
      rw [e2] at h
      cases h
      obtain ⟨_, _, its, rv, ob, q1, q2, m, q3⟩ := I.hok a _ h1
      exact .tup q1 q2 q3 (reps_nk I rr e2 rv)
  | _, _, _, _, .ktup (a := a) (vs := vs) (ds := ds) h1 rr, h, r => by
    rw [nkD] at h
    have eu : _ = Value.ref a := r
    subst eu
    cases e2 : nkDs ds with
    | none => rw [e2] at h; cases h
    | some ks =>
      rw [e2] at h
      cases h
      obtain ⟨o, its, n, q1, q2, _, q3, _, rv⟩ := h1
      exact .tup (I.kIn a o q1) q2 q3 (reps_nk I rr e2 rv)
  | _, _, _, _, .lst _ _ _, h, _ => by rw [nkD] at h; cases h; all_goals exact nofun
  | _, _, _, _, .scr _ _, h, _ => by rw [nkD] at h; cases h; all_goals exact nofun
  | _, _, _, _, .kscr _, h, _ => by rw [nkD] at h; cases h; all_goals exact nofun
  | _, _, _, _, .obj _ _ _ _ _, h, _ => by rw [nkD] at h; cases h; all_goals exact nofun
  | _, _, _, _, .ob _ _ _ _ _, h, _ => by rw [nkD] at h; cases h; all_goals exact nofun
  | _, _, _, _, .dct _ _ _ _ _, h, _ => by rw [nkD] at h; cases h; all_goals exact nofun
  | _, _, _, _, .dk _ _ _ _, h, _ => by rw [nkD] at h; cases h; all_goals exact nofun
  | _, _, _, _, .dkl _ _ _ _, h, _ => by rw [nkD] at h; cases h; all_goals exact nofun
  | _, _, _, _, .lol _ _ _, h, _ => by rw [nkD] at h; cases h; all_goals exact nofun
  | _, _, _, _, .pin _ _ _, h, _ => by rw [nkD] at h; cases h; all_goals exact nofun
  | _, _, _, _, .fn _, h, _ => by rw [nkD] at h; cases h; all_goals exact nofun
  | _, _, _, _, .xc _, h, _ => by rw [nkD] at h; cases h; all_goals exact nofun
theorem reps_nk (I : L2.Inv X pins σ H s) : ∀ {vs : List V} {ds : List D} {ks : List NestedKey} {us : List Value}, RepAll X.K H av vs ds → nkDs ds = some ks → Vals vs us → NestedAll s.heap ks us
  | _, _, _, _, .nil, h, r => by
    rw [nkDs] at h
    cases h
    cases r
    exact .nil
  | _, _, _, _, .cons (d := d) (ds := ds) r1 r2, h, r => by
    rw [nkDs] at h
    cases e : nkD d with
    | none => rw [e] at h; cases h
    | some k =>
      rw [e] at h
      cases e2 : nkDs ds with
      | none => rw [e2] at h; cases h
      | some ks =>
        rw [e2] at h
        cases h
        cases r with
        | cons ra rb => exact .cons (rep_nk I r1 e ra) (reps_nk I r2 e2 rb)
end
theorem keys_is (I : L2.Inv X pins σ H s) : ∀ {es : List DEnt} {kvs : List (D × D)}, es.map (fun x => some x.1) = kvs.map (fun p => nkD p.1) → RepAll X.K H av (es.map fun x => .ref x.2.1) (kvs.map (·.1)) → ∀ x ∈ es, NestedIs s.heap x.1 (.ref x.2.1)
  | [], _, _, _, _, h => by cases h
  | e :: es, [], h, _, _, _ => by cases h
  | e :: es, p :: kvs, h, r, x, hx => by
    simp only [List.map_cons, List.cons.injEq] at h
    rw [List.map_cons, List.map_cons] at r
    cases r with
    | cons r1 r2 =>
      rcases List.mem_cons.mp hx with rfl | hx
      · exact rep_nk I r1 h.1.symm rfl
      · exact keys_is I h.2 r2 x hx
theorem dict_of (I : L2.Inv X pins σ H s) {a : Addr} {es : List DEnt} {vs : List V} {kvs : List (D × D)} (hH : H a = some (.ext (dPhi a es))) (f : DFm a es vs kvs) (r1 : RepAll X.K H av (es.map fun x => .ref x.2.1) (kvs.map (·.1))) :
    s.heap.DictOfH (nestedKind X.prog X.w) a es := by
  obtain ⟨⟨o, arr, ep, h1, h2, h3, h4⟩, _⟩ := I.hok a _ hH
  exact ⟨o, arr, ep, h1, h2, h3, h4 X.w, fun x hx => ⟨keys_is I f.keys r1 x hx, f.dep x hx⟩, f.nd⟩
theorem dPhi_of {P : Program} {w : World} {h : Heap} {a : Addr} {es : List DEnt} (x : h.DictOfH (nestedKind P w) a es) (ht : ∀ x ∈ es, nkT x.1 = true) : dPhi a es h := by
  obtain ⟨o, arr, ep, h1, h2, h3, h4, _⟩ := x
  refine ⟨o, arr, ep, h1, h2, h3, fun w' => h4.trans (List.map_congr_left fun y hy => ?_)⟩
  show (⟨y.1.hash w, .ref y.2.1, y.2.2⟩ : DictEntry) = ⟨y.1.hash w', .ref y.2.1, y.2.2⟩
  rw [nkT_hash w w' y.1 (ht y hy)]
theorem dPhi_ok {P : Program} {w : World} {H : Hp} {h : Heap} {a : Addr} {es : List DEnt} (x : dPhi a es h) : ObjOk P w H h a (.ext (dPhi a es)) := by
  refine ⟨x, ?_, fun h1 h2 q k => ?_⟩
  · obtain ⟨o, _, _, e, _⟩ := x; exact ⟨o, e⟩
  · obtain ⟨o, arr, ep, e, q2⟩ := q
    exact ⟨o, arr, ep, k o e, q2⟩
theorem keys_T {es : List DEnt} {kvs : List (D × D)} : es.map (fun x => some x.1) = kvs.map (fun p => nkD p.1) → ∀ x ∈ es, nkT x.1 = true := fun h x hx => by
  have : some x.1 ∈ kvs.map (fun p => nkD p.1) := by rw [← h]; exact List.mem_map_of_mem hx
  obtain ⟨p, _, e⟩ := List.mem_map.mp this
  exact nkD_T p.1 x.1 e
end
def dGet : List (D × D) → NestedKey → Option D
  | [], _ => none
  | p :: r, k => if nkD p.1 = some k then some p.2 else dGet r k
def dSet : List (D × D) → NestedKey → D → List (D × D)
  | [], _, _ => []
  | p :: r, k, d => (if nkD p.1 = some k then (p.1, d) else p) :: dSet r k d
def dPut (kvs : List (D × D)) (k : D) (nk : NestedKey) (d : D) : List (D × D) := if (dGet kvs nk).isSome = true then dSet kvs nk d else kvs ++ [(k, d)]
section
variable {K : PySem.W.Frag} {H : Hp} {av : Addr → Prop} {nk : NestedKey}
theorem atKey_cons {e : DEnt} {es : List DEnt} : atKey (e :: es) nk = if e.1 = nk then some e.2 else atKey es nk := by
  unfold atKey
  by_cases h : e.1 = nk
  · simp [h]
  · simp [h]
theorem dGet_at : ∀ {es : List DEnt} {vs : List V} {kvs : List (D × D)}, es.map (fun x => some x.1) = kvs.map (fun p => nkD p.1) → Vals vs (es.map (·.2.2)) → RepAll K H av vs (kvs.map (·.2)) →
    (dGet kvs nk = none → atKey es nk = none) ∧ ∀ d, dGet kvs nk = some d → ∃ p v, atKey es nk = some p ∧ RelV v p.2 ∧ Rep K H av v d
  | [], _, [], _, _, _ => ⟨fun _ => rfl, fun d h => by cases h⟩
  | [], _, _ :: _, h, _, _ => by cases h
  | _ :: _, _, [], h, _, _ => by cases h
  | e :: es, [], p :: kvs, _, r, _ => by cases r
  | e :: es, v :: vs, p :: kvs, h, r, q => by
    simp only [List.map_cons, List.cons.injEq] at h
    rw [List.map_cons] at r q
    cases r with
    | cons ra rb =>
      cases q with
      | cons qa qb =>
        obtain ⟨i1, i2⟩ := dGet_at h.2 rb qb
        rw [atKey_cons]
        unfold dGet
        rw [← h.1]
        by_cases he : e.1 = nk
        · rw [if_pos (by rw [he]), if_pos he]
          exact ⟨fun h => (by cases h), fun d hd => ⟨e.2, v, rfl, ra, by cases hd; exact qa⟩⟩
        · rw [if_neg (fun q => he (Option.some.inj q)), if_neg he]
          exact ⟨i1, i2⟩
theorem dSet_ok {val : Value} {v : V} {d : D} (rv : RelV v val) (rd : Rep K H av v d) : ∀ {es : List DEnt} {vs : List V} {kvs : List (D × D)}, es.map (fun x => some x.1) = kvs.map (fun p => nkD p.1) → Vals vs (es.map (·.2.2)) → RepAll K H av (es.map fun x => .ref x.2.1) (kvs.map (·.1)) → RepAll K H av vs (kvs.map (·.2)) →
    ∃ vs', Vals vs' ((es.map (putAt nk val)).map (·.2.2)) ∧ (es.map (putAt nk val)).map (fun x => some x.1) = (dSet kvs nk d).map (fun p => nkD p.1) ∧ RepAll K H av ((es.map (putAt nk val)).map fun x => .ref x.2.1) ((dSet kvs nk d).map (·.1)) ∧ RepAll K H av vs' ((dSet kvs nk d).map (·.2))
  | [], vs, [], _, r, _, q => by
    cases r
    exact ⟨[], .nil, rfl, .nil, .nil⟩
  | [], _, _ :: _, h, _, _, _ => by cases h
  | _ :: _, _, [], h, _, _, _ => by cases h
  | e :: es, [], p :: kvs, _, r, _, _ => by cases r
  | e :: es, u :: vs, p :: kvs, h, r, q1, q2 => by
    simp only [List.map_cons, List.cons.injEq] at h
    rw [List.map_cons] at r q2
    rw [List.map_cons, List.map_cons] at q1
    cases r with
    | cons ra rb =>
      cases q1 with
      | cons qa qb =>
        cases q2 with
        | cons qc qd =>
          obtain ⟨vs', i1, i2, i3, i4⟩ := dSet_ok rv rd h.2 rb qb qd
          unfold dSet
          by_cases he : e.1 = nk
          · have hp : nkD p.1 = some nk := by rw [← h.1, he]
            have hq : putAt nk val e = (e.1, e.2.1, val) := by unfold putAt; rw [if_pos he]
            rw [if_pos hp]
            simp only [List.map_cons, hq]
            exact ⟨v :: vs', .cons rv i1, by rw [i2, h.1], .cons qa i3, .cons rd i4⟩
          · have hp : ¬ nkD p.1 = some nk := fun q => he (by rw [← h.1] at q; exact Option.some.inj q)
            have hq : putAt nk val e = e := by unfold putAt; rw [if_neg he]
            rw [if_neg hp]
            simp only [List.map_cons, hq]
            exact ⟨u :: vs', .cons ra i1, by rw [i2, h.1], .cons qa i3, .cons qc i4⟩
theorem keys_put {es : List DEnt} {val : Value} : (es.map (putAt nk val)).map (·.1) = es.map (·.1) := by
  rw [List.map_map]
  refine List.map_congr_left fun x _ => ?_
  show (putAt nk val x).1 = x.1
  unfold putAt
  split <;> rfl
theorem RepAll.snoc {vs : List V} {ds : List D} {v : V} {d : D} (r : RepAll K H av vs ds) (q : Rep K H av v d) : RepAll K H av (vs ++ [v]) (ds ++ [d]) := r.append (.cons q .nil)
theorem DFm.put {a ka : Addr} {es : List DEnt} {vs : List V} {kvs : List (D × D)} {val : Value} {v : V} {k d : D} (f : DFm a es vs kvs) (r1 : RepAll K H av (es.map fun x => .ref x.2.1) (kvs.map (·.1))) (r2 : RepAll K H av vs (kvs.map (·.2)))
    (hk : nkD k = some nk) (hd : nk.depth ≤ 8) (rk : Rep K H av (.ref ka) k) (rv : RelV v val) (rd : Rep K H av v d) :
    ∃ vs', DFm a (storedH es nk ka val) vs' (dPut kvs k nk d) ∧ RepAll K H av ((storedH es nk ka val).map fun x => .ref x.2.1) ((dPut kvs k nk d).map (·.1)) ∧ RepAll K H av vs' ((dPut kvs k nk d).map (·.2)) := by
  obtain ⟨i1, i2⟩ := dGet_at (nk := nk) f.keys f.vals r2
  unfold dPut
  cases hg : dGet kvs nk with
  | none =>
    have ha := i1 hg
    rw [storedH_new ha, if_neg (by simp)]
    refine ⟨vs ++ [v], ⟨f.sys, ?_, ?_, ?_, ?_⟩, ?_, ?_⟩
    · rw [List.map_append]
      refine List.nodup_append.mpr ⟨f.nd, by simp, fun x hx y hy e => ?_⟩
      have ey : y = nk := List.mem_singleton.mp hy
      subst ey
      subst e
      obtain ⟨z, hz, ez⟩ := List.mem_map.mp hx
      have : atKey es x ≠ none := by
        intro q
        unfold atKey at q
        rw [Option.map_eq_none_iff, List.find?_eq_none] at q
        exact q z hz (by simp [ez])
      exact this ha
    · rw [List.map_append]
      exact f.vals.append (.cons rv .nil)
    · rw [List.map_append, List.map_append, f.keys]
      simp [hk]
    · intro x hx
      rcases List.mem_append.mp hx with hx | hx
      · exact f.dep x hx
      · rw [List.mem_singleton.mp hx]; exact hd
    · rw [List.map_append, List.map_append]
      exact r1.snoc rk
    · rw [List.map_append]
      exact r2.snoc rd
  | some d0 =>
    obtain ⟨p, u, ha, _, _⟩ := i2 d0 hg
    rw [storedH_old ha, if_pos (by simp)]
    obtain ⟨vs', j1, j2, j3, j4⟩ := dSet_ok (nk := nk) rv rd f.keys f.vals r1 r2
    refine ⟨vs', ⟨f.sys, by rw [keys_put]; exact f.nd, j1, j2, fun x hx => ?_⟩, j3, j4⟩
    obtain ⟨y, hy, rfl⟩ := List.mem_map.mp hx
    have e : (putAt nk val y).1 = y.1 := by unfold putAt; split <;> rfl
    rw [e]
    exact f.dep y hy
end
end Lz
namespace Lz
open PySem PySem.Spec PyProof.Rows L2
theorem SepW.dct {K : PySem.W.Frag} {H : Hp} {L : List VT} {ws : List Addr} {v : V} {o : Bool} {kvs : List (D × D)} (s : SepW K H L ws) (hm0 : (v, (o, D.dct kvs)) ∈ L) :
    ∃ a es vs, v = .ref a ∧ H a = some (.ext (dPhi a es)) ∧ DFm a es vs kvs ∧ RepAll K H (· ∈ ws) (es.map fun x => .ref x.2.1) (kvs.map (·.1)) ∧ RepAll K H (· ∈ ws) vs (kvs.map (·.2)) := by
  obtain ⟨w, q, _⟩ := s.own.get hm0
  cases q with
  | pure r =>
    cases r with
    | dct n h f r1 r2 => exact ⟨_, _, _, rfl, h, f, r1, r2⟩
  | dct h f r1 r2 => exact ⟨_, _, _, rfl, h, f, r1, r2⟩
/-- the key that a tuple is -/
def nkOf : D → Option NestedKey
  | .tup xs => (nkD (.tup xs)).bind fun k => if k.depth ≤ 8 then some k else none
  | _ => none
theorem nkOf_ok {d : D} {k : NestedKey} (h : nkOf d = some k) : (∃ xs, d = .tup xs) ∧ nkD d = some k ∧ k.depth ≤ 8 := by
  cases d <;> first | (cases h; done) | skip
  rename_i xs
  have h' : (nkD (.tup xs)).bind (fun k => if k.depth ≤ 8 then some k else none) = some k := h
  cases e : nkD (.tup xs) with
  | none => rw [e] at h'; cases h'
  | some j =>
    rw [e] at h'
    have h2 : (if j.depth ≤ 8 then some j else none) = some k := h'
    by_cases hd : j.depth ≤ 8
    · rw [if_pos hd] at h2; cases h2; exact ⟨⟨xs, rfl⟩, rfl, hd⟩
    · rw [if_neg hd] at h2; cases h2
/-- a tuple is known by its address -/
theorem SepW.tupR {K : PySem.W.Frag} {H : Hp} {L : List VT} {ws : List Addr} {v : V} {o : Bool} {ds : List D} (s : SepW K H L ws) (hm0 : (v, (o, D.tup ds)) ∈ L) : ∃ a, v = .ref a ∧ Rep K H (· ∈ ws) v (.tup ds) := by
  obtain ⟨w, q, _⟩ := s.own.get hm0
  cases q with
  | pure r =>
    have r' := r
    cases r' with
    | tup n h e r2 => exact ⟨_, rfl, r⟩
    | ktup h r2 => exact ⟨_, rfl, r⟩
def opNotInT (k d : D) : Option T := match d with
  | .dct kvs => (nkOf k).map fun nk => (false, .bl (!(dGet kvs nk).isSome))
  | _ => none
section
variable {X : Cx}
theorem dGet_some {K : PySem.W.Frag} {H : Hp} {av : Addr → Prop} {nk : NestedKey} {a : Addr} {es : List DEnt} {vs : List V} {kvs : List (D × D)} (f : DFm a es vs kvs) (r2 : RepAll K H av vs (kvs.map (·.2))) : (atKey es nk).isSome = (dGet kvs nk).isSome := by
  obtain ⟨i1, i2⟩ := dGet_at (nk := nk) f.keys f.vals r2
  cases hg : dGet kvs nk with
  | none => rw [i1 hg]; rfl
  | some d =>
    obtain ⟨p, v, h1, _⟩ := i2 d hg
    rw [h1]; rfl
theorem or_notInT (hu : X.A.units + 65 < cLine) : OpR X (compareOp .NotIn) (rOp X.K opNotInT) := by
  intro pins s σ H x y v u Q I rx ry ⟨L, d, e, o, o', t, sep, m1, m2, ht, q⟩
  cases e <;> first | (cases ht; done) | skip
  rename_i kvs
  have h' : (nkOf d).map (fun nk => ((false, D.bl (!(dGet kvs nk).isSome)) : T)) = some t := ht
  cases hk : nkOf d with
  | none => rw [hk] at h'; cases h'
  | some nk =>
    rw [hk] at h'
    cases h'
    obtain ⟨⟨xs, rfl⟩, h1, h2⟩ := nkOf_ok hk
    obtain ⟨ws, w⟩ := sep
    obtain ⟨ka, rfl, rk⟩ := w.tupR m1
    obtain ⟨a, es, vs, rfl, hH, f, r1, r2⟩ := w.dct m2
    cases rx
    cases ry
    have hm := dict_of I hH f r1
    have hkey : (nestedKind X.prog X.w).is s.heap nk ka := ⟨rep_nk I rk h1 rfl, h2⟩
    have hr : (nestedKind X.prog X.w).room X.A.in1 := by show X.A.units + 1 + 8 < cLine; omega
    refine notIn_keyed hr hkey f.sys ⟨es, hm, rfl⟩ ⟨.bl (!(valueAt (pairsH es) nk).isSome), H, I.kept (fun b u q => q), rfl, ?_⟩
    rw [valueAt_pairsH, Option.isSome_map, dGet_some f r2]
    exact q _ _ (Sep.cBl ⟨ws, w⟩ _)
theorem SepW.chgDct {K : PySem.W.Frag} {H : Hp} {L : List VT} {ws : List Addr} {a : Addr} {kvs0 kvs : List (D × D)} {es : List DEnt} {vs : List V} (s : SepW K H ((.ref a, (true, .dct kvs0)) :: L) ws) (f : DFm a es vs kvs)
    (r1 : RepAll K H (· ∈ ws) (es.map fun x => .ref x.2.1) (kvs.map (·.1))) (r2 : RepAll K H (· ∈ ws) vs (kvs.map (·.2))) : SepW K (upd H a (.ext (dPhi a es))) ((.ref a, (true, .dct kvs)) :: L) ws := by
  obtain ⟨h, n⟩ := s
  cases h with
  | @cons _ _ _ w ws' h t =>
    have ew : w = [a] := by cases h <;> rfl
    subst ew
    have n1 := (List.nodup_cons.mp n).1
    have k : Kp H (upd H a (.ext (dPhi a es))) (· ∈ [a] ++ ws') (· ∈ [a] ++ ws') := ⟨fun b o q nb => by
      have ne : b ≠ a := fun e => nb (by rw [e]; simp)
      rw [upd_ne ne]; exact q, fun _ q => .inl q⟩
    exact ⟨.cons (.dct upd_same f (r1.mono k) (r2.mono k)) (t.mono k fun b hb => upd_ne fun e => n1 (by rw [← e]; exact hb)), n⟩
def rSetT (K : PySem.W.Frag) (o i v : V) (H : Hp) (Q : Hp → Prop) : Prop := ∃ L kvs k nk oi d, Sep K H ((o, (true, .dct kvs)) :: L) ∧ (i, (oi, k)) ∈ L ∧ (v, (false, d)) ∈ L ∧ nkOf k = some nk ∧ kvs.length < lim ∧ ∀ H', Sep K H' ((o, (true, .dct (dPut kvs k nk d))) :: L) → Q H'
theorem set_dct (hu : X.A.units + 65 < cLine) : PSet X (rSetT X.K) := by
  intro pins s σ H o i v ov iv u Q I ro ri rv ⟨L, kvs, k, nk, oi, d, sep, mi, mv, hk, hl, q⟩
  obtain ⟨⟨xs, rfl⟩, h1, h2⟩ := nkOf_ok hk
  obtain ⟨ws, w⟩ := sep
  obtain ⟨ka, rfl, rk⟩ := w.tupR (List.mem_cons_of_mem _ mi)
  obtain ⟨a, es, vs, rfl, hH, f, r1, r2⟩ := w.dct List.mem_cons_self
  have rd : Rep X.K H (· ∈ ws) v d := w.rep (List.mem_cons_of_mem _ mv)
  cases ro
  cases ri
  have hm := dict_of I hH f r1
  have hkey : (nestedKind X.prog X.w).is s.heap nk ka := ⟨rep_nk I rk h1 rfl, h2⟩
  have hr : (nestedKind X.prog X.w).room X.A.in1 := by show X.A.units + 1 + 8 < cLine; omega
  have hlen : es.length = kvs.length := by have := congrArg List.length f.keys; simpa using this
  refine wpAny_setItem_heap (hsz := by rw [hlen]; exact Nat.le_of_lt hl) hr hkey hm fun h' hm' hs => ?_
  obtain ⟨vs', f', r1', r2'⟩ := f.put r1 r2 h1 h2 rk rv rd
  have hphi := dPhi_of hm' (keys_T f'.keys)
  have hex : ∃ o, h'.get? a = some o := let ⟨o, _, _, e, _⟩ := hphi; ⟨o, e⟩
  refine ⟨upd H a (.ext (dPhi a (storedH es nk ka u))), I.write (x := a) (e := a) (by rw [hH]; exact True.intro) (.inl rfl) (fun b ob hb z => (hs.2 b hb).trans z) hex (dPhi_ok hphi), ?_⟩
  exact q _ ⟨ws, w.chgDct f' r1' r2'⟩
def opSetT (x z y : XV) (ρ : Env) : R Fl := match x, view z ρ with
  | .b j, some k => (match nkOf k with
    | some nk => (frz y ρ).bind fun d ρ => (match gt ρ j with
      | some (true, .dct kvs) => if kvs.length < lim then .ok .nx (pt ρ j (some (true, .dct (dPut kvs k nk d)))) else .bad
      | _ => .bad)
    | none => .bad)
  | _, _ => .bad
def xSetT (fe fo fi : Env → R XV) (ρ : Env) : R Fl := (fe ρ).bind fun y ρ => (fo ρ).bind fun x ρ => (fi ρ).bind fun z ρ => opSetT x z y ρ
end
section
variable {X : Cx} {W : WX} {pin : List Nat} {e o i : Expr} {fe fo fi : Env → R XV} {pos p2 : Pos}
theorem ss_setT (hu : X.A.units + 65 < cLine) (he : SE X W e fe) (ho : SE X W o fo) (hi : SE X W i fi) (hs : swapsWithSole [.Subscript o i p2] e pos.line X.env = pure false := by rfl) (hw : swappedStores [.Subscript o i p2] e X.env = pure none := by rfl)
    (h1 : (assignEach [.Subscript o i p2] X.env).map (·.2) = [assign (.Subscript o i p2) X.env] := by rfl)
    (ha : ∀ v, assign (.Subscript o i p2) X.env v = (do
      let ov ← holding [v] (eval o X.env)
      let iv ← holding [v, ov] (eval i X.env)
      standAt p2
      holding [v, ov, iv] (setItem ov iv v)
      release [v, ov, iv] []) := by intro _; rfl) : SS X W pin (.Assign [.Subscript o i p2] e pos) (xSetT fe fo fi) := by
  refine PS.weak (ps_asg he (pg_sub ho hi (set_dct hu) ha) hs hw h1) fun E σ H h => ?_
  obtain ⟨ρ, hs, σ0, s, hp, h⟩ := h
  refine ⟨ρ, hs, s, fin_mono (finS_bind h hp) fun u H1 ⟨y, ρ1, hy, s1, h1⟩ => ?_⟩
  refine ⟨ρ1, _, s1, fin_mono (finS_bindA (hld y u) h1 hp) fun v H2 ⟨x, ρ2, hx, s2, h2⟩ => ?_⟩
  rw [← List.append_assoc] at s2
  refine ⟨ρ2, _, s2, fin_mono (finS_bindA (hld x v ++ hld y u) h2 hp) fun w H3 ⟨z, ρ3, hz, s3, h3⟩ => ?_⟩
  unfold opSetT at h3
  cases x with
  | v _ _ => exact h3.elim
  | b j =>
    cases ev : view z ρ3 with
    | none => rw [ev] at h3; exact h3.elim
    | some k =>
      rw [ev] at h3
      dsimp only at h3
      cases hk : nkOf k with
      | none => rw [hk] at h3; exact h3.elim
      | some nk =>
        rw [hk] at h3
        dsimp only at h3
        obtain ⟨⟨xs, rfl⟩, hk1, hk2⟩ := nkOf_ok hk
        obtain ⟨o1, m1⟩ := s3.mem hz (fun p hp => by simp [hp]) ev
        -- the key is a tuple that nobody owns
        have s3' : Stt X.K ((w, (false, D.tup xs)) :: (hld y u ++ hs)) σ H3 ρ3 := by
          obtain ⟨ws, q⟩ := s3.sep
          obtain ⟨ka, _, rk⟩ := q.tupR m1
          have q2 : Sep X.K H3 ((w, (false, D.tup xs)) :: (slotsL σ ρ3 ++ (hld z w ++ (hld (.b j) v ++ hld y u ++ hs)))) := ⟨ws, q.pure rk⟩
          refine ⟨s3.ok, ?_⟩
          have q3 : Sep X.K H3 ((w, (false, D.tup xs)) :: (slotsL σ ρ3 ++ (hld y u ++ hs))) := by
            have q4 := Sep.drop_mid (A := (w, (false, D.tup xs)) :: slotsL σ ρ3) (B := hld z w) (C := hld (.b j) v ++ hld y u ++ hs) q2
            simpa [hld] using q4
          exact q3.perm List.perm_middle.symm
        cases ez : frz y ρ3 with
        | bad => rw [ez] at h3; exact h3.elim
        | exc c ρ4 => exact (frz_exc ez).elim
        | ok d ρ4 =>
          rw [ez] at h3
          have h4 : finS X.K W hs pin σ0 (match gt ρ4 j with
            | some (true, .dct kvs) => if kvs.length < lim then .ok .nx (pt ρ4 j (some (true, .dct (dPut kvs (.tup xs) nk d)))) else .bad
            | _ => .bad) E := h3
          have s5 : Stt X.K ((u, (false, d)) :: ((w, (false, D.tup xs)) :: hs)) σ H3 ρ4 := by
            refine frz_ok (s3'.perm ?_) hy ez
            exact List.perm_middle.symm
          have hx' : σ[j]? = some (some v) := hx
          cases eg : gt ρ4 j with
          | none => rw [eg] at h4; exact h4.elim
          | some t =>
            rw [eg] at h4
            obtain ⟨o, dd⟩ := t
            cases o with
            | false => exact h4.elim
            | true =>
              cases dd <;> first | exact h4.elim | skip
              rename_i kvs
              dsimp only at h4
              by_cases hl : kvs.length < lim
              · rw [if_pos hl] at h4
                have hi : j < ρ4.length := gt_lt eg
                have p1 := (slots_take hx' eg).append_right ((u, (false, d)) :: (w, (false, D.tup xs)) :: hs)
                refine ⟨_, kvs, .tup xs, nk, false, d, s5.sep.perm p1, ?_, ?_, hk, hl, fun H' q => ?_⟩
                · simp
                · simp
                · refine h4 σ H' ⟨s5.ok.keep j hx', ?_⟩ hp
                  have q2 : Sep X.K H' (((v, (true, D.dct (dPut kvs (.tup xs) nk d))) :: slotsL σ (pt ρ4 j none)) ++ ([(u, (false, d)), (w, (false, D.tup xs))] ++ hs)) := q
                  have q3 := q2.drop_mid
                  exact q3.perm ((slots_keep hx' hi).append_right hs).symm
              · rw [if_neg hl] at h4; exact h4.elim
def opDisp (x y : XV) (ρ : Env) : R XV := match view x ρ with
  | some k => (match nkOf k with
    | some _ => (frz y ρ).bind fun d ρ => .ok (.v true (.dct [(k, d)])) ρ
    | none => .bad)
  | none => .bad
def sDisp (fk fv : Env → R XV) (ρ : Env) : R XV := (fk ρ).bind fun x ρ => (fv ρ).bind fun y ρ => opDisp x y ρ
end
theorem SepW.newDct {K : PySem.W.Frag} {H : Hp} {L : List VT} {ws : List Addr} {p : Addr} (s : SepW K H L ws) (h : H p = none) (hs : (p == sysModules) = false) : SepW K (upd H p (.ext (dPhi p []))) ((.ref p, (true, .dct [])) :: L) (p :: ws) :=
  ⟨.cons (w := [p]) (.dct (vs := []) upd_same ⟨hs, List.nodup_nil, .nil, rfl, fun x hx => by cases hx⟩ .nil .nil) (s.own.mono (Kp.laidO h) fun b hb => upd_ne fun e => s.fresh h (e ▸ hb)), List.nodup_cons.mpr ⟨s.fresh h, s.nd⟩⟩
theorem dPhi_new (h : Heap) : dPhi h.objs.size [] (h.push { cls := .type "dict", data := .dict #[] }) := ⟨_, #[], 0, Heap.get?_push_size _ rfl, ⟨rfl, rfl, rfl⟩, rfl, fun _ => rfl⟩
section
variable {X : Cx} {W : WX} {k v : Expr} {fk fv : Env → R XV} {pos : Pos}
theorem se_disp1 (hu : X.A.units + 65 < cLine) (hk : SE X W k fk) (hv : SE X W v fv) : SE X W (.Dict [some k] [v] pos) (sDisp fk fv) := by
  refine ⟨fun pins s σ H Q I h => ?_⟩
  obtain ⟨ρ, hs, st, h⟩ := h
  have hn := I.hok.fresh (Nat.le_refl s.heap.objs.size)
  have hsys : (s.heap.objs.size == sysModules) = false := beq_eq_false_iff_ne.mpr (Ne.symm (Nat.ne_of_lt I.big))
  have I1 : L2.Inv X pins σ (upd H s.heap.objs.size (.ext (dPhi s.heap.objs.size []))) { s with heap := s.heap.push { cls := .type "dict", data := .dict #[] } } := I.laid (t' := s.toks) (fun _ _ q => Heap.get?_push_of_some _ q) (Nat.le_refl _) (dPhi_ok (dPhi_new s.heap))
  have hr : (nestedKind X.prog X.w).room X.A.in1 := by show X.A.units + 1 + 8 < cLine; omega
  have hr0 : (nestedKind X.prog X.w).room X.A := by show X.A.units + 8 < cLine; omega
  have st1 : Stt X.K ([(V.ref s.heap.objs.size, (true, D.dct []))] ++ hs) σ (upd H s.heap.objs.size (.ext (dPhi s.heap.objs.size []))) ρ := ⟨st.ok, by
    obtain ⟨ws, q⟩ := st.sep
    exact Sep.perm List.perm_middle.symm ⟨_, q.newDct hn hsys⟩⟩
  have T : tPairs [(tE X.K W fk, tE X.K W fv)] σ (upd H s.heap.objs.size (.ext (dPhi s.heap.objs.size []))) (fun ps H3 => ∃ x y xs nk d L, ps = [(x, y)] ∧ Sep X.K H3 ((.ref s.heap.objs.size, (true, .dct [])) :: L) ∧ (x, (false, .tup xs)) ∈ L ∧ (y, (false, d)) ∈ L ∧ nkOf (.tup xs) = some nk ∧
      ∀ H', Sep X.K H' ((.ref s.heap.objs.size, (true, .dct [(.tup xs, d)])) :: L) → Q (.ref s.heap.objs.size) H') := by
    refine ⟨ρ, _, st1, fin_mono (fin_bind [(V.ref s.heap.objs.size, (true, D.dct []))] h) fun x H2 ⟨kx, ρ1, hx, s2, h2⟩ => ?_⟩
    rw [← List.append_assoc] at s2
    refine ⟨ρ1, _, s2, fin_mono (fin_bind (hld kx x ++ [(V.ref s.heap.objs.size, (true, D.dct []))]) h2) fun y H3 ⟨vy, ρ2, hy, s3, h3⟩ => ?_⟩
    show ∃ x' y' xs nk d L, [(x, y)] = [(x', y')] ∧ _
    unfold opDisp at h3
    cases ev : view kx ρ2 with
    | none => rw [ev] at h3; exact h3.elim
    | some kd =>
      rw [ev] at h3
      dsimp only at h3
      cases hkn : nkOf kd with
      | none => rw [hkn] at h3; exact h3.elim
      | some nk =>
        rw [hkn] at h3
        dsimp only at h3
        obtain ⟨⟨xs, rfl⟩, hk1, hk2⟩ := nkOf_ok hkn
        obtain ⟨o1, m1⟩ := s3.mem hx (fun p hp => by simp [hp]) ev
        have s3' : Stt X.K ((x, (false, D.tup xs)) :: (hld vy y ++ ([(V.ref s.heap.objs.size, (true, D.dct []))] ++ hs))) σ H3 ρ2 := by
          obtain ⟨ws, q⟩ := s3.sep
          obtain ⟨ka, _, rk⟩ := q.tupR m1
          refine ⟨s3.ok, ?_⟩
          have q2 : Sep X.K H3 (((x, (false, D.tup xs)) :: (slotsL σ ρ2 ++ hld vy y)) ++ (hld kx x ++ ([(V.ref s.heap.objs.size, (true, D.dct []))] ++ hs))) := ⟨ws, by
            have := q.pure rk
            simpa using this⟩
          have q4 := q2.drop_mid
          have q5 : Sep X.K H3 ((x, (false, D.tup xs)) :: (slotsL σ ρ2 ++ (hld vy y ++ ([(V.ref s.heap.objs.size, (true, D.dct []))] ++ hs)))) := by simpa using q4
          exact q5.perm List.perm_middle.symm
        cases ez : frz vy ρ2 with
        | bad => rw [ez] at h3; exact h3.elim
        | exc c ρ4 => exact (frz_exc ez).elim
        | ok d ρ4 =>
          rw [ez] at h3
          have h4 : fin X.K W hs σ (.ok (.v true (.dct [(.tup xs, d)])) ρ4) Q := h3
          have s5 : Stt X.K ((y, (false, d)) :: ((x, (false, D.tup xs)) :: ([(V.ref s.heap.objs.size, (true, D.dct []))] ++ hs))) σ H3 ρ4 := by
            refine frz_ok (s3'.perm ?_) hy ez
            exact List.perm_middle.symm
          refine ⟨x, y, xs, nk, d, slotsL σ ρ4 ++ ((y, (false, d)) :: (x, (false, D.tup xs)) :: hs), rfl, ?_, by simp, by simp, hkn, fun H' q => ?_⟩
          · refine s5.sep.perm ?_
            have e : slotsL σ ρ4 ++ ((y, (false, d)) :: ((x, (false, D.tup xs)) :: ([(V.ref s.heap.objs.size, (true, D.dct []))] ++ hs))) = (slotsL σ ρ4 ++ [(y, (false, d)), (x, (false, D.tup xs))]) ++ ((V.ref s.heap.objs.size, (true, D.dct [])) :: hs) := by simp
            rw [e]
            refine List.perm_middle.trans ?_
            simp
          · refine h4 _ H' trivial ⟨s5.ok, ?_⟩
            have q2 : Sep X.K H' (((V.ref s.heap.objs.size, (true, D.dct [(.tup xs, d)])) :: slotsL σ ρ4) ++ ([(y, (false, d)), (x, (false, D.tup xs))] ++ hs)) := q
            have q3 := q2.drop_mid
            exact q3.perm List.perm_middle.symm
  have hp := pps_cons (pos := pos) hk hv pps_nil
  rw [arm_eval_Dict, zip_pairTrees [some k] [v] X.env pos rfl rfl, dictDisplay_pairs (pairTrees [some k] [v] X.env pos) (by simp [pairTrees]) (by simp [pairTrees])]
  refine wpAny_bind (wpAny_standAt (wpAny_bind (wpAny_subDictH (knd := nestedKind X.prog X.w) (Q := fun d s' => wpAny (model X.prog X.w) X.A (pure (Value.ref d)) (EP X pins σ Q) X.xe s') hr0 (by simp [pairTrees])
    (thn (hp.run pins _ σ _ _ I1 T) fun us s2 ⟨ps, H2, I2, rel, x, y, xs, nk, d, L, e, sep, m1, m2, hkn, q⟩ => ?_))))
  subst e
  cases rel with
  | @cons a b as bs r t =>
  cases t
  obtain ⟨b1, b2⟩ := b
  obtain ⟨r1, r2⟩ := r
  obtain ⟨_, hk1, hk2⟩ := nkOf_ok hkn
  obtain ⟨ws, w⟩ := sep
  obtain ⟨ka, rfl, rk⟩ := w.tupR (List.mem_cons_of_mem _ m1)
  cases r1
  obtain ⟨a, es, vs, ea, hH, f, k1, k2⟩ := w.dct List.mem_cons_self
  cases ea
  have hes : es = [] := by have := congrArg List.length f.keys; exact List.length_eq_zero_iff.mp (by simpa using this)
  subst hes
  have hm := dict_of I2 hH f k1
  have rd : Rep X.K H2 (· ∈ ws) y d := w.rep (List.mem_cons_of_mem _ m2)
  refine ⟨[(nk, ka, b2)], ⟨rfl, rfl, ⟨rep_nk I2 rk hk1 rfl, hk2⟩, trivial⟩, hm, fun h' tk hm' hsb => wpAny_pure ?_⟩
  obtain ⟨vs', f', k1', k2'⟩ := f.put k1 k2 hk1 hk2 rk r2 rd
  have hphi := dPhi_of hm' (keys_T f'.keys)
  have hex : ∃ o, h'.get? s.heap.objs.size = some o := let ⟨o, _, _, e, _⟩ := hphi; ⟨o, e⟩
  refine ⟨.ref s.heap.objs.size, _, I2.write (x := s.heap.objs.size) (e := s.heap.objs.size) (by rw [hH]; exact True.intro) (.inl rfl) (fun b ob hb z => (hsb.2 b hb).trans z) hex (dPhi_ok hphi), rfl, ?_⟩
  exact q _ ⟨ws, w.chgDct f' k1' k2'⟩
end
section
variable {X : Cx} {W : WX} {pin : List Nat}
end
section
variable {ρ : Env} {i : Nat}
def dspK2 (k d : D) (ρ : Env) : R XV := .ok (.v true (.dct [(k, d)])) ρ
@[simp] theorem dspK2_ev {k d : D} : dspK2 k d ρ = .ok (.v true (.dct [(k, d)])) ρ := rfl
def dspK1 (y : XV) (ρ : Env) (k : D) : Option NestedKey → R XV
  | some _ => (frz y ρ).bind (dspK2 k)
  | none => .bad
@[simp] theorem dspK1_s {y : XV} {k : D} {nk : NestedKey} : dspK1 y ρ k (some nk) = (frz y ρ).bind (dspK2 k) := rfl
def dspK (y : XV) (ρ : Env) : Option D → R XV
  | some k => dspK1 y ρ k (nkOf k)
  | none => .bad
@[simp] theorem dspK_s {y : XV} {k : D} : dspK y ρ (some k) = dspK1 y ρ k (nkOf k) := rfl
@[simp] theorem opDisp_ev {x y : XV} : opDisp x y ρ = dspK y ρ (view x ρ) := by
  unfold opDisp dspK
  cases view x ρ with
  | none => rfl
  | some k =>
    dsimp only
    unfold dspK1
    cases nkOf k <;> rfl
def dspB (fv : Env → R XV) (x : XV) (ρ : Env) : R XV := (fv ρ).bind (opDisp x)
@[simp] theorem dspB_ev {fv : Env → R XV} {x : XV} : dspB fv x ρ = (fv ρ).bind (opDisp x) := rfl
@[simp] theorem sDisp_ev {fk fv : Env → R XV} : sDisp fk fv ρ = (fk ρ).bind (dspB fv) := rfl
def stT3 (i : Nat) (k : D) (nk : NestedKey) (d : D) (ρ : Env) : Option T → R Fl
  | some (true, .dct kvs) => if kvs.length < lim then .ok .nx (pt ρ i (some (true, .dct (dPut kvs k nk d)))) else .bad
  | _ => .bad
@[simp] theorem stT3_s {k d : D} {nk : NestedKey} {kvs : List (D × D)} : stT3 i k nk d ρ (some (true, .dct kvs)) = if kvs.length < lim then .ok .nx (pt ρ i (some (true, .dct (dPut kvs k nk d)))) else .bad := rfl
def stT2 (i : Nat) (k : D) (nk : NestedKey) (d : D) (ρ : Env) : R Fl := stT3 i k nk d ρ (gt ρ i)
@[simp] theorem stT2_ev {k d : D} {nk : NestedKey} : stT2 i k nk d ρ = stT3 i k nk d ρ (gt ρ i) := rfl
def stT1 (i : Nat) (y : XV) (ρ : Env) (k : D) : Option NestedKey → R Fl
  | some nk => (frz y ρ).bind (stT2 i k nk)
  | none => .bad
@[simp] theorem stT1_s {y : XV} {k : D} {nk : NestedKey} : stT1 i y ρ k (some nk) = (frz y ρ).bind (stT2 i k nk) := rfl
def stT0 (i : Nat) (y : XV) (ρ : Env) : Option D → R Fl
  | some k => stT1 i y ρ k (nkOf k)
  | none => .bad
@[simp] theorem stT0_s {y : XV} {k : D} : stT0 i y ρ (some k) = stT1 i y ρ k (nkOf k) := rfl
def stTc (x y z : XV) (ρ : Env) : R Fl := opSetT x z y ρ
@[simp] theorem stTc_b {z y : XV} : stTc (.b i) y z ρ = stT0 i y ρ (view z ρ) := by
  unfold stTc opSetT stT0
  cases view z ρ with
  | none => rfl
  | some k =>
    dsimp only
    unfold stT1
    cases nkOf k with
    | none => rfl
    | some nk =>
      dsimp only
      congr 1
      try (funext d ρ
           unfold stT2 stT3
           cases gt ρ i with
           | none => rfl
           | some t => obtain ⟨o, d⟩ := t; cases o <;> cases d <;> rfl)
def stTb (fi : Env → R XV) (y x : XV) (ρ : Env) : R Fl := (fi ρ).bind (stTc x y)
@[simp] theorem stTb_ev {fi : Env → R XV} {y x : XV} : stTb fi y x ρ = (fi ρ).bind (stTc x y) := rfl
def stTa (fo fi : Env → R XV) (y : XV) (ρ : Env) : R Fl := (fo ρ).bind (stTb fi y)
@[simp] theorem stTa_ev {fo fi : Env → R XV} {y : XV} : stTa fo fi y ρ = (fo ρ).bind (stTb fi y) := rfl
@[simp] theorem xSetT_ev {fe fo fi : Env → R XV} : xSetT fe fo fi ρ = (fe ρ).bind (stTa fo fi) := rfl
end
section
variable {X : Cx} {W : WX} {pin : List Nat} {e o i : Expr} {fe fo fi : Env → R XV} {pos p2 : Pos}
theorem siT (hu : X.A.units + 65 < cLine) (he : SE X W e fe) (ho : SE X W o fo) (hi : SE X W i fi) (hs : swapsWithSole [.Subscript o i p2] e pos.line X.env = pure false := by rfl) (hw : swappedStores [.Subscript o i p2] e X.env = pure none := by rfl)
    (h1 : (assignEach [.Subscript o i p2] X.env).map (·.2) = [assign (.Subscript o i p2) X.env] := by rfl)
    (ha : ∀ v, assign (.Subscript o i p2) X.env v = (do
      let ov ← holding [v] (eval o X.env)
      let iv ← holding [v, ov] (eval i X.env)
      standAt p2
      holding [v, ov, iv] (setItem ov iv v)
      release [v, ov, iv] []) := by intro _; rfl) : SS X W pin (.Assign [.Subscript o i p2] e pos) (xSetT fe fo fi) := ss_setT hu he ho hi hs hw h1 ha
end
end Lz
namespace Lz
open PySem PySem.Spec PyProof.Rows L2
section
variable {X : Cx}
variable {xs : List Str} {pin : List Nat} {i : Nat} {a : Addr} {oe : Obj} {cls : Value} {d : Option Addr} {pn : List (Addr × Obj)} {e : Expr} {B : Str → Bool} {p p2 p3 p4 p5 : Pos} {z : Str} {j : Nat}
end
end Lz
namespace Lz
open PySem PySem.Spec PyProof.Rows L2
theorem SepW.dk {K : PySem.W.Frag} {H : Hp} {L : List VT} {ws : List Addr} {v : V} {o : Bool} {kvs : List (Key × D)} (s : SepW K H L ws) (hm0 : (v, (o, D.dk kvs)) ∈ L) :
    ∃ (a : Addr) (es : List (Key × V)), v = .ref a ∧ Rd H a (.dK es) ∧ es.map (·.1) = kvs.map (·.1) ∧ RepAll K H (· ∈ ws) (es.map (·.2)) (kvs.map (·.2)) := by
  obtain ⟨w, q, _⟩ := s.own.get hm0
  cases q with
  | pure r =>
    cases r with
    | dk n h f r => exact ⟨_, _, rfl, h, f, r⟩
  | dk h f r => exact ⟨_, _, rfl, .inl h, f, r⟩
theorem SepW.dkO {K : PySem.W.Frag} {H : Hp} {L : List VT} {ws : List Addr} {v : V} {kvs : List (Key × D)} (s : SepW K H L ws) (hm0 : (v, (true, D.dk kvs)) ∈ L) :
    ∃ (a : Addr) (es : List (Key × V)), v = .ref a ∧ H a = some (.dK es) ∧ es.map (·.1) = kvs.map (·.1) ∧ RepAll K H (· ∈ ws) (es.map (·.2)) (kvs.map (·.2)) := by
  obtain ⟨w, q, _⟩ := s.own.get hm0
  cases q with
  | dk h f r => exact ⟨_, _, rfl, h, f, r⟩
/-- the key that an int, a text is -/
def kdOf : D → Option Key
  | .int i => some (.inl i)
  | .str s => some (.inr s)
  | _ => none
theorem SepW.key {K : PySem.W.Frag} {H : Hp} {L : List VT} {ws : List Addr} {v : V} {o : Bool} {d : D} {k : Key} (s : SepW K H L ws) (hm0 : (v, (o, d)) ∈ L) (h : kdOf d = some k) : v = kV k := by
  cases d <;> first | (cases h; done) | skip
  · cases h
    exact s.int hm0
  · cases h
    exact s.str hm0
def kGet : List (Key × D) → Key → Option D
  | [], _ => none
  | p :: r, k => if p.1 = k then some p.2 else kGet r k
def kSet : List (Key × D) → Key → D → List (Key × D)
  | [], _, _ => []
  | p :: r, k, d => (if p.1 = k then (p.1, d) else p) :: kSet r k d
def kPut (kvs : List (Key × D)) (k : Key) (d : D) : List (Key × D) := if (kGet kvs k).isSome = true then kSet kvs k d else kvs ++ [(k, d)]
section
variable {K : PySem.W.Frag} {H : Hp} {av : Addr → Prop} {k : Key}
theorem kGet_at : ∀ {es : List (Key × V)} {kvs : List (Key × D)}, es.map (·.1) = kvs.map (·.1) → RepAll K H av (es.map (·.2)) (kvs.map (·.2)) → (kGet kvs k = none → valV es k = none) ∧ ∀ d, kGet kvs k = some d → ∃ v, valV es k = some v ∧ Rep K H av v d
  | [], [], _, _ => ⟨fun _ => rfl, fun d h => by cases h⟩
  | [], _ :: _, h, _ => by cases h
  | _ :: _, [], h, _ => by cases h
  | e :: es, p :: kvs, h, r => by
    simp only [List.map_cons, List.cons.injEq] at h
    rw [List.map_cons, List.map_cons] at r
    cases r with
    | cons r1 r2 =>
      obtain ⟨i1, i2⟩ := kGet_at h.2 r2
      unfold kGet
      by_cases q : p.1 = k
      · rw [if_pos q, valV_pos (by rw [h.1]; exact q)]
        exact ⟨fun x => (by cases x), fun d hd => ⟨_, rfl, (by cases hd; exact r1)⟩⟩
      · rw [if_neg q, valV_neg (by rw [h.1]; exact q)]
        exact ⟨i1, i2⟩
theorem kGet_some {es : List (Key × V)} {kvs : List (Key × D)} (h : es.map (·.1) = kvs.map (·.1)) (r : RepAll K H av (es.map (·.2)) (kvs.map (·.2))) : (valV es k).isSome = (kGet kvs k).isSome := by
  obtain ⟨i1, i2⟩ := kGet_at (k := k) h r
  cases q : kGet kvs k with
  | none => rw [i1 q]; rfl
  | some d => obtain ⟨v, e, _⟩ := i2 d q; rw [e]; rfl
end
def opInK (k d : D) : Option T := match d with
  | .dk kvs => (kdOf k).map fun nk => (false, .bl (kGet kvs nk).isSome)
  | _ => none
def opNotInK (k d : D) : Option T := match d with
  | .dk kvs => (kdOf k).map fun nk => (false, .bl (!(kGet kvs nk).isSome))
  | _ => none
def opIxK (d k : D) : Option T := match d with
  | .dk kvs => (kdOf k).bind fun nk => (kGet kvs nk).map fun x => (false, x)
  | _ => none
section
variable {X : Cx}
theorem or_notInK (hu : X.A.units + 65 < cLine) : OpR X (compareOp .NotIn) (rOp X.K opNotInK) := by
  intro pins s σ H x y v u Q I rx ry ⟨L, d, e, o, o', t, sep, m1, m2, ht, q⟩
  cases e <;> first | (cases ht; done) | skip
  rename_i kvs
  have h' : (kdOf d).map (fun nk => ((false, D.bl (!(kGet kvs nk).isSome)) : T)) = some t := ht
  cases hk : kdOf d with
  | none => rw [hk] at h'; cases h'
  | some nk =>
    rw [hk] at h'
    cases h'
    obtain ⟨ws, w⟩ := sep
    obtain ⟨a, es, rfl, hH, f, r⟩ := w.dk m2
    have ek := w.key m1 hk
    cases ry
    refine d_notIn (by omega) I (.inl ⟨es, nk, hH, rfl, rfl⟩) (by rw [← ek]; exact rx) fun s' I' => ⟨.bl (!(valV es nk).isSome), H, I', rfl, ?_⟩
    rw [kGet_some f r]
    exact q _ _ (Sep.cBl ⟨ws, w⟩ _)
theorem ir_ixK (hu : X.A.units + 65 < cLine) : IxR X (rOp X.K opIxK) := by
  intro value slice pins s σ H x y v u Q I rx ry ⟨L, d, e, o, o', t, sep, m1, m2, ht, q⟩ hs
  cases d <;> first | (cases ht; done) | skip
  rename_i kvs
  have h' : (kdOf e).bind (fun nk => (kGet kvs nk).map fun x => ((false, x) : T)) = some t := ht
  cases hk : kdOf e with
  | none => rw [hk] at h'; cases h'
  | some nk =>
    rw [hk] at h'
    have h3 : (kGet kvs nk).map (fun x => ((false, x) : T)) = some t := h'
    cases hg : kGet kvs nk with
    | none => rw [hg] at h3; cases h3
    | some dv =>
      rw [hg] at h3
      cases h3
      obtain ⟨ws, w⟩ := sep
      obtain ⟨a, es, rfl, hH, f, r⟩ := w.dk m1
      have ek := w.key m2 hk
      cases rx
      obtain ⟨i1, i2⟩ := kGet_at (k := nk) f r
      obtain ⟨vv, hv, rd⟩ := i2 dv hg
      have g : DGet H a (kV nk) (some vv) := by rw [← hv]; exact .inl ⟨es, nk, hH, rfl, rfl⟩
      exact tail_any (dict_typeIs I g) PySem.F.slot_dict_getitem.lookup (d_getItem (by omega) I g (by rw [← ek]; exact ry) fun w' s' I' rw' => ⟨vv, H, I', rw', q _ _ ⟨ws, w.pure rd⟩⟩) hs
end
section
variable {K : PySem.W.Frag} {H : Hp} {av : Addr → Prop} {k : Key} {v : V} {d : D}
theorem kAny {es : List (Key × V)} : (es.any fun kv => decide (kv.1 = k)) = (valV es k).isSome := valV_any k es
theorem kSet_ok (rd : Rep K H av v d) : ∀ {es : List (Key × V)} {kvs : List (Key × D)}, es.map (·.1) = kvs.map (·.1) → RepAll K H av (es.map (·.2)) (kvs.map (·.2)) →
    (es.map fun kv => if kv.1 = k then (kv.1, v) else kv).map (·.1) = (kSet kvs k d).map (·.1) ∧ RepAll K H av ((es.map fun kv => if kv.1 = k then (kv.1, v) else kv).map (·.2)) ((kSet kvs k d).map (·.2))
  | [], [], _, _ => ⟨rfl, .nil⟩
  | [], _ :: _, h, _ => by cases h
  | _ :: _, [], h, _ => by cases h
  | e :: es, p :: kvs, h, r => by
    simp only [List.map_cons, List.cons.injEq] at h
    rw [List.map_cons, List.map_cons] at r
    cases r with
    | cons r1 r2 =>
      obtain ⟨i1, i2⟩ := kSet_ok rd h.2 r2
      unfold kSet
      by_cases q : p.1 = k
      · have q2 : e.1 = k := by rw [h.1]; exact q
        simp only [List.map_cons, if_pos q, if_pos q2]
        exact ⟨by rw [i1, h.1], .cons rd i2⟩
      · have q2 : ¬ e.1 = k := by rw [h.1]; exact q
        simp only [List.map_cons, if_neg q, if_neg q2]
        exact ⟨by rw [i1, h.1], .cons r1 i2⟩
theorem kPut_ok {es : List (Key × V)} {kvs : List (Key × D)} (rd : Rep K H av v d) (h : es.map (·.1) = kvs.map (·.1)) (r : RepAll K H av (es.map (·.2)) (kvs.map (·.2))) :
    (putK es k v).map (·.1) = (kPut kvs k d).map (·.1) ∧ RepAll K H av ((putK es k v).map (·.2)) ((kPut kvs k d).map (·.2)) := by
  have e := kGet_some (k := k) h r
  unfold putK kPut
  rw [kAny, e]
  by_cases q : (kGet kvs k).isSome = true
  · rw [if_pos q, if_pos q]
    exact kSet_ok rd h r
  · rw [if_neg q, if_neg q]
    refine ⟨by simp [h], ?_⟩
    rw [List.map_append, List.map_append]
    exact r.append (.cons rd .nil)
end
theorem SepW.chgDk {K : PySem.W.Frag} {H : Hp} {L : List VT} {ws : List Addr} {a : Addr} {kvs0 kvs : List (Key × D)} {es : List (Key × V)} (s : SepW K H ((.ref a, (true, .dk kvs0)) :: L) ws) (f : es.map (·.1) = kvs.map (·.1))
    (r : RepAll K H (· ∈ ws) (es.map (·.2)) (kvs.map (·.2))) : SepW K (upd H a (.dK es)) ((.ref a, (true, .dk kvs)) :: L) ws := by
  obtain ⟨h, n⟩ := s
  cases h with
  | @cons _ _ _ w ws' h t =>
    have ew : w = [a] := by cases h <;> rfl
    subst ew
    have n1 := (List.nodup_cons.mp n).1
    have k : Kp H (upd H a (.dK es)) (· ∈ [a] ++ ws') (· ∈ [a] ++ ws') := ⟨fun b o q nb => by
      have ne : b ≠ a := fun e => nb (by rw [e]; simp)
      rw [upd_ne ne]; exact q, fun _ q => .inl q⟩
    exact ⟨.cons (.dk upd_same f (r.mono k)) (t.mono k fun b hb => upd_ne fun e => n1 (by rw [← e]; exact hb)), n⟩
def rSetK (K : PySem.W.Frag) (o i v : V) (H : Hp) (Q : Hp → Prop) : Prop := ∃ L kvs k nk oi d, Sep K H ((o, (true, .dk kvs)) :: L) ∧ (i, (oi, k)) ∈ L ∧ (v, (false, d)) ∈ L ∧ kdOf k = some nk ∧ kvs.length < lim ∧ ∀ H', Sep K H' ((o, (true, .dk (kPut kvs nk d))) :: L) → Q H'
section
variable {X : Cx}
theorem set_dk (hu : X.A.units + 65 < cLine) : PSet X (rSetK X.K) := by
  intro pins s σ H o i v ov iv u Q I ro ri rv ⟨L, kvs, k, nk, oi, d, sep, mi, mv, hk, hl, q⟩
  obtain ⟨ws, w⟩ := sep
  have ek := w.key (List.mem_cons_of_mem _ mi) hk
  obtain ⟨a, es, rfl, hH, f, r⟩ := w.dkO List.mem_cons_self
  have rd : Rep X.K H (· ∈ ws) v d := w.rep (List.mem_cons_of_mem _ mv)
  cases ro
  have hlen : es.length = kvs.length := by have := congrArg List.length f; simpa using this
  obtain ⟨f', r'⟩ := kPut_ok (k := nk) rd f r
  exact d_setItem (by omega) I (DPut.k (k := nk) (v := v) hH (by rw [hlen]; exact hl)) (by rw [← ek]; exact ri) rv fun s' I' => ⟨upd H a (.dK (putK es nk v)), I', q _ ⟨ws, w.chgDk f' r'⟩⟩
def opSetK (x z y : XV) (ρ : Env) : R Fl := match x, view z ρ with
  | .b j, some k => (match kdOf k with
    | some nk => (frz y ρ).bind fun d ρ => (match gt ρ j with
      | some (true, .dk kvs) => if kvs.length < lim then .ok .nx (pt ρ j (some (true, .dk (kPut kvs nk d)))) else .bad
      | _ => .bad)
    | none => .bad)
  | _, _ => .bad
def xSetK (fe fo fi : Env → R XV) (ρ : Env) : R Fl := (fe ρ).bind fun y ρ => (fo ρ).bind fun x ρ => (fi ρ).bind fun z ρ => opSetK x z y ρ
theorem kdOf_pure {K : PySem.W.Frag} {H : Hp} {L : List VT} {ws : List Addr} {v : V} {d : D} {k : Key} (s : SepW K H L ws) (ek : v = kV k) (h : kdOf d = some k) : SepW K H ((v, (false, d)) :: L) ws := by
  cases d <;> first | (cases h; done) | skip
  · cases h; subst ek; exact s.pure (.int _)
  · cases h; subst ek; exact s.pure (.str _)
end
section
variable {X : Cx} {W : WX} {pin : List Nat} {e o i : Expr} {fe fo fi : Env → R XV} {pos p2 : Pos}
theorem siK (hu : X.A.units + 65 < cLine) (he : SE X W e fe) (ho : SE X W o fo) (hi : SE X W i fi) (hs : swapsWithSole [.Subscript o i p2] e pos.line X.env = pure false := by rfl) (hw : swappedStores [.Subscript o i p2] e X.env = pure none := by rfl)
    (h1 : (assignEach [.Subscript o i p2] X.env).map (·.2) = [assign (.Subscript o i p2) X.env] := by rfl)
    (ha : ∀ v, assign (.Subscript o i p2) X.env v = (do
      let ov ← holding [v] (eval o X.env)
      let iv ← holding [v, ov] (eval i X.env)
      standAt p2
      holding [v, ov, iv] (setItem ov iv v)
      release [v, ov, iv] []) := by intro _; rfl) : SS X W pin (.Assign [.Subscript o i p2] e pos) (xSetK fe fo fi) := by
  refine PS.weak (ps_asg he (pg_sub ho hi (set_dk hu) ha) hs hw h1) fun E σ H h => ?_
  obtain ⟨ρ, hs, σ0, s, hp, h⟩ := h
  refine ⟨ρ, hs, s, fin_mono (finS_bind h hp) fun u H1 ⟨y, ρ1, hy, s1, h1⟩ => ?_⟩
  refine ⟨ρ1, _, s1, fin_mono (finS_bindA (hld y u) h1 hp) fun v H2 ⟨x, ρ2, hx, s2, h2⟩ => ?_⟩
  rw [← List.append_assoc] at s2
  refine ⟨ρ2, _, s2, fin_mono (finS_bindA (hld x v ++ hld y u) h2 hp) fun w H3 ⟨z, ρ3, hz, s3, h3⟩ => ?_⟩
  unfold opSetK at h3
  cases x with
  | v _ _ => exact h3.elim
  | b j =>
    cases ev : view z ρ3 with
    | none => rw [ev] at h3; exact h3.elim
    | some k =>
      rw [ev] at h3
      dsimp only at h3
      cases hk : kdOf k with
      | none => rw [hk] at h3; exact h3.elim
      | some nk =>
        rw [hk] at h3
        dsimp only at h3
        obtain ⟨o1, m1⟩ := s3.mem hz (fun p hp => by simp [hp]) ev
        have s3' : Stt X.K ((w, (false, k)) :: (hld y u ++ hs)) σ H3 ρ3 := by
          obtain ⟨ws, q⟩ := s3.sep
          have ek := q.key m1 hk
          have q2 : Sep X.K H3 ((w, (false, k)) :: (slotsL σ ρ3 ++ (hld z w ++ (hld (.b j) v ++ hld y u ++ hs)))) := ⟨ws, kdOf_pure q ek hk⟩
          refine ⟨s3.ok, ?_⟩
          have q3 : Sep X.K H3 ((w, (false, k)) :: (slotsL σ ρ3 ++ (hld y u ++ hs))) := by
            have q4 := Sep.drop_mid (A := (w, (false, k)) :: slotsL σ ρ3) (B := hld z w) (C := hld (.b j) v ++ hld y u ++ hs) q2
            simpa [hld] using q4
          exact q3.perm List.perm_middle.symm
        cases ez : frz y ρ3 with
        | bad => rw [ez] at h3; exact h3.elim
        | exc c ρ4 => exact (frz_exc ez).elim
        | ok d ρ4 =>
          rw [ez] at h3
          have h4 : finS X.K W hs pin σ0 (match gt ρ4 j with
            | some (true, .dk kvs) => if kvs.length < lim then .ok .nx (pt ρ4 j (some (true, .dk (kPut kvs nk d)))) else .bad
            | _ => .bad) E := h3
          have s5 : Stt X.K ((u, (false, d)) :: ((w, (false, k)) :: hs)) σ H3 ρ4 := by
            refine frz_ok (s3'.perm ?_) hy ez
            exact List.perm_middle.symm
          have hx' : σ[j]? = some (some v) := hx
          cases eg : gt ρ4 j with
          | none => rw [eg] at h4; exact h4.elim
          | some t =>
            rw [eg] at h4
            obtain ⟨o, dd⟩ := t
            cases o with
            | false => exact h4.elim
            | true =>
              cases dd <;> first | exact h4.elim | skip
              rename_i kvs
              dsimp only at h4
              by_cases hl : kvs.length < lim
              · rw [if_pos hl] at h4
                have hi : j < ρ4.length := gt_lt eg
                have p1 := (slots_take hx' eg).append_right ((u, (false, d)) :: (w, (false, k)) :: hs)
                refine ⟨_, kvs, k, nk, false, d, s5.sep.perm p1, ?_, ?_, hk, hl, fun H' q => ?_⟩
                · simp
                · simp
                · refine h4 σ H' ⟨s5.ok.keep j hx', ?_⟩ hp
                  have q2 : Sep X.K H' (((v, (true, D.dk (kPut kvs nk d))) :: slotsL σ (pt ρ4 j none)) ++ ([(u, (false, d)), (w, (false, k))] ++ hs)) := q
                  have q3 := q2.drop_mid
                  exact q3.perm ((slots_keep hx' hi).append_right hs).symm
              · rw [if_neg hl] at h4; exact h4.elim
theorem ixK (hu : X.A.units + 65 < cLine) {a b : Expr} {fa fb : Env → R XV} {pos : Pos} (ha : SE X W a fa) (hb : SE X W b fb) (hs : PlainIx b := by exact fun _ _ => rfl) : SE X W (.Subscript a b pos) (sBin opIxK fa fb) := se_ix (ir_ixK hu) ha hb hs
def sDk0 (ρ : Env) : R XV := .ok (.v true (.dk [])) ρ
theorem SepW.newDk {K : PySem.W.Frag} {H : Hp} {L : List VT} {ws : List Addr} {p : Addr} (s : SepW K H L ws) (h : H p = none) : SepW K (upd H p (.dK [])) ((.ref p, (true, .dk [])) :: L) (p :: ws) :=
  ⟨.cons (w := [p]) (.dk upd_same rfl .nil) (s.own.mono (Kp.laidO h) fun b hb => upd_ne fun e => s.fresh h (e ▸ hb)), List.nodup_cons.mpr ⟨s.fresh h, s.nd⟩⟩
end
end Lz
namespace Lz
open PySem PySem.Spec PyProof.Rows L2
section
variable {K : PySem.W.Frag} {H : Hp} {av : Addr → Prop} {a : Addr} {es : List (Key × V)} {od : Obj}
theorem lk_ne {b : Addr} {o : HO} (h : H a = some (.dK es)) (hb : H b = some o) (n : ∀ e, o ≠ .dK e) : upd H a (.frz od (.dK es)) b = some o := by
  by_cases e : b = a
  · subst e; rw [h] at hb; cases hb; exact absurd rfl (n es)
  · rw [upd_ne e]; exact hb
theorem lk_rd {b : Addr} {u : HO} (h : H a = some (.dK es)) (hb : Rd H b u) : Rd (upd H a (.frz od (.dK es))) b u := by
  by_cases e : b = a
  · subst e
    rcases hb with hb | ⟨o, hb⟩
    · rw [h] at hb; cases hb; exact .inr ⟨od, upd_same⟩
    · rw [h] at hb; cases hb
  · rcases hb with hb | ⟨o, hb⟩
    · exact .inl (by rw [upd_ne e]; exact hb)
    · exact .inr ⟨o, by rw [upd_ne e]; exact hb⟩
mutual
theorem Rep.lk (h : H a = some (.dK es)) : ∀ {v : V} {d : D}, Rep K H av v d → Rep K (upd H a (.frz od (.dK es))) av v d
  | _, _, .non => .non
  | _, _, .bl b => .bl b
  | _, _, .int i => .int i
  | _, _, .str x => .str x
  | _, _, .tup n q e r => .tup n (lk_ne h q nofun) e (RepAll.lk h r)
  | _, _, .ktup q r => .ktup q (RepAll.lk h r)
  | _, _, .lst n q r => .lst n (lk_ne h q nofun) (RepAll.lk h r)
  | _, _, .scr n q => .scr n (lk_ne h q nofun)
  | _, _, .kscr q => .kscr q
  | _, _, .obj n q e m r => .obj n (lk_ne h q nofun) e m (RepAll.lk h r)
  | _, _, .ob n q e m r => .ob n (lk_ne h q nofun) e m (RepAll.lk h r)
  | _, _, .dct n q f r1 r2 => .dct n (lk_ne h q nofun) f (RepAll.lk h r1) (RepAll.lk h r2)
  | _, _, .dk n q f r => .dk n (lk_rd h q) f (RepAll.lk h r)
  | _, _, .dkl n q f r => .dkl n (lk_ne h q nofun) f (RepAll.lk h r)
  | _, _, .lol n q r => .lol n (lk_ne h q nofun) (RepAll.lk h r)
  | _, _, .pin n q z => .pin n (lk_ne h q z) z
  | _, _, .fn n => .fn n
  | _, _, .xc n => .xc n
theorem RepAll.lk (h : H a = some (.dK es)) : ∀ {vs : List V} {ds : List D}, RepAll K H av vs ds → RepAll K (upd H a (.frz od (.dK es))) av vs ds
  | _, _, .nil => .nil
  | _, _, .cons q r => .cons (Rep.lk h q) (RepAll.lk h r)
end
theorem OwnFs.lk (h : H a = some (.dK es)) : ∀ {fs : List (Str × V)} {gs : List (Str × Bool × D)} {w : List Addr}, OwnFs K H av fs gs w → OwnFs K (upd H a (.frz od (.dK es))) av fs gs w
  | _, _, _, .nil => .nil
  | _, _, _, .pure r t => .pure (r.lk h) (OwnFs.lk h t)
  | _, _, _, .lst q r t => .lst (lk_ne h q nofun) (r.lk h) (OwnFs.lk h t)
theorem OwnRs.lk (h : H a = some (.dK es)) : ∀ {us : List V} {rs : List D} {w : List Addr}, OwnRs K H av us rs w → OwnRs K (upd H a (.frz od (.dK es))) av us rs w
  | _, _, _, .nil => .nil
  | _, _, _, .cons q r t => .cons (lk_ne h q nofun) (r.lk h) (OwnRs.lk h t)
theorem Own.lk (h : H a = some (.dK es)) {v : V} {t : T} {w : List Addr} (hw : a ∉ w) (q : Own K H av v t w) : Own K (upd H a (.frz od (.dK es))) av v t w := by
  cases q with
  | pure r => exact .pure (r.lk h)
  | lst q r => exact .lst (lk_ne h q nofun) (r.lk h)
  | obj q e m r => exact .obj (lk_ne h q nofun) e m (r.lk h)
  | ob q e r => exact .ob (lk_ne h q nofun) e (r.lk h)
  | dct q f r1 r2 => exact .dct (lk_ne h q nofun) f (r1.lk h) (r2.lk h)
  | dk q f r => exact .dk (by rw [upd_ne (fun e => hw (by rw [← e]; simp))]; exact q) f (r.lk h)
  | lol q r => exact .lol (lk_ne h q nofun) (r.lk h)
  | pin q z => exact .pin (lk_ne h q z) z
theorem OwnAll.lk (h : H a = some (.dK es)) : ∀ {L : List VT} {ws : List Addr}, a ∉ ws → OwnAll K H av L ws → OwnAll K (upd H a (.frz od (.dK es))) av L ws
  | _, _, _, .nil => .nil
  | _, _, hw, .cons q t => .cons (q.lk h fun m => hw (List.mem_append_left _ m)) (OwnAll.lk h (fun m => hw (List.mem_append_right _ m)) t)
theorem SepW.lk {L : List VT} {ws : List Addr} (h : H a = some (.dK es)) (hw : a ∉ ws) (s : SepW K H L ws) : SepW K (upd H a (.frz od (.dK es))) L ws := ⟨s.own.lk h hw, s.nd⟩
end
section
variable {X : Cx} {W : WX} {tg e : Expr} {td : TE}
end
/-- the data that a key is -/
def kD : Key → D
  | .inl i => .int i
  | .inr z => .str z
end Lz
namespace Lz
open PySem PySem.Spec PyProof.Rows L2 RZ
/-- the new pair at a turn -/
def NewPair (H H' : Hp) (v x y : V) : Prop := ∃ (T : Addr) (o : Obj), v = .ref T ∧ H T = none ∧ o.dict = none ∧ H' = upd H T (.frz o (.tup [x, y]))
theorem NewPair.of {X : Cx} {pins : List (Addr × Obj)} {σ : Sg} {H : Hp} {s : Shared} {x y : V} {u u2 : Value} {ch : List Addr} {h'' : Heap} {t' : Nat} (I : L2.Inv X pins σ H s) (ru : RelV x u) (ru2 : RelV y u2)
    (k : ∀ b o, b ∉ ch → s.heap.get? b = some o → h''.get? b = some o) (hf : ∀ b ∈ ch, FpOk X pins H b) (hT : h''.get? s.heap.objs.size = some { cls := .type "tuple", data := .seq #[u, u2] }) :
    ∃ H', L2.Inv X pins σ H' { s with heap := h'', toks := t' } ∧ NewPair H H' (.ref s.heap.objs.size) x y ∧ ∀ b, b < s.heap.objs.size → H' b = H b :=
  ⟨_, I.turnedNew (ch := ch) (T := s.heap.objs.size) (ob := .frz { cls := .type "tuple", data := .seq #[u, u2] } (.tup [x, y])) k hf (Nat.le_refl _)
    ⟨hT, by show 2 ≤ sizeLine; decide, [u, u2], .cons ru (.cons ru2 .nil), ⟨_, hT, rfl, _, rfl⟩⟩, ⟨_, _, rfl, I.hok.fresh (Nat.le_refl _), rfl, rfl⟩, fun b hb => upd_ne (Nat.ne_of_lt hb)⟩
def ItzF (K : PySem.W.Frag) (a b : Addr) : It :=
  ⟨(Itz K a b).go, fun i H v H' => ∃ x y, NewPair H H' v x y ∧ (∀ xs, SqL K H a xs → xs[i]? = some x) ∧ ∀ ys, SqL K H b ys → ys[i]? = some y, (Itz K a b).stop⟩
def ItzTF (K : PySem.W.Frag) (a b : Addr) : It :=
  ⟨(ItzT K a b).go, fun i H v H' => ∃ x y, NewPair H H' v x y ∧ (∀ xs, SqT K H a xs → xs[i]? = some x) ∧ ∀ ys, SqT K H b ys → ys[i]? = some y, (ItzT K a b).stop⟩
section
variable {P : Program} {w : World} {K : PySem.W.Frag} {elts : List Expr} {kk : Nat} {tpos : Pos} {a b z TI TO i1 i2 : Addr}
theorem turn_zipF (D : ZipApart z TI TO i1 i2 a b) : Turn P w K (.Tuple elts kk tpos) (ItzF K a b) [z, TI, TO, i1, i2] z (fun i h => IsZip h z TI TO .none ∧ IsPair h TI (.ref i1) (.ref i2) ∧ (∃ x y, IsPair h TO x y) ∧ h.IsListIter i1 a i ∧ h.IsListIter i2 b i) where
  mem := (turn_zip (P := P) (w := w) (K := K) (elts := elts) (kk := kk) (tpos := tpos) D).mem
  obj := (turn_zip (P := P) (w := w) (K := K) (elts := elts) (kk := kk) (tpos := tpos) D).obj
  keep := (turn_zip (P := P) (w := w) (K := K) (elts := elts) (kk := kk) (tpos := tpos) D).keep
  done := (turn_zip (P := P) (w := w) (K := K) (elts := elts) (kk := kk) (tpos := tpos) D).done
  self := (turn_zip (P := P) (w := w) (K := K) (elts := elts) (kk := kk) (tpos := tpos) D).self
  item := by
    intro X e1 e2 e3 hc i pins s σ H E I hf st ⟨xs, ys, x, y, q1, q2, g1, g2⟩
    subst e1 e2 e3
    have lt := (turn_zip (P := X.prog) (w := X.w) (K := X.K) (elts := elts) (kk := kk) (tpos := tpos) D).obj i s.heap st
    obtain ⟨hz, hI, ⟨x0, y0, hO⟩, h1, h2⟩ := st
    obtain ⟨l1, r1, p1, _⟩ := I.list q1
    obtain ⟨l2, r2, p2, _⟩ := I.list q2
    obtain ⟨u, gu, ru⟩ := r1.get g1
    obtain ⟨v, gv, rv⟩ := r2.get g2
    refine wpAny_pyNext_zip_item D hz hI hO h1 h2 p1.isList p2.isList (x := u) (y := v) (by simpa using gu) (by simpa using gv) fun h' z1 o1 j1 j2 hT _ k1 => ⟨_, rfl, wpAny_letOwnedTupleGo_zip (s := { s with heap := h' }) z1 fun h'' z2 k2 => ?_⟩
    obtain ⟨H', I', np, kH⟩ := NewPair.of (ch := [z, TI, TO, i1, i2]) (h'' := h'') (t' := s.toks) I ru rv (fun c o nc q => (k2.2 c fun e => nc (by simp [e])).trans (k1 c o (fun e => nc (by simp [e])) (fun e => nc (by simp [e])) (fun e => nc (by simp [e])) (fun e => nc (by simp [e])) q)) hf
      ((k2.2 _ (Nat.ne_of_gt (Heap.lt_size hz))).trans hT)
    refine ⟨.ref s.heap.objs.size, H', I', (rfl : RelV (.ref s.heap.objs.size) (.ref s.heap.objs.size)), ⟨x, y, np, fun l hl => by rw [I.list_inj hl q1]; exact g1, fun l hl => by rw [I.list_inj hl q2]; exact g2⟩, ⟨z2, (k2.2 _ D.TIz).trans (k1 _ _ D.TIz D.TITO D.TIi1 D.TIi2 hI), ⟨u, v, (k2.2 _ D.TOz).trans o1⟩, j1.at fun o q => (k2.2 _ D.i1z).trans q, j2.at fun o q => (k2.2 _ D.i2z).trans q⟩, fun c hc' => ?_⟩
    obtain ⟨o, ho, _⟩ := lt c hc'
    rw [kH c (Heap.lt_size ho)]
    exact (hf c hc').1
theorem turn_zipTF (D : ZipApart z TI TO i1 i2 a b) : Turn P w K (.Tuple elts kk tpos) (ItzTF K a b) [z, TI, TO, i1, i2] z (fun i h => IsZip h z TI TO .none ∧ IsPair h TI (.ref i1) (.ref i2) ∧ (∃ x y, IsPair h TO x y) ∧ h.IsTupleIter i1 a i ∧ h.IsTupleIter i2 b i) where
  mem := (turn_zipT (P := P) (w := w) (K := K) (elts := elts) (kk := kk) (tpos := tpos) D).mem
  obj := (turn_zipT (P := P) (w := w) (K := K) (elts := elts) (kk := kk) (tpos := tpos) D).obj
  keep := (turn_zipT (P := P) (w := w) (K := K) (elts := elts) (kk := kk) (tpos := tpos) D).keep
  done := (turn_zipT (P := P) (w := w) (K := K) (elts := elts) (kk := kk) (tpos := tpos) D).done
  self := (turn_zipT (P := P) (w := w) (K := K) (elts := elts) (kk := kk) (tpos := tpos) D).self
  item := by
    intro X e1 e2 e3 hc i pins s σ H E I hf st ⟨xs, ys, x, y, q1, q2, g1, g2⟩
    subst e1 e2 e3
    have lt := (turn_zipT (P := X.prog) (w := X.w) (K := X.K) (elts := elts) (kk := kk) (tpos := tpos) D).obj i s.heap st
    obtain ⟨hz, hI, ⟨x0, y0, hO⟩, h1, h2⟩ := st
    obtain ⟨l1, r1, p1, _⟩ := I.tuple q1
    obtain ⟨l2, r2, p2, _⟩ := I.tuple q2
    obtain ⟨u, gu, ru⟩ := r1.get g1
    obtain ⟨v, gv, rv⟩ := r2.get g2
    refine pyNext_zipT_item D hz hI hO h1 h2 p1 p2 (x := u) (y := v) (by simpa using gu) (by simpa using gv) fun h' z1 o1 j1 j2 hT _ k1 => ⟨_, rfl, wpAny_letOwnedTupleGo_zip (s := { s with heap := h' }) z1 fun h'' z2 k2 => ?_⟩
    obtain ⟨H', I', np, kH⟩ := NewPair.of (ch := [z, TI, TO, i1, i2]) (h'' := h'') (t' := s.toks) I ru rv (fun c o nc q => (k2.2 c fun e => nc (by simp [e])).trans (k1 c o (fun e => nc (by simp [e])) (fun e => nc (by simp [e])) (fun e => nc (by simp [e])) (fun e => nc (by simp [e])) q)) hf
      ((k2.2 _ (Nat.ne_of_gt (Heap.lt_size hz))).trans hT)
    refine ⟨.ref s.heap.objs.size, H', I', (rfl : RelV (.ref s.heap.objs.size) (.ref s.heap.objs.size)), ⟨x, y, np, fun l hl => by rw [I.tuple_inj hl q1]; exact g1, fun l hl => by rw [I.tuple_inj hl q2]; exact g2⟩, ⟨z2, (k2.2 _ D.TIz).trans (k1 _ _ D.TIz D.TITO D.TIi1 D.TIi2 hI), ⟨u, v, (k2.2 _ D.TOz).trans o1⟩, j1.at fun o q => (k2.2 _ D.i1z).trans q, j2.at fun o q => (k2.2 _ D.i2z).trans q⟩, fun c hc' => ?_⟩
    obtain ⟨o, ho, _⟩ := lt c hc'
    rw [kH c (Heap.lt_size ho)]
    exact (hf c hc').1
end
def iZipF (K : PySem.W.Frag) (ta : TA) : TI := fun σ H R => ta σ H fun vs H1 => ∃ a b xs ys, vs = [.ref a, .ref b] ∧ ((SqL K H1 a xs ∧ SqL K H1 b ys ∧ (xs.length ≤ lim → R (ItzF K a b) H1)) ∨ (SqT K H1 a xs ∧ SqT K H1 b ys ∧ (xs.length ≤ lim → R (ItzTF K a b) H1)))
section
variable {X : Cx} {e e2 : Expr} {ta : TA} {p pos tpos : Pos} {elts : List Expr} {kk : Nat}
theorem fp5 {pins : List (Addr × Obj)} {σ : Sg} {H : Hp} {s : Shared} (I : L2.Inv X pins σ H s) : ∀ c, c ∈ [s.heap.objs.size + 4, s.heap.objs.size + 2, s.heap.objs.size + 3, s.heap.objs.size, s.heap.objs.size + 1] → FpOk X pins H c := fun c hc => by
  have hle : s.heap.objs.size ≤ c := by simp at hc; omega
  exact I.fpOk hle (I.hok.fresh hle)
theorem pi_zipF (hg : Gl X "zip") (hm : X.mg "zip" = none) (ha : PA X [e, e2] ta)
    (hs : starEach [e, e2] X.env = (false, eval e X.env) :: starEach [e2] X.env := by rfl) (hpl : (backTo pos (starEach [e2] X.env)).any (·.1) = false := by rfl) :
    PI X (.Tuple elts kk tpos) (.Call (.Name "zip" p) [e, e2] [] pos) (iZipF X.K ta) := by
  refine ⟨fun pins s σ H R I h => Call_ (ld_blt I hg hm PyProof.Rows.boot_zip (PyProof.Rows.callWith_type1 (thn (ha.run pos pins s σ H _ I h) fun us s1 ⟨vs, H1, I1, r1, a, b, xs, ys, ex, q1⟩ => ?_) hs hpl))⟩
  subst ex
  obtain ⟨u, u2, rfl, r, r2⟩ : ∃ u u2, us = [u, u2] ∧ RelV (.ref a) u ∧ RelV (.ref b) u2 := by
    cases r1 with
    | cons r rr =>
      cases rr with
      | cons r' rr => cases rr; exact ⟨_, _, rfl, r, r'⟩
  cases r
  cases r2
  rcases q1 with ⟨qx, qy, q⟩ | ⟨qx, qy, q⟩
  · obtain ⟨l1, _, p1, hz1⟩ := I1.list qx
    obtain ⟨l2, _, p2, _⟩ := I1.list qy
    exact call_zip_2 p1.isList p2.isList fun h' hz hI hO h1 h2 _ hk => wpAny_pyIter_zip hz ⟨_, _, _, _, H1, rfl, I1.kept (t' := s1.toks) hk, turn_zipF (PySem.W.ktu_apart s1.heap.objs.size a b p1.lt p2.lt), ⟨hz, hI, ⟨_, _, hO⟩, h1, h2⟩, fp5 I1, q hz1⟩
  · obtain ⟨l1, _, p1, hz1⟩ := I1.tuple qx
    obtain ⟨l2, _, p2, _⟩ := I1.tuple qy
    obtain ⟨o1, g1, _⟩ := id p1
    obtain ⟨o2, g2, _⟩ := id p2
    exact call_zipT (show s1.heap.IsTuple a l1.toArray from p1) (show s1.heap.IsTuple b l2.toArray from p2) fun h' hz hI hO h1 h2 _ hk => wpAny_pyIter_zip hz ⟨_, _, _, _, H1, rfl, I1.kept (t' := s1.toks) hk, turn_zipTF (PySem.W.ktu_apart s1.heap.objs.size a b (Heap.lt_size g1) (Heap.lt_size g2)), ⟨hz, hI, ⟨_, _, hO⟩, h1, h2⟩, fp5 I1, q hz1⟩
end
theorem pair_sep {K : PySem.W.Frag} {H H' : Hp} {L : List VT} {ws : List Addr} {v x y : V} {d e : D} (n : NewPair H H' v x y) (w : SepW K H L ws) (r1 : Rep K H (· ∈ ws) x d) (r2 : Rep K H (· ∈ ws) y e) : Sep K H' ((v, (false, .tup [d, e])) :: L) := by
  obtain ⟨T, o, rfl, hT, ho, rfl⟩ := n
  exact ⟨ws, w.newTup hT ho (.cons r1 (.cons r2 .nil))⟩
def zipD : List D → List D → List D
  | a :: as, b :: bs => .tup [a, b] :: zipD as bs
  | _, _ => []
theorem zipD_get : ∀ {as bs : List D} {i : Nat} {d : D}, (zipD as bs)[i]? = some d → ∃ a b, as[i]? = some a ∧ bs[i]? = some b ∧ d = .tup [a, b]
  | [], _, _, _, h => by simp [zipD] at h
  | _ :: _, [], _, _, h => by simp [zipD] at h
  | a :: as, b :: bs, 0, d, h => by simp [zipD] at h; exact ⟨a, b, rfl, rfl, h.symm⟩
  | a :: as, b :: bs, i + 1, d, h => by
    simp only [zipD, List.getElem?_cons_succ] at h ⊢
    exact zipD_get h
theorem zipD_len : ∀ (as bs : List D), (zipD as bs).length = min as.length bs.length
  | [], _ => by simp [zipD]
  | _ :: _, [] => by simp [zipD]
  | _ :: as, _ :: bs => by simp [zipD, zipD_len as bs]
def enumD (n : Nat) : List D → List D
  | [] => []
  | d :: ds => .tup [.int (n : Int), d] :: enumD (n + 1) ds
def lstD : D → Option (List D)
  | .lst xs => some xs
  | .scr ns => some (ns.map .int)
  | _ => none
theorem SepW.lstR {K : PySem.W.Frag} {H : Hp} {L : List VT} {ws : List Addr} {v : V} {o : Bool} {d : D} {xs : List D} (w : SepW K H L ws) (m : (v, (o, d)) ∈ L) (e : lstD d = some xs) : ∃ a vs, v = .ref a ∧ SqL K H a vs ∧ RepAll K H (· ∈ ws) vs xs := by
  cases d <;> first | (cases e; done) | skip
  · cases e
    obtain ⟨a, vs, rfl, hq, r⟩ := w.lst m
    exact ⟨a, vs, rfl, .inl (.inl hq), r⟩
  · rename_i ns
    cases e
    obtain ⟨a, rfl, hq⟩ := w.scr m
    exact ⟨a, _, rfl, hq, ints_rep ns⟩
  where ints_rep {K : PySem.W.Frag} {H : Hp} {av : Addr → Prop} : ∀ ns : List Int, RepAll K H av (ns.map V.int) (ns.map D.int)
    | [] => .nil
    | n :: ns => .cons (.int n) (ints_rep ns)
theorem src_zipL {K : PySem.W.Frag} {a b : Addr} {d e : D} {as bs : List D} (hd : lstD d = some as) (he : lstD e = some bs) : Src K (ItzF K a b) (.ref a) (false, d) (zipD as bs) [(.ref b, (false, e))] := fun i L H ws w m mB => by
  obtain ⟨a', xs, ea, q1, r1⟩ := w.lstR m hd
  obtain ⟨b', ys, eb, q2, r2⟩ := w.lstR (mB _ List.mem_cons_self) he
  cases ea; cases eb
  refine ⟨fun c hc => ?_, fun hl => ⟨xs, ys, q1, q2, by rw [zipD_len] at hl; rw [r1.length, r2.length]; omega⟩⟩
  obtain ⟨x', y', g1, g2, rfl⟩ := zipD_get hc
  obtain ⟨x, h1, rx⟩ := r1.getD g1
  obtain ⟨y, h2, ry⟩ := r2.getD g2
  refine ⟨⟨xs, ys, x, y, q1, q2, h1, h2⟩, fun v H' ⟨x2, y2, np, f1, f2⟩ => ?_⟩
  have e1 := f1 xs q1; rw [h1] at e1; cases e1
  have e2 := f2 ys q2; rw [h2] at e2; cases e2
  exact pair_sep np w rx ry
theorem src_zipT {K : PySem.W.Frag} {a b : Addr} {as bs : List D} : Src K (ItzTF K a b) (.ref a) (false, .tup as) (zipD as bs) [(.ref b, (false, .tup bs))] := fun i L H ws w m mB => by
  obtain ⟨a', xs, ea, q1, r1, _⟩ := w.tup m
  obtain ⟨b', ys, eb, q2, r2, _⟩ := w.tup (mB _ List.mem_cons_self)
  cases ea; cases eb
  refine ⟨fun c hc => ?_, fun hl => ⟨xs, ys, q1, q2, by rw [zipD_len] at hl; rw [r1.length, r2.length]; omega⟩⟩
  obtain ⟨x', y', g1, g2, rfl⟩ := zipD_get hc
  obtain ⟨x, h1, rx⟩ := r1.getD g1
  obtain ⟨y, h2, ry⟩ := r2.getD g2
  refine ⟨⟨xs, ys, x, y, q1, q2, h1, h2⟩, fun v H' ⟨x2, y2, np, f1, f2⟩ => ?_⟩
  have e1 := f1 xs q1; rw [h1] at e1; cases e1
  have e2 := f2 ys q2; rw [h2] at e2; cases e2
  exact pair_sep np w rx ry
def zipL (ρ : Env) : Option (List D) → Option (List D) → R Its
  | some as, some bs => .ok ⟨zipD as bs, none⟩ ρ
  | _, _ => .bad
def zipK (ds : List D) (ρ : Env) : R Its := match ds with
  | [.tup as, .tup bs] => .ok ⟨zipD as bs, none⟩ ρ
  | [d, e] => zipL ρ (lstD d) (lstD e)
  | _ => .bad
def zipX (xs : List XV) (ρ : Env) : R Its := (frzs xs ρ).bind zipK
def sZip (f : Env → R (List XV)) (ρ : Env) : R Its := (f ρ).bind zipX
def enumL (ρ : Env) : Option (List D) → R Its
  | some as => .ok ⟨enumD 0 as, none⟩ ρ
  | _ => .bad
def enumK (ds : List D) (ρ : Env) : R Its := match ds with
  | [d] => enumL ρ (lstD d)
  | _ => .bad
def enumX (xs : List XV) (ρ : Env) : R Its := (frzs xs ρ).bind enumK
def sEnum (f : Env → R (List XV)) (ρ : Env) : R Its := (f ρ).bind enumX
theorem zipK_ok {ds : List D} {ρ : Env} {r : R Its} (e : zipK ds ρ = r) (hr : r ≠ .bad) : ∃ d1 d2 as bs, ds = [d1, d2] ∧ r = .ok ⟨zipD as bs, none⟩ ρ ∧ ((d1 = .tup as ∧ d2 = .tup bs) ∨ (lstD d1 = some as ∧ lstD d2 = some bs)) := by
  unfold zipK at e
  split at e
  · exact ⟨_, _, _, _, rfl, e.symm, .inl ⟨rfl, rfl⟩⟩
  · rename_i d1 d2 _
    cases h1 : lstD d1 with
    | none => rw [h1] at e; exact (hr e.symm).elim
    | some as =>
      cases h2 : lstD d2 with
      | none => rw [h1, h2] at e; exact (hr e.symm).elim
      | some bs => rw [h1, h2] at e; exact ⟨_, _, _, _, rfl, e.symm, .inr ⟨h1, h2⟩⟩
  · exact (hr e.symm).elim
section
variable {X : Cx} {W : WX} {elts : List Expr} {kk : Nat} {tpos : Pos}
theorem zp {a b : Expr} {fs : Env → R (List XV)} {p pos : Pos} (hm : X.mg "zip" = none) (ha : SA X W [a, b] fs) (hg : Gl X "zip" := by rfl)
    (hst : starEach [a, b] X.env = (false, eval a X.env) :: starEach [b] X.env := by rfl) (hpl : (backTo pos (starEach [b] X.env)).any (·.1) = false := by rfl) :
    SI X W (.Tuple elts kk tpos) (.Call (.Name "zip" p) [a, b] [] pos) (sZip fs) := by
  refine PI.weak (pi_zipF hg hm ha hst hpl) fun σ H Q h => ?_
  obtain ⟨ρ, hs, s, h⟩ := h
  refine ⟨ρ, hs, s, finA_mono (finI_bindA h) fun vs H1 ⟨xs, ρ1, hx, s1, h3⟩ => ?_⟩
  unfold zipX at h3
  cases e : frzs xs ρ1 with
  | exc c ρ2 => exact (frzs_exc (K := X.K) e).elim
  | bad => rw [e] at h3; exact h3.elim
  | ok ds ρ2 =>
    rw [e] at h3
    have h4 : finI X.K W hs σ (zipK ds ρ2) Q := h3
    obtain ⟨s2, hl⟩ := frzs_ok s1 hx e
    obtain ⟨d1, d2, as, bs, rfl, er, hd⟩ := zipK_ok (e := rfl) (by intro q; rw [q] at h4; exact h4)
    rw [er] at h4
    match vs, hl, s2 with
    | [v1, v2], _, s2 =>
      have h5 := fun J (src : Src X.K J v1 (false, d1) (zipD as bs) [(v2, (false, d2))]) (hz : (zipD as bs).length ≤ lim) => h4 J v1 (false, d1) [(v2, (false, d2))] H1 src hz trivial s2
      obtain ⟨ws, w⟩ := s2.sep
      have m1 : (v1, (false, d1)) ∈ slotsL σ ρ2 ++ (prs [v1, v2] [d1, d2] ++ hs) := List.mem_append_right _ List.mem_cons_self
      have m2 : (v2, (false, d2)) ∈ slotsL σ ρ2 ++ (prs [v1, v2] [d1, d2] ++ hs) := List.mem_append_right _ (List.mem_cons_of_mem _ List.mem_cons_self)
      rcases hd with ⟨rfl, rfl⟩ | ⟨e1, e2⟩
      · obtain ⟨a1, x1, rfl, q1, r1, _⟩ := w.tup m1
        obtain ⟨a2, x2, rfl, q2, r2, _⟩ := w.tup m2
        exact ⟨a1, a2, x1, x2, rfl, .inr ⟨q1, q2, fun hz => h5 _ src_zipT (by rw [zipD_len, ← r1.length]; omega)⟩⟩
      · obtain ⟨a1, x1, rfl, q1, r1⟩ := w.lstR m1 e1
        obtain ⟨a2, x2, rfl, q2, r2⟩ := w.lstR m2 e2
        exact ⟨a1, a2, x1, x2, rfl, .inl ⟨q1, q2, fun hz => h5 _ (src_zipL e1 e2) (by rw [zipD_len, ← r1.length]; omega)⟩⟩
end
section
variable {ρ : Env}
@[simp] theorem sZip_ev {f : Env → R (List XV)} : sZip f ρ = (f ρ).bind zipX := rfl
@[simp] theorem zipX_ev {xs : List XV} : zipX xs ρ = (frzs xs ρ).bind zipK := rfl
@[simp] theorem zipK_tt {as bs : List D} : zipK [.tup as, .tup bs] ρ = .ok ⟨zipD as bs, none⟩ ρ := rfl
@[simp] theorem zipK_ll {as bs : List D} : zipK [.lst as, .lst bs] ρ = .ok ⟨zipD as bs, none⟩ ρ := rfl
@[simp] theorem zipK_ls {as : List D} {ns : List Int} : zipK [.lst as, .scr ns] ρ = .ok ⟨zipD as (ns.map .int), none⟩ ρ := rfl
@[simp] theorem zipK_sl {as : List D} {ns : List Int} : zipK [.scr ns, .lst as] ρ = .ok ⟨zipD (ns.map .int) as, none⟩ ρ := rfl
@[simp] theorem sEnum_ev {f : Env → R (List XV)} : sEnum f ρ = (f ρ).bind enumX := rfl
@[simp] theorem enumX_ev {xs : List XV} : enumX xs ρ = (frzs xs ρ).bind enumK := rfl
@[simp] theorem enumK_l {as : List D} : enumK [.lst as] ρ = .ok ⟨enumD 0 as, none⟩ ρ := rfl
end
end Lz
namespace Lz
open PySem PySem.Spec PyProof.Rows L2
section
variable {X : Cx} {W : WX} {pos : Pos}
def sDct0 (ρ : Env) : R XV := .ok (.v true (.dct [])) ρ
theorem se_dct0 : SE X W (.Dict [] [] pos) sDct0 := by
  refine ⟨fun pins s σ H Q I h => ?_⟩
  obtain ⟨ρ, hs, st, h⟩ := h
  have hn := I.hok.fresh (Nat.le_refl s.heap.objs.size)
  have hsys : (s.heap.objs.size == sysModules) = false := beq_eq_false_iff_ne.mpr (Ne.symm (Nat.ne_of_lt I.big))
  refine wpAny_Dict_empty ⟨.ref s.heap.objs.size, _, I.laid (t' := s.toks) (fun _ _ q => Heap.get?_push_of_some _ q) (Nat.le_refl _) (dPhi_ok (dPhi_new s.heap)), rfl, ?_⟩
  obtain ⟨ws, q⟩ := st.sep
  exact h (.ref s.heap.objs.size) _ trivial ⟨st.ok, Sep.perm List.perm_middle.symm ⟨_, q.newDct hn hsys⟩⟩
end
def cfLenD : List D → Option T
  | [.dct kvs] => if kvs.length ≤ lim then some (false, .int kvs.length) else none
  | [.dk kvs] => some (false, .int kvs.length)
  | _ => none
section
variable {X : Cx}
theorem cr_lenD : CallR X (.builtin "len") (rCl X.K cfLenD) := by
  intro pins s σ H xs us Q I r ⟨L, ds, t, sep, ms, ht, q⟩
  obtain ⟨ws, w⟩ := sep
  have sp : Sep X.K H L := ⟨ws, w⟩
  unfold cfLenD at ht
  split at ht <;> first | (cases ht; done) | skip
  · rename_i kvs
    by_cases hl : kvs.length ≤ lim
    · rw [if_pos hl] at ht
      cases ht
      cases ms with
      | cons h1 t1 =>
        obtain ⟨o, m⟩ := h1
        cases t1
        obtain ⟨a, es, vs, rfl, hH, f, r1, r2⟩ := w.dct m
        obtain ⟨u, rfl, rx⟩ := vals1 r
        cases rx
        have hlen : es.length = kvs.length := by have := congrArg List.length f.keys; simpa using this
        refine call_len_dictH f.sys (dict_of I hH f r1) (by rw [hlen]; rw [lim_eq, sizeLine_eq] at hl; omega) ?_
        rw [hlen]
        exact ⟨.int ((kvs.length : Nat) : Int), H, I.tok _, ⟨_, rfl⟩, q _ _ (sp.cInt _)⟩
    · rw [if_neg hl] at ht; cases ht
  · rename_i kvs
    cases ht
    cases ms with
    | cons h1 t1 =>
      obtain ⟨o, m⟩ := h1
      cases t1
      obtain ⟨a, es, rfl, hH, f, r1⟩ := w.dk m
      obtain ⟨u, rfl, rx⟩ := vals1 r
      cases rx
      have hlen : es.length = kvs.length := by have := congrArg List.length f; simpa using this
      refine d_len I hH fun t s' I' => ?_
      rw [hlen]
      exact ⟨.int ((kvs.length : Nat) : Int), H, I', ⟨_, rfl⟩, q _ _ (sp.cInt _)⟩
end
@[simp] theorem cfLenD_dct {kvs : List (D × D)} : cfLenD [.dct kvs] = if kvs.length ≤ lim then some (false, .int kvs.length) else none := rfl
@[simp] theorem cfLenD_dk {kvs : List (Key × D)} : cfLenD [.dk kvs] = some (false, .int kvs.length) := rfl
def isDct (x : XV) (ρ : Env) : Bool := match x with
  | .b i => (match gt ρ i with
    | some (true, .dct _) => true
    | _ => false)
  | _ => false
def sdT3 (i : Nat) (k : D) (nk : NestedKey) (d : D) (ρ : Env) : Option T → R XV
  | some (true, .dct kvs) => if kvs.length < lim then (match dGet kvs nk with
    | some e => .ok (.v false e) ρ
    | none => .ok (.v false d) (pt ρ i (some (true, .dct (dPut kvs k nk d))))) else .bad
  | _ => .bad
def sdT2 (i : Nat) (k : D) (nk : NestedKey) (d : D) (ρ : Env) : R XV := sdT3 i k nk d ρ (gt ρ i)
def sdT1 (i : Nat) (y : XV) (ρ : Env) (k : D) : Option NestedKey → R XV
  | some nk => (frz y ρ).bind (sdT2 i k nk)
  | none => .bad
def sdT0 (i : Nat) (y : XV) (ρ : Env) : Option D → R XV
  | some k => sdT1 i y ρ k (nkOf k)
  | none => .bad
def sdTc (x z y : XV) (ρ : Env) : R XV := match x with
  | .b i => sdT0 i y ρ (view z ρ)
  | _ => .bad
def sdTb (fd : Env → R XV) (x z : XV) (ρ : Env) : R XV := (fd ρ).bind fun y ρ => sdTc x z y ρ
def sdTa (fk fd : Env → R XV) (x : XV) (ρ : Env) : R XV := if isDct x ρ = true then (fk ρ).bind (sdTb fd x) else .bad
def sSetd (fo fk fd : Env → R XV) (ρ : Env) : R XV := (fo ρ).bind (sdTa fk fd)
section
variable {X : Cx} {W : WX} {o e f : Expr} {fo fk fd : Env → R XV} {apos cpos : Pos}
theorem se_setd (hu : X.A.units + 65 < cLine) (ho : SE X W o fo) (hk : SE X W e fk) (hd : SE X W f fd) (m : M2 X o "setdefault" apos e f cpos := by exact ⟨rfl, rfl, rfl, rfl⟩) : SE X W (.Call (.Attribute o "setdefault" apos) [e, f] [] cpos) (sSetd fo fk fd) := by
  refine ⟨fun pins s σ H Q I h => ?_⟩
  obtain ⟨ρ, hs, st, h⟩ := h
  refine wpAny_Call_method m.base m.few m.line PySem.F.plainAttrs_dict PySem.F.slot_dict_setdefault PySem.F.type_dict_setdefault (thn (ho.run pins s σ H _ I ⟨ρ, hs, st, fin_mono (fin_bind0 h) fun v H1 hh => hh⟩) fun u s1 ⟨x, H1, I1, rx, kx, ρ1, hx, st1, h1⟩ => ?_)
  unfold sdTa at h1
  cases hq : isDct kx ρ1 with
  | false => rw [hq] at h1; exact h1.elim
  | true =>
    rw [hq, if_pos rfl] at h1
    cases kx with
    | v _ _ => cases hq
    | b j =>
      have hx' : σ[j]? = some (some x) := hx
      have eg : ∃ kvs, gt ρ1 j = some (true, .dct kvs) := by
        unfold isDct at hq
        dsimp only at hq
        cases e1 : gt ρ1 j with
        | none => rw [e1] at hq; cases hq
        | some t =>
          rw [e1] at hq
          obtain ⟨o1, d1⟩ := t
          cases o1 <;> cases d1 <;> first | exact ⟨_, rfl⟩ | cases hq
      obtain ⟨kvs0, eg⟩ := eg
      have m0 : (x, (true, D.dct kvs0)) ∈ slotsL σ ρ1 ++ (hld (.b j) x ++ hs) := List.mem_append_left _ ((slots_take hx' eg).mem_iff.mpr List.mem_cons_self)
      obtain ⟨ws0, w0⟩ := st1.sep
      obtain ⟨a, es0, vs0, rfl, hH0, f0, k0, _⟩ := w0.dct m0
      cases rx
      have hm0 := dict_of I1 hH0 f0 k0
      refine ⟨hm0.typeIs, fun b q => ?_, ?_⟩
      · cases q
        obtain ⟨ob, _, _, z1, z2, _⟩ := hm0
        exact ⟨ob, z1, z2.2.1⟩
      rw [m.trees]
      refine Calls.callWith_builtin rfl (Calls.evalArgs_plain (Calls.spliced_cons (thn (hk.run pins s1 σ H1 _ I1 ⟨ρ1, _, st1, fin_mono (fin_bind (hld (.b j) (V.ref a)) h1) fun v H1 hh => hh⟩) fun iv s2 ⟨y, H2, I2, ry, kz, ρ2, hz, st2, h2⟩ => ?_)))
      rw [← List.append_assoc] at st2
      refine Calls.spliced_cons (thn (hd.run pins s2 σ H2 _ I2 ⟨ρ2, _, st2, fin_mono (fin_bind (hld kz y ++ hld (.b j) (V.ref a)) h2) fun v H1 hh => hh⟩) fun fv s3 ⟨z, H3, I3, rz, ky, ρ3, hy, st3, h3⟩ => Calls.spliced_nil ?_)
      have h4 : fin X.K W hs σ (sdT0 j ky ρ3 (view kz ρ3)) Q := h3
      cases ev : view kz ρ3 with
      | none => rw [ev] at h4; exact h4.elim
      | some k =>
        rw [ev] at h4
        have h5 : fin X.K W hs σ (sdT1 j ky ρ3 k (nkOf k)) Q := h4
        cases hkn : nkOf k with
        | none => rw [hkn] at h5; exact h5.elim
        | some nk =>
          rw [hkn] at h5
          obtain ⟨⟨xs, rfl⟩, hk1, hk2⟩ := nkOf_ok hkn
          obtain ⟨o1, m1⟩ := st3.mem hz (fun p hp => by simp [hp]) ev
          have s3' : Stt X.K ((y, (false, D.tup xs)) :: (hld ky z ++ hs)) σ H3 ρ3 := by
            obtain ⟨ws, q⟩ := st3.sep
            obtain ⟨ka, _, rk⟩ := q.tupR m1
            have q2 : Sep X.K H3 (((y, (false, D.tup xs)) :: (slotsL σ ρ3 ++ hld ky z)) ++ (hld kz y ++ hs)) := ⟨ws, by simpa [hld] using q.pure rk⟩
            have q4 := q2.drop_mid
            refine ⟨st3.ok, ?_⟩
            have q5 : Sep X.K H3 ((y, (false, D.tup xs)) :: (slotsL σ ρ3 ++ (hld ky z ++ hs))) := by simpa using q4
            exact q5.perm List.perm_middle.symm
          cases ez : frz ky ρ3 with
          | bad => unfold sdT1 at h5; rw [ez] at h5; exact h5.elim
          | exc c ρ4 => exact (frz_exc ez).elim
          | ok d ρ4 =>
            unfold sdT1 at h5
            rw [ez] at h5
            have h6 : fin X.K W hs σ (sdT3 j (.tup xs) nk d ρ4 (gt ρ4 j)) Q := h5
            have s5 : Stt X.K ((z, (false, d)) :: ((y, (false, D.tup xs)) :: hs)) σ H3 ρ4 := by
              refine frz_ok (s3'.perm ?_) hy ez
              exact List.perm_middle.symm
            cases eg4 : gt ρ4 j with
            | none => rw [eg4] at h6; exact h6.elim
            | some t =>
              rw [eg4] at h6
              obtain ⟨o, dd⟩ := t
              cases o with
              | false => exact h6.elim
              | true =>
                cases dd <;> first | exact h6.elim | skip
                rename_i kvs
                unfold sdT3 at h6
                dsimp only at h6
                by_cases hl : kvs.length < lim
                · rw [if_pos hl] at h6
                  have hi : j < ρ4.length := gt_lt eg4
                  have p1 := (slots_take hx' eg4).append_right ((z, (false, d)) :: (y, (false, D.tup xs)) :: hs)
                  obtain ⟨ws, w⟩ := s5.sep.perm p1
                  obtain ⟨a', es, vs, ea, hH, f, r1, r2⟩ := w.dct List.mem_cons_self
                  cases ea
                  have my : (y, (false, D.tup xs)) ∈ (V.ref a, ((true, D.dct kvs) : T)) :: (slotsL σ (pt ρ4 j none) ++ ((z, (false, d)) :: (y, (false, D.tup xs)) :: hs)) := by simp
                  have mz : (z, (false, d)) ∈ (V.ref a, ((true, D.dct kvs) : T)) :: (slotsL σ (pt ρ4 j none) ++ ((z, (false, d)) :: (y, (false, D.tup xs)) :: hs)) := by simp
                  obtain ⟨ka, rfl, rk⟩ := w.tupR my
                  cases ry
                  have rd : Rep X.K H3 (· ∈ ws) z d := w.rep mz
                  have hm := dict_of I3 hH f r1
                  have hkey : (nestedKind X.prog X.w).is s3.heap nk ka := ⟨rep_nk I3 rk hk1 rfl, hk2⟩
                  have hr : (nestedKind X.prog X.w).room X.A.in1 := by show X.A.units + 1 + 8 < cLine; omega
                  have hlen : es.length = kvs.length := by have := congrArg List.length f.keys; simpa using this
                  obtain ⟨i1, i2⟩ := dGet_at (nk := nk) f.keys f.vals r2
                  refine call_setdefault_heap (hsz := by rw [hlen]; exact Nat.le_of_lt hl) hr hkey f.sys hm (fun p hp => ?_) fun hn h' hm' hs' => ?_
                  · cases hg : dGet kvs nk with
                    | none => have := i1 hg; rw [this] at hp; cases hp
                    | some dv =>
                      rw [hg] at h6
                      obtain ⟨p', vv, hp', rv, rd'⟩ := i2 dv hg
                      rw [hp'] at hp; cases hp
                      refine ⟨vv, H3, I3.tok _, rv, h6 vv H3 trivial ?_⟩
                      have q2 := Stt.dropA (A := [(z, (false, d)), (V.ref ka, (false, D.tup xs))]) s5
                      obtain ⟨ws2, w2⟩ := s5.sep
                      have q3 : Sep X.K H3 ((vv, (false, dv)) :: ((V.ref a, ((true, D.dct kvs) : T)) :: (slotsL σ (pt ρ4 j none) ++ ((z, (false, d)) :: (V.ref ka, (false, D.tup xs)) :: hs)))) := ⟨ws, w.pure rd'⟩
                      have q4 : Sep X.K H3 ((vv, (false, dv)) :: (slotsL σ ρ4 ++ ((z, (false, d)) :: (V.ref ka, (false, D.tup xs)) :: hs))) := q3.perm (List.Perm.cons _ p1.symm)
                      have q5 : Sep X.K H3 ((vv, (false, dv)) :: (slotsL σ ρ4 ++ hs)) := by
                        have q6 : Sep X.K H3 (((vv, (false, dv)) :: slotsL σ ρ4) ++ ([(z, (false, d)), (V.ref ka, (false, D.tup xs))] ++ hs)) := q4
                        simpa using q6.drop_mid
                      exact ⟨s5.ok, q5.perm List.perm_middle.symm⟩
                  · cases hg : dGet kvs nk with
                    | some dv => obtain ⟨p', vv, hp', _⟩ := i2 dv hg; rw [hp'] at hn; cases hn
                    | none =>
                      rw [hg] at h6
                      obtain ⟨vs', f', r1', r2'⟩ := f.put r1 r2 hk1 hk2 rk rz rd
                      have hphi := dPhi_of hm' (keys_T f'.keys)
                      have hex : ∃ o, h'.get? a = some o := let ⟨o, _, _, e, _⟩ := hphi; ⟨o, e⟩
                      refine ⟨z, upd H3 a (.ext (dPhi a (storedH es nk ka fv))), I3.write (x := a) (e := a) (by rw [hH]; exact True.intro) (.inl rfl) (fun b ob hb z => (hs'.2 b hb).trans z) hex (dPhi_ok hphi), rz, h6 z _ trivial ?_⟩
                      have w2 := w.chgDct f' r1' r2'
                      have q2 : Sep X.K (upd H3 a (.ext (dPhi a (storedH es nk ka fv)))) ((V.ref a, (true, D.dct (dPut kvs (.tup xs) nk d))) :: (slotsL σ (pt ρ4 j none) ++ ((z, (false, d)) :: (V.ref ka, (false, D.tup xs)) :: hs))) := ⟨ws, w2⟩
                      have q3 : Sep X.K (upd H3 a (.ext (dPhi a (storedH es nk ka fv)))) (slotsL σ (pt ρ4 j (some (true, .dct (dPut kvs (.tup xs) nk d)))) ++ ((z, (false, d)) :: (V.ref ka, (false, D.tup xs)) :: hs)) :=
                        q2.perm ((slots_keep hx' hi).append_right ((z, (false, d)) :: (V.ref ka, (false, D.tup xs)) :: hs)).symm
                      refine ⟨s5.ok.keep j hx', ?_⟩
                      have q4 : Sep X.K (upd H3 a (.ext (dPhi a (storedH es nk ka fv)))) ((slotsL σ (pt ρ4 j (some (true, .dct (dPut kvs (.tup xs) nk d)))) ++ [(z, (false, d))]) ++ ([(V.ref ka, (false, D.tup xs))] ++ hs)) := by simpa using q3
                      simpa [hld] using q4.drop_mid
                · rw [if_neg hl] at h6; exact h6.elim
end
section
variable {ρ : Env} {i : Nat}
@[simp] theorem sDct0_ev : sDct0 ρ = .ok (.v true (.dct [])) ρ := rfl
@[simp] theorem sSetd_ev {fo fk fd : Env → R XV} : sSetd fo fk fd ρ = (fo ρ).bind (sdTa fk fd) := rfl
@[simp] theorem sdTa_ev {fk fd : Env → R XV} {x : XV} : sdTa fk fd x ρ = if isDct x ρ = true then (fk ρ).bind (sdTb fd x) else .bad := rfl
@[simp] theorem sdTb_ev {fd : Env → R XV} {x z : XV} : sdTb fd x z ρ = (fd ρ).bind (sdTc x z) := rfl
@[simp] theorem sdTc_ev {z y : XV} : sdTc (.b i) z y ρ = sdT0 i y ρ (view z ρ) := rfl
@[simp] theorem sdT0_s {y : XV} {k : D} : sdT0 i y ρ (some k) = sdT1 i y ρ k (nkOf k) := rfl
@[simp] theorem sdT1_s {y : XV} {k : D} {nk : NestedKey} : sdT1 i y ρ k (some nk) = (frz y ρ).bind (sdT2 i k nk) := rfl
@[simp] theorem sdT2_ev {k d : D} {nk : NestedKey} : sdT2 i k nk d ρ = sdT3 i k nk d ρ (gt ρ i) := rfl
def sdT4 (i : Nat) (k d : D) (nk : NestedKey) (kvs : List (D × D)) (ρ : Env) : Option D → R XV
  | some e => .ok (.v false e) ρ
  | none => .ok (.v false d) (pt ρ i (some (true, .dct (dPut kvs k nk d))))
@[simp] theorem sdT4_s {k d e : D} {nk : NestedKey} {kvs : List (D × D)} : sdT4 i k d nk kvs ρ (some e) = .ok (.v false e) ρ := rfl
@[simp] theorem sdT4_n {k d : D} {nk : NestedKey} {kvs : List (D × D)} : sdT4 i k d nk kvs ρ none = .ok (.v false d) (pt ρ i (some (true, .dct (dPut kvs k nk d)))) := rfl
@[simp] theorem sdT3_s {k d : D} {nk : NestedKey} {kvs : List (D × D)} : sdT3 i k nk d ρ (some (true, .dct kvs)) = if kvs.length < lim then sdT4 i k d nk kvs ρ (dGet kvs nk) else .bad := by
  show (if kvs.length < lim then _ else _) = _
  by_cases hl : kvs.length < lim
  · rw [if_pos hl, if_pos hl]
    cases h : dGet kvs nk <;> simp [sdT4, h]
  · rw [if_neg hl, if_neg hl]
def isDctO : Option T → Bool
  | some (true, .dct _) => true
  | _ => false
@[simp] theorem isDctO_s {kvs : List (D × D)} : isDctO (some (true, .dct kvs)) = true := rfl
@[simp] theorem isDct_b : isDct (.b i) ρ = isDctO (gt ρ i) := by
  unfold isDct
  dsimp only
  cases gt ρ i with
  | none => rfl
  | some t => obtain ⟨o, d⟩ := t; cases o <;> cases d <;> rfl
end
end Lz
namespace Lz
open PySem PySem.Spec PyProof.Rows L2
def dsK2 (nk : Key) (d : D) (ρ : Env) : R XV := .ok (.v true (.dk [(nk, d)])) ρ
def dsK1 (y : XV) (ρ : Env) : Option Key → R XV
  | some nk => (frz y ρ).bind (dsK2 nk)
  | none => .bad
def dsK0 (y : XV) (ρ : Env) : Option D → R XV
  | some k => dsK1 y ρ (kdOf k)
  | none => .bad
def dsKc (x y : XV) (ρ : Env) : R XV := dsK0 y ρ (view x ρ)
def dsKb (fv : Env → R XV) (x : XV) (ρ : Env) : R XV := (fv ρ).bind (dsKc x)
def sDispK (fk fv : Env → R XV) (ρ : Env) : R XV := (fk ρ).bind (dsKb fv)
def gtK4 (d : D) (ρ : Env) : R XV := .ok (.v false d) ρ
def gtK3 (y : XV) (ρ : Env) : Option D → R XV
  | some e => .ok (.v false e) ρ
  | none => (frz y ρ).bind gtK4
def gtK2 (kvs : List (Key × D)) (y : XV) (ρ : Env) : Option Key → R XV
  | some nk => gtK3 y ρ (kGet kvs nk)
  | none => .bad
def gtK1 (kvs : List (Key × D)) (y : XV) (ρ : Env) : Option D → R XV
  | some k => gtK2 kvs y ρ (kdOf k)
  | none => .bad
def gtK0 (z y : XV) (ρ : Env) : Option D → R XV
  | some (.dk kvs) => gtK1 kvs y ρ (view z ρ)
  | _ => .bad
def gtKc (x z y : XV) (ρ : Env) : R XV := gtK0 z y ρ (view x ρ)
def gtKb (fd : Env → R XV) (x z : XV) (ρ : Env) : R XV := (fd ρ).bind (gtKc x z)
def isDk : Option D → Bool
  | some (.dk _) => true
  | _ => false
def gtKa (fk fd : Env → R XV) (x : XV) (ρ : Env) : R XV := if isDk (view x ρ) = true then (fk ρ).bind (gtKb fd x) else .bad
def sGetK (fo fk fd : Env → R XV) (ρ : Env) : R XV := (fo ρ).bind (gtKa fk fd)
def itKs (x : XV) (ρ : Env) : R Its := match x with
  | .v false (.dk kvs) => if kvs.length ≤ lim then .ok ⟨kvs.map fun p => kD p.1, none⟩ ρ else .bad
  | _ => .bad
def sItK (f : Env → R XV) (ρ : Env) : R Its := (f ρ).bind itKs
section
variable {X : Cx} {W : WX} {k v o e f tg : Expr} {fk fv fo fd : Env → R XV} {pos apos cpos : Pos}
theorem se_dispK (hk : SE X W k fk) (hv : SE X W v fv) : SE X W (.Dict [some k] [v] pos) (sDispK fk fv) := by
  refine PE.weak (pe_disp (pps_cons hk hv pps_nil) rfl rfl (by simp) (by simp)) fun σ H Q h => ?_
  obtain ⟨ρ, hs, st, h⟩ := h
  intro p hp
  have st1 : Stt X.K ([(V.ref p, (true, D.dk []))] ++ hs) σ (upd H p (.dK [])) ρ := ⟨st.ok, by
    obtain ⟨ws, q⟩ := st.sep
    exact Sep.perm List.perm_middle.symm ⟨_, q.newDk hp⟩⟩
  refine ⟨ρ, _, st1, fin_mono (fin_bind [(V.ref p, (true, D.dk []))] h) fun x H2 ⟨kx, ρ1, hx, s2, h2⟩ => ?_⟩
  rw [← List.append_assoc] at s2
  refine ⟨ρ1, _, s2, fin_mono (fin_bind (hld kx x ++ [(V.ref p, (true, D.dk []))]) h2) fun y H3 ⟨vy, ρ2, hy, s3, h3⟩ => ?_⟩
  have h4 : fin X.K W hs σ (dsK0 vy ρ2 (view kx ρ2)) Q := h3
  cases ev : view kx ρ2 with
  | none => rw [ev] at h4; exact h4.elim
  | some kd =>
    rw [ev] at h4
    have h5 : fin X.K W hs σ (dsK1 vy ρ2 (kdOf kd)) Q := h4
    cases hkn : kdOf kd with
    | none => rw [hkn] at h5; exact h5.elim
    | some nk =>
      rw [hkn] at h5
      obtain ⟨o1, m1⟩ := s3.mem hx (fun p hp => by simp [hp]) ev
      obtain ⟨ws0, w0⟩ := s3.sep
      have ek := w0.key m1 hkn
      cases ez : frz vy ρ2 with
      | bad => unfold dsK1 at h5; rw [ez] at h5; exact h5.elim
      | exc c ρ4 => exact (frz_exc ez).elim
      | ok d ρ4 =>
        unfold dsK1 at h5
        rw [ez] at h5
        have h6 : fin X.K W hs σ (.ok (.v true (.dk [(nk, d)])) ρ4) Q := h5
        have s5 : Stt X.K ((y, (false, d)) :: (hld kx x ++ ([(V.ref p, (true, D.dk []))] ++ hs))) σ H3 ρ4 := by
          refine frz_ok (s3.perm ?_) hy ez
          simp
        have p5 : (slotsL σ ρ4 ++ ((y, (false, d)) :: (hld kx x ++ ([(V.ref p, ((true, D.dk []) : T))] ++ hs)))).Perm ((V.ref p, (true, D.dk [])) :: ((slotsL σ ρ4 ++ ((y, (false, d)) :: hld kx x)) ++ hs)) := by
          have e : slotsL σ ρ4 ++ ((y, (false, d)) :: (hld kx x ++ ([(V.ref p, ((true, D.dk []) : T))] ++ hs))) = (slotsL σ ρ4 ++ ((y, (false, d)) :: hld kx x)) ++ ((V.ref p, (true, D.dk [])) :: hs) := by simp
          rw [e]
          exact List.perm_middle
        obtain ⟨ws, w⟩ := s5.sep.perm p5
        obtain ⟨a, es, ea, hH, fk', _⟩ := w.dkO List.mem_cons_self
        cases ea
        have hes : es = [] := by simpa using fk'
        subst hes
        have rd : Rep X.K H3 (· ∈ ws) y d := w.rep (by simp)
        refine ⟨hH, [(nk, y)], by rw [ek]; rfl, by simp, ?_⟩
        refine h6 (.ref p) _ trivial ⟨s5.ok, ?_⟩
        have q2 : Sep X.K (upd H3 p (.dK [(nk, y)])) ((V.ref p, (true, D.dk [(nk, d)])) :: ((slotsL σ ρ4 ++ ((y, (false, d)) :: hld kx x)) ++ hs)) := ⟨ws, w.chgDk (kvs := [(nk, d)]) (es := [(nk, y)]) rfl (.cons rd .nil)⟩
        have q3 : Sep X.K (upd H3 p (.dK [(nk, y)])) (((V.ref p, (true, D.dk [(nk, d)])) :: slotsL σ ρ4) ++ (((y, (false, d)) :: hld kx x) ++ hs)) := by simpa using q2
        have q4 := q3.drop_mid
        exact Sep.perm List.perm_middle.symm q4
end
section
variable {ρ : Env} {i : Nat}
@[simp] theorem sDispK_ev {fk fv : Env → R XV} : sDispK fk fv ρ = (fk ρ).bind (dsKb fv) := rfl
@[simp] theorem dsKb_ev {fv : Env → R XV} {x : XV} : dsKb fv x ρ = (fv ρ).bind (dsKc x) := rfl
@[simp] theorem dsKc_ev {x y : XV} : dsKc x y ρ = dsK0 y ρ (view x ρ) := rfl
@[simp] theorem dsK0_s {y : XV} {k : D} : dsK0 y ρ (some k) = dsK1 y ρ (kdOf k) := rfl
@[simp] theorem dsK1_s {y : XV} {nk : Key} : dsK1 y ρ (some nk) = (frz y ρ).bind (dsK2 nk) := rfl
@[simp] theorem dsK2_ev {nk : Key} {d : D} : dsK2 nk d ρ = .ok (.v true (.dk [(nk, d)])) ρ := rfl
@[simp] theorem kdOf_int {n : Int} : kdOf (.int n) = some (.inl n) := rfl
@[simp] theorem kdOf_str {z : Str} : kdOf (.str z) = some (.inr z) := rfl
@[simp] theorem sGetK_ev {fo fk fd : Env → R XV} : sGetK fo fk fd ρ = (fo ρ).bind (gtKa fk fd) := rfl
@[simp] theorem gtKa_ev {fk fd : Env → R XV} {x : XV} : gtKa fk fd x ρ = if isDk (view x ρ) = true then (fk ρ).bind (gtKb fd x) else .bad := rfl
@[simp] theorem isDk_s {kvs : List (Key × D)} : isDk (some (.dk kvs)) = true := rfl
@[simp] theorem gtKb_ev {fd : Env → R XV} {x z : XV} : gtKb fd x z ρ = (fd ρ).bind (gtKc x z) := rfl
@[simp] theorem gtKc_ev {x z y : XV} : gtKc x z y ρ = gtK0 z y ρ (view x ρ) := rfl
@[simp] theorem gtK0_s {z y : XV} {kvs : List (Key × D)} : gtK0 z y ρ (some (.dk kvs)) = gtK1 kvs y ρ (view z ρ) := rfl
@[simp] theorem gtK1_s {y : XV} {kvs : List (Key × D)} {k : D} : gtK1 kvs y ρ (some k) = gtK2 kvs y ρ (kdOf k) := rfl
@[simp] theorem gtK2_s {y : XV} {kvs : List (Key × D)} {k : Key} : gtK2 kvs y ρ (some k) = gtK3 y ρ (kGet kvs k) := rfl
@[simp] theorem gtK3_s {y : XV} {d : D} : gtK3 y ρ (some d) = .ok (.v false d) ρ := rfl
@[simp] theorem gtK3_n {y : XV} : gtK3 y ρ none = (frz y ρ).bind gtK4 := rfl
@[simp] theorem gtK4_ev {d : D} : gtK4 d ρ = .ok (.v false d) ρ := rfl
@[simp] theorem sItK_ev {f : Env → R XV} : sItK f ρ = (f ρ).bind itKs := rfl
@[simp] theorem itKs_ev {kvs : List (Key × D)} : itKs (.v false (.dk kvs)) ρ = if kvs.length ≤ lim then .ok ⟨kvs.map fun p => kD p.1, none⟩ ρ else .bad := rfl
@[simp] theorem sDk0_ev : sDk0 ρ = .ok (.v true (.dk [])) ρ := rfl
def stK3 (i : Nat) (nk : Key) (d : D) (ρ : Env) : Option T → R Fl
  | some (true, .dk kvs) => if kvs.length < lim then .ok .nx (pt ρ i (some (true, .dk (kPut kvs nk d)))) else .bad
  | _ => .bad
@[simp] theorem stK3_s {d : D} {nk : Key} {kvs : List (Key × D)} : stK3 i nk d ρ (some (true, .dk kvs)) = if kvs.length < lim then .ok .nx (pt ρ i (some (true, .dk (kPut kvs nk d)))) else .bad := rfl
def stK2 (i : Nat) (nk : Key) (d : D) (ρ : Env) : R Fl := stK3 i nk d ρ (gt ρ i)
@[simp] theorem stK2_ev {d : D} {nk : Key} : stK2 i nk d ρ = stK3 i nk d ρ (gt ρ i) := rfl
def stK1 (i : Nat) (y : XV) (ρ : Env) : Option Key → R Fl
  | some nk => (frz y ρ).bind (stK2 i nk)
  | none => .bad
@[simp] theorem stK1_s {y : XV} {nk : Key} : stK1 i y ρ (some nk) = (frz y ρ).bind (stK2 i nk) := rfl
def stK0 (i : Nat) (y : XV) (ρ : Env) : Option D → R Fl
  | some k => stK1 i y ρ (kdOf k)
  | none => .bad
@[simp] theorem stK0_s {y : XV} {k : D} : stK0 i y ρ (some k) = stK1 i y ρ (kdOf k) := rfl
def stKc (x y z : XV) (ρ : Env) : R Fl := opSetK x z y ρ
@[simp] theorem stKc_b {z y : XV} : stKc (.b i) y z ρ = stK0 i y ρ (view z ρ) := by
  unfold stKc opSetK stK0
  cases view z ρ with
  | none => rfl
  | some k =>
    dsimp only
    unfold stK1
    cases kdOf k with
    | none => rfl
    | some nk =>
      dsimp only
      cases frz y ρ with
      | ok d ρ1 =>
        show _ = stK3 i nk d ρ1 (gt ρ1 i)
        show (match gt ρ1 i with
          | some (true, .dk kvs) => if kvs.length < lim then R.ok Fl.nx (pt ρ1 i (some (true, .dk (kPut kvs nk d)))) else .bad
          | _ => .bad) = _
        cases gt ρ1 i with
        | none => rfl
        | some t => obtain ⟨o, d2⟩ := t; cases o <;> cases d2 <;> rfl
      | exc c ρ1 => rfl
      | bad => rfl
def stKb (fi : Env → R XV) (y x : XV) (ρ : Env) : R Fl := (fi ρ).bind (stKc x y)
@[simp] theorem stKb_ev {fi : Env → R XV} {x y : XV} : stKb fi y x ρ = (fi ρ).bind (stKc x y) := rfl
def stKa (fo fi : Env → R XV) (y : XV) (ρ : Env) : R Fl := (fo ρ).bind (stKb fi y)
@[simp] theorem stKa_ev {fo fi : Env → R XV} {y : XV} : stKa fo fi y ρ = (fo ρ).bind (stKb fi y) := rfl
@[simp] theorem xSetK_ev {fe fo fi : Env → R XV} : xSetK fe fo fi ρ = (fe ρ).bind (stKa fo fi) := rfl
@[simp] theorem opInK_s {k : D} {kvs : List (Key × D)} : opInK k (.dk kvs) = (kdOf k).map fun nk => (false, .bl (kGet kvs nk).isSome) := rfl
@[simp] theorem opNotInK_s {k : D} {kvs : List (Key × D)} : opNotInK k (.dk kvs) = (kdOf k).map fun nk => (false, .bl (!(kGet kvs nk).isSome)) := rfl
@[simp] theorem opIxK_s {k : D} {kvs : List (Key × D)} : opIxK (.dk kvs) k = (kdOf k).bind fun nk => (kGet kvs nk).map fun x => (false, x) := rfl
end
end Lz
namespace Lz
open PySem PySem.Spec PyProof.Rows L2
def fsV : List (Str × V) → List (Str × Bool × D) → List VT
  | p :: fs, q :: gs => (p.2, q.2) :: fsV fs gs
  | _, _ => []
def okF (t : Lz.T) : Prop := t.1 = true → ∃ ds, t.2 = D.lst ds
section
variable {K : PySem.W.Frag} {H : Hp} {av : Addr → Prop} {L : List VT}
theorem OwnFs.all {ws : List Addr} (o : OwnAll K H av L ws) : ∀ {fs : List (Str × V)} {gs : List (Str × Bool × D)} {w : List Addr}, OwnFs K H av fs gs w → OwnAll K H av (fsV fs gs ++ L) (w ++ ws) ∧ ∀ p ∈ gs, okF p.2
  | _, _, _, .nil => ⟨o, by simp⟩
  | _, _, _, .pure r t => by
    obtain ⟨h1, h2⟩ := OwnFs.all o t
    exact ⟨.cons (w := []) (.pure r) h1, fun p hp => by
      rcases List.mem_cons.mp hp with rfl | hp
      · exact fun e => by cases e
      · exact h2 p hp⟩
  | _, _, _, .lst (b := b) (ds := ds) e r t => by
    obtain ⟨h1, h2⟩ := OwnFs.all o t
    exact ⟨.cons (w := [b]) (.lst e r) h1, fun p hp => by
      rcases List.mem_cons.mp hp with rfl | hp
      · exact fun _ => ⟨ds, rfl⟩
      · exact h2 p hp⟩
end
section
variable {K : PySem.W.Frag} {W : WX} {hs A : List VT} {σ σ0 : Sg} {H : Hp} {ρ : Env} {v : V}
end
def ownF (i : Nat) (c f : Str) (ρ : Env) : Option (List (Str × Bool × D) × List D) := match gt ρ i with
  | some (true, .ob c' gs) => if c' = c then (match gs.lookup f with
    | some (true, .lst ds) => some (gs, ds)
    | _ => none) else none
  | _ => none
def ixF2 (op : D → D → Option T) (i : Nat) (c : Str) (p : List (Str × Bool × D) × List D) (y : XV) (ρ : Env) : R XV := match gt ρ i, view y ρ with
  | none, some d => (match op (.lst p.2) d with
    | some t => .ok (.v t.1 t.2) (pt ρ i (some (true, .ob c p.1)))
    | none => .bad)
  | _, _ => .bad
/-- name.f [op] e -/
def sOpF (op : D → D → Option T) (i : Nat) (c f : Str) (fb : Env → R XV) (ρ : Env) : R XV := match ownF i c f ρ with
  | some p => (noX (fb (pt ρ i none))).bind (ixF2 op i c p)
  | none => sBin op (sFld c f (sVar i)) fb ρ
/-- e [op] name.f -/
def sOpFR (op : D → D → Option T) (fa : Env → R XV) (i : Nat) (c f : Str) (ρ : Env) : R XV := (fa ρ).bind fun x ρ1 => match ownF i c f ρ1 with
  | some p => (match view x (pt ρ1 i none) with
    | some d => (match op d (.lst p.2) with
      | some t => .ok (.v t.1 t.2) ρ1
      | none => .bad)
    | none => .bad)
  | none => (sFld c f (sVar i) ρ1).bind fun y ρ2 => op2 op x y ρ2
/-- a built-in of name.f -/
def sClF (cf : List D → Option T) (i : Nat) (c f : Str) (ρ : Env) : R XV := match ownF i c f ρ with
  | some p => (match cf [.lst p.2] with
    | some t => .ok (.v t.1 t.2) ρ
    | none => .bad)
  | none => sCl cf (sCons (sFld c f (sVar i)) sNil) ρ
section
variable {X : Cx} {W : WX} {b e : Expr} {fa fb : Env → R XV} {c f x : Str} {i : Nat} {p pos apos : Pos}
end
end Lz
namespace Lz
open PySem PySem.Spec PyProof.Rows L2
def setF2 (i : Nat) (c f : Str) (p : List (Str × Bool × D) × List D) (k : Int) (d : D) (ρ : Env) : R Fl := match ixN p.2.length k, gt ρ i with
  | some m, none => .ok .nx (pt ρ i (some (true, .ob c (putO f (true, .lst (p.2.set m d)) p.1))))
  | _, _ => .bad
def setF1 (i : Nat) (c f : Str) (p : List (Str × Bool × D) × List D) (y z : XV) (ρ : Env) : R Fl := match view z ρ with
  | some (.int k) => (frz y ρ).bind (setF2 i c f p k)
  | _ => .bad
def xSetF (fe : Env → R XV) (i : Nat) (c f : Str) (fi : Env → R XV) (ρ : Env) : R Fl := (fe ρ).bind fun y ρ1 => match ownF i c f ρ1 with
  | some p => (noX (fi (pt ρ1 i none))).bind (setF1 i c f p y)
  | none => .bad
section
variable {X : Cx} {W : WX} {pin : List Nat} {e ie : Expr} {fe fi : Env → R XV} {c f x : Str} {i : Nat} {p pos apos p2 : Pos}
end
def frzF (i : Nat) (f : Str) (ρ : Env) : Env := match gt ρ i with
  | some (true, .ob c gs) => (match gs.lookup f with
    | some t => pt ρ i (some (true, .ob c (putO f (false, t.2) gs)))
    | none => ρ)
  | _ => ρ
def frzL (i : Nat) (ρ : Env) : Env := match gt ρ i with
  | some (true, .lol rs) => pt ρ i (some (true, .lst rs))
  | _ => ρ
def xGh (g : Env → Env) (f : Env → R Fl) (ρ : Env) : R Fl := f (g ρ)
section
variable {K : PySem.W.Frag} {H : Hp} {av : Addr → Prop} {L : List VT}
theorem OwnRs.snoc {b : Addr} {vs : List V} {ds : List D} (h : H b = some (.lst vs)) (r : RepAll K H av vs ds) : ∀ {us : List V} {rs : List D} {w : List Addr}, OwnRs K H av us rs w → OwnRs K H av (us ++ [.ref b]) (rs ++ [.lst ds]) (w ++ [b])
  | _, _, _, .nil => .cons h r .nil
  | _, _, _, .cons q r2 t => .cons q r2 (OwnRs.snoc h r t)
theorem OwnRs.length : ∀ {us : List V} {rs : List D} {w : List Addr}, OwnRs K H av us rs w → us.length = rs.length
  | _, _, _, .nil => rfl
  | _, _, _, .cons _ _ t => by rw [List.length_cons, List.length_cons, OwnRs.length t]
theorem OwnRs.chg {H' : Hp} {b : Addr} {vs' : List V} {ds' : List D} (k : Kp H H' av av) (hb : H' b = some (.lst vs')) (r' : RepAll K H' av vs' ds') : ∀ {us : List V} {rs : List D} {w : List Addr} {m : Nat}, OwnRs K H av us rs w → w.Nodup → us[m]? = some (.ref b) → (∀ x ∈ w, x ≠ b → H' x = H x) →
    OwnRs K H' av us (rs.set m (.lst ds')) w
  | _, _, _, _, .nil, _, h, _ => by simp at h
  | _, _, _, 0, .cons (b := b2) q r t, n, h, hw => by
    simp at h
    subst h
    have n1 := (List.nodup_cons.mp n).1
    exact .cons hb r' (t.mono k fun x hx => hw x (List.mem_cons_of_mem _ hx) fun e => n1 (e ▸ hx))
  | _, _, _, m + 1, .cons (b := b2) (us := us) q r t, n, h, hw => by
    have n1 := (List.nodup_cons.mp n).1
    have h' : us[m]? = some (.ref b) := by simpa using h
    have ne : b2 ≠ b := fun e => by
      have mem : ∀ {us : List V} {rs : List D} {w : List Addr} {m : Nat}, OwnRs K H av us rs w → us[m]? = some (V.ref b) → b ∈ w := by
        intro us rs w m o
        induction o generalizing m with
        | nil => intro h; simp at h
        | cons q r t ih =>
          intro h
          cases m with
          | zero => simp at h; rw [h]; exact List.mem_cons_self
          | succ m => exact List.mem_cons_of_mem _ (ih (m := m) (by simpa using h))
      exact n1 (e ▸ mem t h')
    exact .cons (by rw [hw _ List.mem_cons_self ne]; exact q) (r.mono k) (OwnRs.chg k hb r' t (List.nodup_cons.mp n).2 h' fun x hx => hw x (List.mem_cons_of_mem _ hx))
end
section
variable {X : Cx} {W : WX} {pin : List Nat} {st : Stmt} {rest : List Stmt} {f : Env → R Fl} {g : Env → Env}
end
def rowX (x : XV) (ρ : Env) : R (List D) := match x with
  | .v true (.lst ds) => .ok ds ρ
  | _ => .bad
def compLO (own : List Nat) (g : D → Env → Option Env) (c : Env → R Bool) (f : Env → R XV) : List D → Env → R (List D)
  | [], ρ => .ok [] ρ
  | d :: ds, ρ => match g d ρ with
    | none => .bad
    | some ρ1 => (c ρ1).bind fun b ρ2 => if b = true then (f ρ2).bind fun x ρ3 => (rowX x ρ3).bind fun e ρ4 => (compLO own g c f ds (clr own ρ4)).bind fun es ρ5 => .ok (.lst e :: es) ρ5
      else compLO own g c f ds (clr own ρ2)
def sCompO (own : List Nat) (si : Env → R Its) (g : D → Env → Option Env) (c : Env → R Bool) (f : Env → R XV) (ρ : Env) : R XV :=
  (si ρ).bind fun it ρ1 => relk it.lk ((noX (compLO own g c f it.items (clr own ρ1))).bind fun es ρ2 => .ok (.v true (.lol es)) (rest own ρ1 ρ2))
section
variable {X : Cx} {W : WX} {elt tg iter : Expr} {ifs : List Expr} {scope : Scope} {own : List (Str × Nat)} {pos : Pos} {si : Env → R Its} {g : D → Env → Option Env} {c : Env → R Bool} {f : Env → R XV}
end
def setL2 (i j1 j2 : Nat) (d : D) (ρ : Env) : R Fl := match gt ρ i, gt ρ j1, gt ρ j2 with
  | some (true, .lol rows), some (false, .int k1), some (false, .int k2) => (match ixN rows.length k1 with
    | some m1 => (match rows[m1]? with
      | some (.lst ds) => (match ixN ds.length k2 with
        | some m2 => .ok .nx (pt ρ i (some (true, .lol (rows.set m1 (.lst (ds.set m2 d))))))
        | none => .bad)
      | _ => .bad)
    | none => .bad)
  | _, _, _ => .bad
def xSetL2 (fe : Env → R XV) (i j1 j2 : Nat) (ρ : Env) : R Fl := (fe ρ).bind fun y ρ1 => (frz y ρ1).bind (setL2 i j1 j2)
section
variable {X : Cx} {W : WX} {pin : List Nat} {e : Expr} {fe : Env → R XV} {x x1 x2 : Str} {p q1 q2 pos apos p2 : Pos}
end
end Lz
namespace Lz
open PySem PySem.Spec PyProof.Rows L2
theorem xWhile_more {c : Env → R Bool} {f : Env → R Fl} : ∀ (n m : Nat) (ρ : Env), n ≤ m → xWhile c f n ρ ≠ .bad → xWhile c f m ρ = xWhile c f n ρ
  | 0, _, _, _, h => absurd rfl h
  | n + 1, 0, _, h, _ => by omega
  | n + 1, m + 1, ρ, hl, h => by
    unfold xWhile at h ⊢
    cases e : c ρ with
    | bad => rfl
    | exc x ρ1 => rfl
    | ok b ρ1 =>
      rw [e] at h
      cases b with
      | false => rfl
      | true =>
        have h' : (match f ρ1 with
          | .ok .nx ρ' => xWhile c f n ρ'
          | .ok .ct ρ' => xWhile c f n ρ'
          | .ok .bk ρ' => .ok .nx ρ'
          | .ok (.rt t) ρ' => .ok (.rt t) ρ'
          | .ok (.ra t) ρ' => .ok (.ra t) ρ'
          | .exc c ρ' => .exc c ρ'
          | .bad => .bad) ≠ R.bad := h
        show (match f ρ1 with
          | .ok .nx ρ' => xWhile c f m ρ'
          | .ok .ct ρ' => xWhile c f m ρ'
          | .ok .bk ρ' => .ok .nx ρ'
          | .ok (.rt t) ρ' => .ok (.rt t) ρ'
          | .ok (.ra t) ρ' => .ok (.ra t) ρ'
          | .exc c ρ' => .exc c ρ'
          | .bad => .bad) = (match f ρ1 with
          | .ok .nx ρ' => xWhile c f n ρ'
          | .ok .ct ρ' => xWhile c f n ρ'
          | .ok .bk ρ' => .ok .nx ρ'
          | .ok (.rt t) ρ' => .ok (.rt t) ρ'
          | .ok (.ra t) ρ' => .ok (.ra t) ρ'
          | .exc c ρ' => .exc c ρ'
          | .bad => .bad)
        cases ef : f ρ1 with
        | bad => rfl
        | exc x ρ2 => rfl
        | ok a ρ2 =>
          rw [ef] at h'
          cases a with
          | nx => exact xWhile_more n m ρ2 (by omega) h'
          | ct => exact xWhile_more n m ρ2 (by omega) h'
          | bk => rfl
          | rt t => rfl
          | ra t => rfl
open Classical in
noncomputable def xWU (c : Env → R Bool) (f : Env → R Fl) (ρ : Env) : R Fl := if h : ∃ n, xWhile c f n ρ ≠ .bad then xWhile c f (Classical.choose h) ρ else .bad
theorem xWU_of {c : Env → R Bool} {f : Env → R Fl} {ρ : Env} {n : Nat} (h : xWhile c f n ρ ≠ .bad) : xWU c f ρ = xWhile c f n ρ := by
  have q : ∃ n, xWhile c f n ρ ≠ .bad := ⟨n, h⟩
  unfold xWU
  rw [dif_pos q]
  have h2 := Classical.choose_spec q
  rcases Nat.le_total n (Classical.choose q) with l | l
  · exact xWhile_more _ _ _ l h
  · exact (xWhile_more _ _ _ l h2).symm
theorem xWU_no {c : Env → R Bool} {f : Env → R Fl} {ρ : Env} (h : ¬ ∃ n, xWhile c f n ρ ≠ .bad) : xWU c f ρ = .bad := by unfold xWU; rw [dif_neg h]
section
variable {c : Env → R Bool} {f : Env → R Fl} {ρ ρ1 ρ2 : Env}
theorem xWhile_nx (n : Nat) (h1 : c ρ = .ok true ρ1) (h2 : f ρ1 = .ok .nx ρ2) : xWhile c f (n + 1) ρ = xWhile c f n ρ2 := by
  rw [xWhile, h1]
  dsimp only [R.bind]
  rw [if_pos rfl, h2]
theorem xWU_nx (h1 : c ρ = .ok true ρ1) (h2 : f ρ1 = .ok .nx ρ2) : xWU c f ρ = xWU c f ρ2 := by
  by_cases q : ∃ n, xWhile c f n ρ2 ≠ .bad
  · obtain ⟨n, hn⟩ := q
    have e := xWhile_nx n h1 h2
    rw [xWU_of hn, ← e]
    exact xWU_of (by rw [e]; exact hn)
  · rw [xWU_no q]
    refine xWU_no fun ⟨n, hn⟩ => ?_
    cases n with
    | zero => exact hn rfl
    | succ n => exact q ⟨n, by rw [← xWhile_nx n h1 h2]; exact hn⟩
theorem xWU_stop (h1 : c ρ = .ok false ρ1) : xWU c f ρ = .ok .nx ρ1 := by
  have e : xWhile c f 1 ρ = .ok .nx ρ1 := by rw [xWhile, h1]; rfl
  rw [xWU_of (n := 1) (by rw [e]; intro h; cases h), e]
theorem xWU_rt {t : T} (h1 : c ρ = .ok true ρ1) (h2 : f ρ1 = .ok (.rt t) ρ2) : xWU c f ρ = .ok (.rt t) ρ2 := by
  have e : xWhile c f 1 ρ = .ok (.rt t) ρ2 := by
    rw [xWhile, h1]
    dsimp only [R.bind]
    rw [if_pos rfl, h2]
  rw [xWU_of (n := 1) (by rw [e]; intro h; cases h), e]
end
section
variable {X : Cx} {W : WX} {pin : List Nat} {c : Expr} {body : List Stmt} {gc : Env → R Bool} {f : Env → R Fl} {pos : Pos}
theorem whU (hpo : PassesOwn (model X.prog X.w) X.A X.env X.xe) (hc : SB X W c gc) (hb : SSs X W pin body f) : SS X W pin (.While c body [] pos) (xWU gc f) := by
  refine ⟨fun pins s σ H E I q => ?_⟩
  obtain ⟨ρ, hs, σ0, st, hp, h⟩ := q
  by_cases z : ∃ n, xWhile gc f n ρ ≠ .bad
  · obtain ⟨n, hn⟩ := z
    rw [xWU_of hn] at h
    exact (wh n hpo hc hb).run pins s σ H E I ⟨ρ, hs, σ0, st, hp, h⟩
  · rw [xWU_no z] at h
    exact h.elim
end
end Lz
namespace Lz
open PySem PySem.Spec PyProof.Rows L2 RZ
section
variable {P : Program} {w : World} {K : PySem.W.Frag} {elts : List Expr} {kk : Nat} {tpos : Pos}
end
section
variable {X : Cx} {e : Expr} {ta : TA} {p pos tpos : Pos} {elts : List Expr} {kk : Nat}
end
def enumTK (ds : List D) (ρ : Env) : R Its := match ds with
  | [.tup as] => .ok ⟨enumD 0 as, none⟩ ρ
  | _ => .bad
def enumTX (xs : List XV) (ρ : Env) : R Its := (frzs xs ρ).bind enumTK
def sEnumT (f : Env → R (List XV)) (ρ : Env) : R Its := (f ρ).bind enumTX
section
variable {X : Cx} {W : WX} {elts : List Expr} {kk : Nat} {tpos : Pos}
end
section
variable {ρ : Env}
@[simp] theorem sEnumT_ev {f : Env → R (List XV)} : sEnumT f ρ = (f ρ).bind enumTX := rfl
@[simp] theorem enumTX_ev {xs : List XV} : enumTX xs ρ = (frzs xs ρ).bind enumTK := rfl
@[simp] theorem enumTK_t {as : List D} : enumTK [.tup as] ρ = .ok ⟨enumD 0 as, none⟩ ρ := rfl
end
end Lz
namespace Lz
open PySem PySem.Spec PyProof.Rows L2
def sBad (_ : Env) : R XV := .bad
def xBad (_ : Env) : R Fl := .bad
section
variable {X : Cx} {W : WX} {pin : List Nat}
end
@[simp] theorem sBad_ev {ρ : Env} : sBad ρ = .bad := rfl
@[simp] theorem xBad_ev {ρ : Env} : xBad ρ = .bad := rfl
section
variable {X : Cx}
end
section
variable {X : Cx} {W : WX} {o e : Expr} {fa : Env → R XV} {f : Env → R (List XV)} {apos cpos : Pos}
end
theorem Sep.fn {K : PySem.W.Frag} {H : Hp} {L : List VT} {v : V} {o : Bool} {n : Str} (s : Sep K H L) (m : (v, (o, D.fn n)) ∈ L) : v = .ref (He.fAd K (n, none)) := by
  obtain ⟨ws, w⟩ := s
  cases w.any m
  rfl
/-- a def of one's own, by its name, at its place -/
def OkV (P : Program) (w : World) (K : PySem.W.Frag) (mg : Str → Option Value) (base : Heap) (x : Str) (k : Nat) (F : List T → FR) : Prop :=
  ∃ (fd : FuncData) (ps : List Str), FnOk P w K mg base (L2.CX P w) k (He.fAd K (x, none)) fd ps (spF K F) ∧ PySem.W.keepIn K (.ref (He.fAd K (x, none))) = true ∧ Binds K fd ps []
theorem OkF.v {P : Program} {w : World} {K : PySem.W.Frag} {mg : Str → Option Value} {base : Heap} {x : Str} {k : Nat} {F : List T → FR} (h : OkF P w K mg base x k F) (hm : mg x = some (.ref (He.fAd K (x, none)))) : OkV P w K mg base x k F := by
  obtain ⟨f, fd, ps, h1, h2, h3, h4⟩ := h
  have e := h2.symm.trans hm
  cases e
  exact ⟨fd, ps, h1, h3, h4⟩
inductive OkVs (P : Program) (w : World) (K : PySem.W.Frag) (mg : Str → Option Value) (base : Heap) (A : Around) : List (Str × (List T → FR)) → Prop
  | nil : OkVs P w K mg base A []
  | cons {x : Str} {k : Nat} {F : List T → FR} {tb : List (Str × (List T → FR))} : OkV P w K mg base x k F → Room k A → OkVs P w K mg base A tb → OkVs P w K mg base A ((x, F) :: tb)
theorem OkVs.at {P : Program} {w : World} {K : PySem.W.Frag} {mg : Str → Option Value} {base : Heap} {A : Around} : ∀ {tb : List (Str × (List T → FR))} {x : Str} {F : List T → FR}, OkVs P w K mg base A tb → tb.lookup x = some F → ∃ k, OkV P w K mg base x k F ∧ Room k A
  | _, _, _, .nil, h => by cases h
  | _, x, F, .cons (x := y) h1 h2 t, h => by
    rw [List.lookup_cons] at h
    split at h
    · rename_i e
      cases h
      have e2 := eq_of_beq e
      subst e2
      exact ⟨_, h1, h2⟩
    · exact OkVs.at t h
def callN (tb : List (Str × (List T → FR))) (fa : Env → R (List XV)) (d : Option D) (ρ : Env) : R XV := match d with
  | some (.fn n) => (match tb.lookup n with
    | some F => (fa ρ).bind (opF F)
    | none => .bad)
  | _ => .bad
def sCallV (tb : List (Str × (List T → FR))) (fe : Env → R XV) (fa : Env → R (List XV)) (ρ : Env) : R XV := (fe ρ).bind fun x ρ => callN tb fa (view x ρ) ρ
section
variable {X : Cx} {W : WX} {fe e : Expr} {es : List Expr} {ff : Env → R XV} {fa : Env → R (List XV)} {tb : List (Str × (List T → FR))} {pos : Pos}
end
end Lz
namespace HT
open PySem PySem.Spec PyProof.Rows
section
variable {prog : Program} {w : World} {A : Around} {E : Value → Shared → Prop} {s : Shared}
end
end HT
namespace Lz
open PySem PySem.Spec PyProof.Rows L2
def opRev : D → Option T
  | .tup xs => some (false, .tup xs.reverse)
  | .lst xs => some (true, .lst xs.reverse)
  | _ => none
section
variable {X : Cx} {W : WX} {e : Expr} {f : Env → R XV} {k : Nat} {p1 p2 p3 pos : Pos}
end
def gAtt (i : Nat) (c f : Str) (d : D) (ρ : Env) : Option Env := match gt ρ i with
  | some (true, .ob c' gs) => if c' = c ∧ gs.length < 1000 then some (pt ρ i (some (true, .ob c (putO f (false, d) gs)))) else none
  | _ => none
section
variable {X : Cx} {pin : List Nat} {c f x : Str} {i : Nat} {p pos' : Pos}
end
section
variable {ρ : Env} {i : Nat} {c f : Str} {d : D}
def gAttK (i : Nat) (c f : Str) (d : D) (ρ : Env) : Option T → Option Env
  | some (true, .ob c' gs) => if c' = c ∧ gs.length < 1000 then some (pt ρ i (some (true, .ob c (putO f (false, d) gs)))) else none
  | _ => none
@[simp] theorem gAttK_s {c' : Str} {gs : List (Str × Bool × D)} : gAttK i c f d ρ (some (true, .ob c' gs)) = if c' = c ∧ gs.length < 1000 then some (pt ρ i (some (true, .ob c (putO f (false, d) gs)))) else none := rfl
@[simp] theorem gAtt_ev : gAtt i c f d ρ = gAttK i c f d ρ (gt ρ i) := by
  unfold gAtt gAttK
  rfl
@[simp] theorem opRev_t {xs : List D} : opRev (.tup xs) = some (false, .tup xs.reverse) := rfl
@[simp] theorem opRev_l {xs : List D} : opRev (.lst xs) = some (true, .lst xs.reverse) := rfl
end
section
variable {ρ : Env} {tb : List (Str × (List T → FR))} {fa : Env → R (List XV)} {fe : Env → R XV}
def callM (fa : Env → R (List XV)) (ρ : Env) : Option (List T → FR) → R XV
  | some F => (fa ρ).bind (opF F)
  | none => .bad
@[simp] theorem callM_s {F : List T → FR} : callM fa ρ (some F) = (fa ρ).bind (opF F) := rfl
@[simp] theorem callN_s {n : Str} : callN tb fa (some (.fn n)) ρ = callM fa ρ (tb.lookup n) := by
  unfold callN callM
  rfl
def callK (tb : List (Str × (List T → FR))) (fa : Env → R (List XV)) (x : XV) (ρ : Env) : R XV := callN tb fa (view x ρ) ρ
@[simp] theorem callK_ev {x : XV} : callK tb fa x ρ = callN tb fa (view x ρ) ρ := rfl
@[simp] theorem sCallV_ev : sCallV tb fe fa ρ = (fe ρ).bind (callK tb fa) := rfl
end
end Lz
namespace Lz
open PySem PySem.Spec PyProof.Rows L2 RZ
section
variable {P : Program} {w : World} {K : PySem.W.Frag} {elts : List Expr} {kk : Nat} {tpos : Pos} {a b z TI TO i1 i2 : Addr} {n1 n2 : Nat}
end
section
variable {X : Cx} {e e2 : Expr} {ta : TA} {p pos tpos : Pos} {elts : List Expr} {kk : Nat}
end
def zipMK (ds : List D) (ρ : Env) : R Its := match ds with
  | [.tup as, .lst bs] => .ok ⟨zipD as bs, none⟩ ρ
  | _ => .bad
def zipMX (xs : List XV) (ρ : Env) : R Its := (frzs xs ρ).bind zipMK
def sZipM (f : Env → R (List XV)) (ρ : Env) : R Its := (f ρ).bind zipMX
section
variable {X : Cx} {W : WX} {elts : List Expr} {kk : Nat} {tpos : Pos}
end
section
variable {ρ : Env}
@[simp] theorem sZipM_ev {f : Env → R (List XV)} : sZipM f ρ = (f ρ).bind zipMX := rfl
@[simp] theorem zipMX_ev {xs : List XV} : zipMX xs ρ = (frzs xs ρ).bind zipMK := rfl
@[simp] theorem zipMK_tl {as bs : List D} : zipMK [.tup as, .lst bs] ρ = .ok ⟨zipD as bs, none⟩ ρ := rfl
end
end Lz
namespace Lz
open PySem PySem.Spec PyProof.Rows L2
def clrE (i : Nat) : R Fl → R Fl
  | .ok .nx ρ => .ok .nx (pt ρ i none)
  | .ok (.rt t) ρ => .ok (.rt t) (pt ρ i none)
  | _ => .bad
def isX (a : Addr) (x c : Str) (d : D) : Option T := match d with
  | .xc b => if b = a then pB (excSub x c) else none
  | _ => none
@[simp] theorem isX_s {a : Addr} {x c : Str} : isX a x c (.xc a) = pB (excSub x c) := if_pos rfl
section
variable {X : Cx} {W : WX} {x : Str} {xs cs : List Str} {body suite : List Stmt} {b₀ : Stmt} {np pos pos' : Pos} {pin : List Nat} {f : Env → R Fl}
end
section
variable {ρ : Env} {i : Nat} {t : T}
@[simp] theorem clrE_nx : clrE i (.ok .nx ρ) = .ok .nx (pt ρ i none) := rfl
@[simp] theorem clrE_rt : clrE i (.ok (.rt t) ρ) = .ok (.rt t) (pt ρ i none) := rfl
end
section
variable {X : Cx}
end
section
variable {X : Cx} {W : WX} {o e : Expr} {fa : Env → R XV} {f : Env → R (List XV)} {apos cpos : Pos}
end
end Lz
namespace Lz
open PySem PySem.Spec PyProof.Rows L2
@[simp] theorem lim_ev : lim = 16777216 := rfl
@[simp] theorem gt_z {x : Option T} {r : Env} : gt (x :: r) 0 = x := rfl
@[simp] theorem gt_s {x : Option T} {r : Env} {n : Nat} : gt (x :: r) (n + 1) = gt r n := rfl
@[simp] theorem pt_z {x y : Option T} {r : Env} : pt (x :: r) 0 y = y :: r := rfl
@[simp] theorem pt_s {x y : Option T} {r : Env} {n : Nat} : pt (x :: r) (n + 1) y = x :: pt r n y := rfl
@[simp] theorem bind_ok {α β : Type} {a : α} {ρ : Env} {k : α → Env → R β} : (R.ok a ρ).bind k = k a ρ := rfl
@[simp] theorem bind_exc {α β : Type} {c : Str} {ρ : Env} {k : α → Env → R β} : (R.exc c ρ : R α).bind k = .exc c ρ := rfl
@[simp] theorem bind_bad {α β : Type} {k : α → Env → R β} : (R.bad : R α).bind k = .bad := rfl
section
variable {ρ : Env} {i : Nat} {d : D} {x : XV} {o : Bool}
@[simp] theorem sC_ev : sC d ρ = .ok (.v false d) ρ := rfl
@[simp] theorem view_v : view (.v o d) ρ = some d := rfl
def viewK : Option T → Option D
  | some t => some t.2
  | none => none
@[simp] theorem viewK_s {t : T} : viewK (some t) = some t.2 := rfl
@[simp] theorem view_b : view (.b i) ρ = viewK (gt ρ i) := by show (gt ρ i).map _ = _; cases gt ρ i <;> rfl
def varK (i : Nat) (ρ : Env) : Option T → R XV
  | some (true, _) => .ok (.b i) ρ
  | some (false, d) => .ok (.v false d) ρ
  | none => .bad
@[simp] theorem varK_t : varK i ρ (some (true, d)) = .ok (.b i) ρ := rfl
@[simp] theorem varK_f : varK i ρ (some (false, d)) = .ok (.v false d) ρ := rfl
@[simp] theorem sVar_ev : sVar i ρ = varK i ρ (gt ρ i) := by
  unfold sVar varK
  cases gt ρ i with
  | none => rfl
  | some t => obtain ⟨o, d⟩ := t; cases o <;> rfl
def ansK (ρ : Env) : Option T → R XV
  | some t => .ok (.v t.1 t.2) ρ
  | none => .bad
@[simp] theorem ansK_s {t : T} : ansK ρ (some t) = .ok (.v t.1 t.2) ρ := rfl
@[simp] theorem ansK_n : ansK ρ none = .bad := rfl
def op2K (f : D → D → Option T) (ρ : Env) : Option D → Option D → R XV
  | some d, some e => ansK ρ (f d e)
  | _, _ => .bad
@[simp] theorem op2K_s {f : D → D → Option T} {d e : D} : op2K f ρ (some d) (some e) = ansK ρ (f d e) := rfl
@[simp] theorem op2_ev {f : D → D → Option T} {x y : XV} : op2 f x y ρ = op2K f ρ (view x ρ) (view y ρ) := by
  unfold op2 op2K ansK
  cases view x ρ <;> cases view y ρ <;> try rfl
def kBin (f : D → D → Option T) (b : Env → R XV) (x : XV) (ρ : Env) : R XV := (b ρ).bind (op2 f x)
@[simp] theorem kBin_ev {f : D → D → Option T} {b : Env → R XV} : kBin f b x ρ = (b ρ).bind (op2 f x) := rfl
@[simp] theorem sBin_ev {f : D → D → Option T} {a b : Env → R XV} : sBin f a b ρ = (a ρ).bind (kBin f b) := rfl
def op1K (f : D → Option T) (ρ : Env) : Option D → R XV
  | some d => ansK ρ (f d)
  | _ => .bad
@[simp] theorem op1K_s {f : D → Option T} {d : D} : op1K f ρ (some d) = ansK ρ (f d) := rfl
@[simp] theorem op1_ev {f : D → Option T} {x : XV} : op1 f x ρ = op1K f ρ (view x ρ) := by
  unfold op1 op1K ansK
  cases view x ρ <;> rfl
@[simp] theorem sUn_ev {f : D → Option T} {a : Env → R XV} : sUn f a ρ = (a ρ).bind (op1 f) := rfl
def asBK (ρ : Env) : Option D → R Bool
  | some (.bl b) => .ok b ρ
  | _ => .bad
@[simp] theorem asBK_s {b : Bool} : asBK ρ (some (.bl b)) = .ok b ρ := rfl
@[simp] theorem asB_ev {x : XV} : asB x ρ = asBK ρ (view x ρ) := by
  unfold asB asBK
  cases view x ρ with
  | none => rfl
  | some d => cases d <;> rfl
@[simp] theorem sB_ev {f : Env → R XV} : sB f ρ = (f ρ).bind asB := rfl
def andK (g : Env → R Bool) (c : Bool) (ρ : Env) : R Bool := match c with
  | true => g ρ
  | false => .ok false ρ
@[simp] theorem andK_t {g : Env → R Bool} : andK g true ρ = g ρ := rfl
@[simp] theorem andK_f {g : Env → R Bool} : andK g false ρ = .ok false ρ := rfl
@[simp] theorem bAnd_ev {f g : Env → R Bool} : bAnd f g ρ = (f ρ).bind (andK g) := by unfold bAnd; congr 1; funext c ρ; cases c <;> rfl
def orK (g : Env → R Bool) (c : Bool) (ρ : Env) : R Bool := match c with
  | true => .ok true ρ
  | false => g ρ
@[simp] theorem orK_t {g : Env → R Bool} : orK g true ρ = .ok true ρ := rfl
@[simp] theorem orK_f {g : Env → R Bool} : orK g false ρ = g ρ := rfl
@[simp] theorem bOr_ev {f g : Env → R Bool} : bOr f g ρ = (f ρ).bind (orK g) := by unfold bOr; congr 1; funext c ρ; cases c <;> rfl
def notK (c : Bool) (ρ : Env) : R Bool := .ok (!c) ρ
@[simp] theorem notK_ev {c : Bool} : notK c ρ = .ok (!c) ρ := rfl
@[simp] theorem bNot_ev {f : Env → R Bool} : bNot f ρ = (f ρ).bind notK := rfl
def ofBK (c : Bool) (ρ : Env) : R XV := .ok (.v false (.bl c)) ρ
@[simp] theorem ofBK_ev {c : Bool} : ofBK c ρ = .ok (.v false (.bl c)) ρ := rfl
@[simp] theorem sOfB_ev {f : Env → R Bool} : sOfB f ρ = (f ρ).bind ofBK := rfl
def sAndK (g : Env → R XV) (c : Bool) (ρ : Env) : R XV := match c with
  | true => g ρ
  | false => .ok (.v false (.bl false)) ρ
@[simp] theorem sAndK_t {g : Env → R XV} : sAndK g true ρ = g ρ := rfl
@[simp] theorem sAndK_f {g : Env → R XV} : sAndK g false ρ = .ok (.v false (.bl false)) ρ := rfl
@[simp] theorem sAnd_ev {f : Env → R Bool} {g : Env → R XV} : sAnd f g ρ = (f ρ).bind (sAndK g) := by unfold sAnd; congr 1; funext c ρ; cases c <;> rfl
def sOrK (g : Env → R XV) (c : Bool) (ρ : Env) : R XV := match c with
  | true => .ok (.v false (.bl true)) ρ
  | false => g ρ
@[simp] theorem sOrK_t {g : Env → R XV} : sOrK g true ρ = .ok (.v false (.bl true)) ρ := rfl
@[simp] theorem sOrK_f {g : Env → R XV} : sOrK g false ρ = g ρ := rfl
@[simp] theorem sOr_ev {f : Env → R Bool} {g : Env → R XV} : sOr f g ρ = (f ρ).bind (sOrK g) := by unfold sOr; congr 1; funext c ρ; cases c <;> rfl
@[simp] theorem sNil_ev : sNil ρ = .ok [] ρ := rfl
def consK2 (x : XV) (xs : List XV) (ρ : Env) : R (List XV) := .ok (x :: xs) ρ
@[simp] theorem consK2_ev {xs : List XV} : consK2 x xs ρ = .ok (x :: xs) ρ := rfl
def consK (g : Env → R (List XV)) (x : XV) (ρ : Env) : R (List XV) := (g ρ).bind (consK2 x)
@[simp] theorem consK_ev {g : Env → R (List XV)} : consK g x ρ = (g ρ).bind (consK2 x) := rfl
@[simp] theorem sCons_ev {f : Env → R XV} {g : Env → R (List XV)} : sCons f g ρ = (f ρ).bind (consK g) := rfl
@[simp] theorem frz_v : frz (.v o d) ρ = .ok d ρ := rfl
def frzK (i : Nat) (ρ : Env) : Option T → R D
  | some t => .ok t.2 (pt ρ i (some (false, t.2)))
  | none => .bad
@[simp] theorem frzK_s {t : T} : frzK i ρ (some t) = .ok t.2 (pt ρ i (some (false, t.2))) := rfl
@[simp] theorem frz_b : frz (.b i) ρ = frzK i ρ (gt ρ i) := by unfold frz frzK; (try dsimp only); try (cases gt ρ i <;> rfl)
@[simp] theorem frzs_nil : frzs [] ρ = .ok [] ρ := rfl
def frzsK2 (d : D) (ds : List D) (ρ : Env) : R (List D) := .ok (d :: ds) ρ
@[simp] theorem frzsK2_ev {ds : List D} : frzsK2 d ds ρ = .ok (d :: ds) ρ := rfl
def frzsK (xs : List XV) (d : D) (ρ : Env) : R (List D) := (frzs xs ρ).bind (frzsK2 d)
@[simp] theorem frzsK_ev {xs : List XV} : frzsK xs d ρ = (frzs xs ρ).bind (frzsK2 d) := rfl
@[simp] theorem frzs_cons {xs : List XV} : frzs (x :: xs) ρ = (frz x ρ).bind (frzsK xs) := rfl
def tupK2 (ds : List D) (ρ : Env) : R XV := if ds.length ≤ lim then .ok (.v false (.tup ds)) ρ else .bad
@[simp] theorem tupK2_ev {ds : List D} : tupK2 ds ρ = if ds.length ≤ lim then .ok (.v false (.tup ds)) ρ else .bad := rfl
def tupK (xs : List XV) (ρ : Env) : R XV := (frzs xs ρ).bind tupK2
@[simp] theorem tupK_ev {xs : List XV} : tupK xs ρ = (frzs xs ρ).bind tupK2 := rfl
@[simp] theorem sTup_ev {f : Env → R (List XV)} : sTup f ρ = (f ρ).bind tupK := rfl
def lstK2 (ds : List D) (ρ : Env) : R XV := if ds.length ≤ lim then .ok (.v true (.lst ds)) ρ else .bad
@[simp] theorem lstK2_ev {ds : List D} : lstK2 ds ρ = if ds.length ≤ lim then .ok (.v true (.lst ds)) ρ else .bad := rfl
def lstK (xs : List XV) (ρ : Env) : R XV := (frzs xs ρ).bind lstK2
@[simp] theorem lstK_ev {xs : List XV} : lstK xs ρ = (frzs xs ρ).bind lstK2 := rfl
@[simp] theorem sLst_ev {f : Env → R (List XV)} : sLst f ρ = (f ρ).bind lstK := rfl
@[simp] theorem views_nil : views [] ρ = some [] := rfl
def vcK : Option D → Option (List D) → Option (List D)
  | some d, some ds => some (d :: ds)
  | _, _ => none
@[simp] theorem vcK_s {ds : List D} : vcK (some d) (some ds) = some (d :: ds) := rfl
@[simp] theorem views_cons {xs : List XV} : views (x :: xs) ρ = vcK (view x ρ) (views xs ρ) := by
  show (view x ρ).bind _ = _
  cases view x ρ <;> cases views xs ρ <;> rfl
def opNK (cf : List D → Option T) (ρ : Env) : Option (List D) → R XV
  | some ds => ansK ρ (cf ds)
  | none => .bad
@[simp] theorem opNK_s {cf : List D → Option T} {ds : List D} : opNK cf ρ (some ds) = ansK ρ (cf ds) := rfl
@[simp] theorem opN_ev {cf : List D → Option T} {xs : List XV} : opN cf xs ρ = opNK cf ρ (views xs ρ) := by
  unfold opN opNK ansK
  cases views xs ρ <;> rfl
@[simp] theorem sCl_ev {cf : List D → Option T} {f : Env → R (List XV)} : sCl cf f ρ = (f ρ).bind (opN cf) := rfl
@[simp] theorem sOpt_none : sOpt none ρ = .ok none ρ := rfl
def optK2 (ρ : Env) : Option D → R (Option Int)
  | some (.int i) => .ok (some i) ρ
  | _ => .bad
@[simp] theorem optK2_s {i : Int} : optK2 ρ (some (.int i)) = .ok (some i) ρ := rfl
def optK (x : XV) (ρ : Env) : R (Option Int) := optK2 ρ (view x ρ)
@[simp] theorem optK_ev : optK x ρ = optK2 ρ (view x ρ) := rfl
@[simp] theorem sOpt_some {f : Env → R XV} : sOpt (some f) ρ = (f ρ).bind optK := by
  unfold sOpt
  dsimp only
  congr 1
def slK3 (f : D → Option Int → Option Int → Option T) (x : XV) (l h : Option Int) (ρ : Env) : R XV := op1K (fun d => f d l h) ρ (view x ρ)
def slK4 (f : D → Option Int → Option Int → Option T) (l h : Option Int) (ρ : Env) : Option D → R XV
  | some d => ansK ρ (f d l h)
  | none => .bad
@[simp] theorem slK4_s {f : D → Option Int → Option Int → Option T} {l h : Option Int} : slK4 f l h ρ (some d) = ansK ρ (f d l h) := rfl
@[simp] theorem slK3_ev {f : D → Option Int → Option Int → Option T} {l h : Option Int} : slK3 f x l h ρ = slK4 f l h ρ (view x ρ) := by
  unfold slK3 slK4 op1K
  cases view x ρ <;> rfl
def slK2 (f : D → Option Int → Option Int → Option T) (hi : Option (Env → R XV)) (x : XV) (l : Option Int) (ρ : Env) : R XV := (sOpt hi ρ).bind (slK3 f x l)
@[simp] theorem slK2_ev {f : D → Option Int → Option Int → Option T} {hi : Option (Env → R XV)} {l : Option Int} : slK2 f hi x l ρ = (sOpt hi ρ).bind (slK3 f x l) := rfl
def slK (f : D → Option Int → Option Int → Option T) (lo hi : Option (Env → R XV)) (x : XV) (ρ : Env) : R XV := (sOpt lo ρ).bind (slK2 f hi x)
@[simp] theorem slK_ev {f : D → Option Int → Option Int → Option T} {lo hi : Option (Env → R XV)} : slK f lo hi x ρ = (sOpt lo ρ).bind (slK2 f hi x) := rfl
@[simp] theorem sSl_ev {f : D → Option Int → Option Int → Option T} {a : Env → R XV} {lo hi : Option (Env → R XV)} : sSl f a lo hi ρ = (a ρ).bind (slK f lo hi) := by
  unfold sSl
  congr 1
def opMK (mf : D → List D → Option T) (ρ : Env) : Option D → Option (List D) → R XV
  | some d, some ds => ansK ρ (mf d ds)
  | _, _ => .bad
@[simp] theorem opMK_s {mf : D → List D → Option T} {ds : List D} : opMK mf ρ (some d) (some ds) = ansK ρ (mf d ds) := rfl
@[simp] theorem opM_ev {mf : D → List D → Option T} {xs : List XV} : opM mf x xs ρ = opMK mf ρ (view x ρ) (views xs ρ) := by
  unfold opM opMK ansK
  cases view x ρ <;> cases views xs ρ <;> rfl
def mtK2 (ty : String) (mf : D → List D → Option T) (f : Env → R (List XV)) (x : XV) (ρ : Env) : Option D → R XV
  | some d => if isTy ty d = true then (f ρ).bind (opM mf x) else .bad
  | none => .bad
@[simp] theorem mtK2_s {ty : String} {mf : D → List D → Option T} {f : Env → R (List XV)} : mtK2 ty mf f x ρ (some d) = if isTy ty d = true then (f ρ).bind (opM mf x) else .bad := rfl
def mtK (ty : String) (mf : D → List D → Option T) (f : Env → R (List XV)) (x : XV) (ρ : Env) : R XV := mtK2 ty mf f x ρ (view x ρ)
@[simp] theorem mtK_ev {ty : String} {mf : D → List D → Option T} {f : Env → R (List XV)} : mtK ty mf f x ρ = mtK2 ty mf f x ρ (view x ρ) := rfl
@[simp] theorem sMt_ev {ty : String} {mf : D → List D → Option T} {a : Env → R XV} {f : Env → R (List XV)} : sMt ty mf a f ρ = (a ρ).bind (mtK ty mf f) := by
  unfold sMt
  congr 1
@[simp] theorem isTy_tup {xs : List D} : isTy "tuple" (.tup xs) = true := rfl
@[simp] theorem isTy_lst {xs : List D} : isTy "list" (.lst xs) = true := rfl
@[simp] theorem isTy_str {z : Str} : isTy "str" (.str z) = true := rfl
def isLK : Option T → Bool
  | some (true, .lst _) => true
  | _ => false
@[simp] theorem isLK_s {ds : List D} : isLK (some (true, .lst ds)) = true := rfl
@[simp] theorem isL_b : isL (.b i) ρ = isLK (gt ρ i) := by
  unfold isL isLK
  rfl
def muK (op : XV → List XV → Env → R XV) (f : Env → R (List XV)) (x : XV) (ρ : Env) : R XV := if isL x ρ = true then (f ρ).bind (op x) else .bad
@[simp] theorem muK_ev {op : XV → List XV → Env → R XV} {f : Env → R (List XV)} : muK op f x ρ = if isL x ρ = true then (f ρ).bind (op x) else .bad := rfl
@[simp] theorem sMu_ev {op : XV → List XV → Env → R XV} {a : Env → R XV} {f : Env → R (List XV)} : sMu op a f ρ = (a ρ).bind (muK op f) := rfl
def appK2 (i : Nat) (d : D) (ρ : Env) : Option T → R XV
  | some (true, .lst ds) => if ds.length < lim then .ok (.v false .non) (pt ρ i (some (true, .lst (ds ++ [d])))) else .bad
  | _ => .bad
@[simp] theorem appK2_s {ds : List D} : appK2 i d ρ (some (true, .lst ds)) = if ds.length < lim then .ok (.v false .non) (pt ρ i (some (true, .lst (ds ++ [d])))) else .bad := rfl
def appK (i : Nat) (d : D) (ρ : Env) : R XV := appK2 i d ρ (gt ρ i)
@[simp] theorem appK_ev : appK i d ρ = appK2 i d ρ (gt ρ i) := rfl
@[simp] theorem opApp_ev {y : XV} : opApp (.b i) [y] ρ = (frz y ρ).bind (appK i) := by
  unfold opApp
  dsimp only
  congr 1
def extK (i : Nat) (ρ : Env) : Option D → Option T → R XV
  | some (.lst es), some (true, .lst ds) => if ds.length + es.length ≤ lim then .ok (.v false .non) (pt ρ i (some (true, .lst (ds ++ es)))) else .bad
  | _, _ => .bad
@[simp] theorem extK_s {es ds : List D} : extK i ρ (some (.lst es)) (some (true, .lst ds)) = if ds.length + es.length ≤ lim then .ok (.v false .non) (pt ρ i (some (true, .lst (ds ++ es)))) else .bad := rfl
@[simp] theorem opExt_ev {y : XV} : opExt (.b i) [y] ρ = extK i ρ (view y ρ) (gt ρ i) := by
  unfold opExt extK
  rfl
@[simp] theorem xNx_ev : xNx ρ = .ok .nx ρ := rfl
def seqK (g : Env → R Fl) : R Fl → R Fl
  | .ok .nx ρ' => g ρ'
  | .ok .bk ρ' => .ok .bk ρ'
  | .ok .ct ρ' => .ok .ct ρ'
  | .ok (.rt t) ρ' => .ok (.rt t) ρ'
  | .ok (.ra i) ρ' => .ok (.ra i) ρ'
  | .exc c ρ' => .exc c ρ'
  | .bad => .bad
@[simp] theorem seqK_nx {g : Env → R Fl} : seqK g (.ok .nx ρ) = g ρ := rfl
@[simp] theorem seqK_bk {g : Env → R Fl} : seqK g (.ok .bk ρ) = .ok .bk ρ := rfl
@[simp] theorem seqK_ct {g : Env → R Fl} : seqK g (.ok .ct ρ) = .ok .ct ρ := rfl
@[simp] theorem seqK_rt {g : Env → R Fl} {t : T} : seqK g (.ok (.rt t) ρ) = .ok (.rt t) ρ := rfl
@[simp] theorem seqK_ra {g : Env → R Fl} : seqK g (.ok (.ra i) ρ) = .ok (.ra i) ρ := rfl
@[simp] theorem seqK_exc {g : Env → R Fl} {c : Str} : seqK g (.exc c ρ) = .exc c ρ := rfl
@[simp] theorem xSeq_ev {f g : Env → R Fl} : xSeq f g ρ = seqK g (f ρ) := rfl
def dropK (_ : XV) (ρ : Env) : R Fl := .ok .nx ρ
@[simp] theorem dropK_ev : dropK x ρ = .ok .nx ρ := rfl
@[simp] theorem xExpr_ev {f : Env → R XV} : xExpr f ρ = (f ρ).bind dropK := rfl
@[simp] theorem retX_v {np : Nat} : retX np (.v o d) ρ = .ok (.rt (o, d)) ρ := rfl
def retK (np i : Nat) (ρ : Env) : Option T → R Fl
  | some t => if i < np then .ok (.ra i) ρ else .ok (.rt t) (pt ρ i none)
  | none => .bad
@[simp] theorem retK_s {np : Nat} {t : T} : retK np i ρ (some t) = if i < np then .ok (.ra i) ρ else .ok (.rt t) (pt ρ i none) := rfl
@[simp] theorem retX_b {np : Nat} : retX np (.b i) ρ = retK np i ρ (gt ρ i) := by unfold retX retK; (try dsimp only); try (cases gt ρ i <;> rfl)
@[simp] theorem xRet_ev {np : Nat} {f : Env → R XV} : xRet np f ρ = (f ρ).bind (retX np) := rfl
@[simp] theorem xRetN_ev : xRetN ρ = .ok (.rt (false, .non)) ρ := rfl
def ifK (f g : Env → R Fl) (b : Bool) (ρ : Env) : R Fl := match b with
  | true => f ρ
  | false => g ρ
@[simp] theorem ifK_t {f g : Env → R Fl} : ifK f g true ρ = f ρ := rfl
@[simp] theorem ifK_f {f g : Env → R Fl} : ifK f g false ρ = g ρ := rfl
@[simp] theorem xIf_ev {c : Env → R Bool} {f g : Env → R Fl} : xIf c f g ρ = (c ρ).bind (ifK f g) := by unfold xIf; congr 1; funext b ρ; cases b <;> rfl
@[simp] theorem putY_v : putY i (.v o d) ρ = .ok .nx (pt ρ i (some (o, d))) := rfl
def putK (i j : Nat) (ρ : Env) : Option T → R Fl
  | some t => .ok .nx (pt (pt ρ j (some (false, t.2))) i (some (false, t.2)))
  | none => .bad
@[simp] theorem putK_s {j : Nat} {t : T} : putK i j ρ (some t) = .ok .nx (pt (pt ρ j (some (false, t.2))) i (some (false, t.2))) := rfl
@[simp] theorem putY_b {j : Nat} : putY i (.b j) ρ = putK i j ρ (gt ρ j) := by unfold putY putK; (try dsimp only); try (cases gt ρ j <;> rfl)
@[simp] theorem xSt_ev {f : Env → R XV} : xSt i f ρ = (f ρ).bind (putY i) := rfl
@[simp] theorem gN_ev : gN i d ρ = some (pt ρ i (some (false, d))) := rfl
@[simp] theorem gNl_ev : gNl [] ρ = some ρ := rfl
def gCnK (h : List D → Env → Option Env) (r : List D) : Option Env → Option Env
  | some ρ => h r ρ
  | none => none
@[simp] theorem gCnK_s {h : List D → Env → Option Env} {r : List D} : gCnK h r (some ρ) = h r ρ := rfl
@[simp] theorem gCn_ev {g : D → Env → Option Env} {h : List D → Env → Option Env} {r : List D} : gCn g h (d :: r) ρ = gCnK h r (g d ρ) := by
  show (g d ρ).bind _ = _
  cases g d ρ <;> rfl
@[simp] theorem gTp_ev {n : Nat} {h : List D → Env → Option Env} {ds : List D} : gTp n h (.tup ds) ρ = if ds.length = n then h ds ρ else none := rfl
def pgK2 : Option Env → R Fl
  | some ρ => .ok .nx ρ
  | none => .bad
@[simp] theorem pgK2_s : pgK2 (some ρ) = .ok .nx ρ := rfl
def pgK (g : D → Env → Option Env) (d : D) (ρ : Env) : R Fl := pgK2 (g d ρ)
@[simp] theorem pgK_ev {g : D → Env → Option Env} : pgK g d ρ = pgK2 (g d ρ) := rfl
@[simp] theorem putG_ev {g : D → Env → Option Env} : putG g x ρ = (frz x ρ).bind (pgK g) := by
  unfold putG
  congr 1
@[simp] theorem xSetG_ev {g : D → Env → Option Env} {f : Env → R XV} : xSetG g f ρ = (f ρ).bind (putG g) := rfl
def siK4 (i : Nat) (ρ : Env) (d : D) (ds : List D) : Option Nat → R Fl
  | some m => .ok .nx (pt ρ i (some (true, .lst (ds.set m d))))
  | none => .bad
@[simp] theorem siK4_s {ds : List D} {m : Nat} : siK4 i ρ d ds (some m) = .ok .nx (pt ρ i (some (true, .lst (ds.set m d)))) := rfl
def siK2 (i : Nat) (k : Int) (d : D) (ρ : Env) : Option T → R Fl
  | some (true, .lst ds) => siK4 i ρ d ds (ixN ds.length k)
  | _ => .bad
@[simp] theorem siK2_s {ds : List D} {k : Int} : siK2 i k d ρ (some (true, .lst ds)) = siK4 i ρ d ds (ixN ds.length k) := rfl
def siK1 (i : Nat) (k : Int) (d : D) (ρ : Env) : R Fl := siK2 i k d ρ (gt ρ i)
@[simp] theorem siK1_ev {k : Int} : siK1 i k d ρ = siK2 i k d ρ (gt ρ i) := rfl
def siK0 (i : Nat) (y : XV) (ρ : Env) : Option D → R Fl
  | some (.int k) => (frz y ρ).bind (siK1 i k)
  | _ => .bad
@[simp] theorem siK0_s {y : XV} {k : Int} : siK0 i y ρ (some (.int k)) = (frz y ρ).bind (siK1 i k) := rfl
def siKc (x y z : XV) (ρ : Env) : R Fl := opSetI x z y ρ
@[simp] theorem siKc_b {z y : XV} : siKc (.b i) y z ρ = siK0 i y ρ (view z ρ) := by
  unfold siKc opSetI siK0
  cases view z ρ with
  | none => rfl
  | some d =>
    cases d <;> try rfl
def siKb (fi : Env → R XV) (y x : XV) (ρ : Env) : R Fl := (fi ρ).bind (siKc x y)
@[simp] theorem siKb_ev {fi : Env → R XV} {y : XV} : siKb fi y x ρ = (fi ρ).bind (siKc x y) := rfl
def siKa (fo fi : Env → R XV) (y : XV) (ρ : Env) : R Fl := (fo ρ).bind (siKb fi y)
@[simp] theorem siKa_ev {fo fi : Env → R XV} {y : XV} : siKa fo fi y ρ = (fo ρ).bind (siKb fi y) := rfl
@[simp] theorem xSetI_ev {fe fo fi : Env → R XV} : xSetI fe fo fi ρ = (fe ρ).bind (siKa fo fi) := rfl
@[simp] theorem xRaise_ev {c : Str} : xRaise c ρ = .exc c ρ := rfl
@[simp] theorem cT_ev : cT ρ = .ok true ρ := rfl
def itsK (ρ : Env) (lk : Option (Nat × T)) : Option (List D) → R Its
  | some l => .ok ⟨l, lk⟩ ρ
  | none => .bad
@[simp] theorem itsK_s {l : List D} {lk : Option (Nat × T)} : itsK ρ lk (some l) = .ok ⟨l, lk⟩ ρ := rfl
@[simp] theorem itX_v : itX (.v o d) ρ = itsK ρ none (itemsD d) := by unfold itX itsK; (try dsimp only); try (cases itemsD d <;> rfl)
def itbK (i : Nat) (ρ : Env) : Option T → R Its
  | some t => itsK (pt ρ i none) (some (i, t)) (itemsD t.2)
  | none => .bad
@[simp] theorem itbK_s {t : T} : itbK i ρ (some t) = itsK (pt ρ i none) (some (i, t)) (itemsD t.2) := rfl
@[simp] theorem itX_b : itX (.b i) ρ = itbK i ρ (gt ρ i) := by
  unfold itX itbK
  dsimp only
  cases gt ρ i with
  | none => rfl
  | some t => dsimp only; unfold itsK; cases itemsD t.2 <;> rfl
@[simp] theorem sItE_ev {f : Env → R XV} : sItE f ρ = (f ρ).bind itX := rfl
@[simp] theorem itemsD_tup {xs : List D} : itemsD (.tup xs) = some xs := rfl
@[simp] theorem itemsD_lst {xs : List D} : itemsD (.lst xs) = some xs := rfl
@[simp] theorem sRng_ev {f : Env → R (List XV)} : sRng f ρ = (f ρ).bind rngX := rfl
noncomputable def rngK (ρ : Env) : Option (List D) → R Its
  | some [.int n] => cif (-(2 ^ 62) ≤ n ∧ n ≤ 16777216) (.ok ⟨rngL 0 1 n.toNat, none⟩ ρ) .bad
  | some [.int a, .int b] => cif (-(2 ^ 62) ≤ a ∧ a < 2 ^ 62 ∧ -(2 ^ 62) ≤ b ∧ b < 2 ^ 62 ∧ b - a ≤ 16777216) (.ok ⟨rngL a 1 (b - a).toNat, none⟩ ρ) .bad
  | _ => .bad
@[simp] theorem rngK_1 {n : Int} : rngK ρ (some [.int n]) = cif (-(2 ^ 62) ≤ n ∧ n ≤ 16777216) (.ok ⟨rngL 0 1 n.toNat, none⟩ ρ) .bad := rfl
@[simp] theorem rngK_2 {a b : Int} : rngK ρ (some [.int a, .int b]) = cif (-(2 ^ 62) ≤ a ∧ a < 2 ^ 62 ∧ -(2 ^ 62) ≤ b ∧ b < 2 ^ 62 ∧ b - a ≤ 16777216) (.ok ⟨rngL a 1 (b - a).toNat, none⟩ ρ) .bad := rfl
@[simp] theorem rngX_ev {xs : List XV} : rngX xs ρ = rngK ρ (views xs ρ) := by
  unfold rngX rngK
  rfl
@[simp] theorem relk_none {α : Type} {a : α} : relk none (R.ok a ρ) = .ok a ρ := rfl
@[simp] theorem relk_none_exc {α : Type} {c : Str} : relk none (R.exc c ρ : R α) = .exc c ρ := rfl
def relkK {α : Type} (i : Nat) (t : T) (a : α) (ρ : Env) : Option T → R α
  | none => .ok a (pt ρ i (some t))
  | some _ => .bad
@[simp] theorem relkK_n {α : Type} {a : α} {t : T} : relkK i t a ρ none = .ok a (pt ρ i (some t)) := rfl
@[simp] theorem relk_some {α : Type} {a : α} {t : T} : relk (some (i, t)) (R.ok a ρ) = relkK i t a ρ (gt ρ i) := by
  unfold relk unlk relkK
  dsimp only
  cases gt ρ i <;> rfl
@[simp] theorem lkOk_none {L : List Nat} : lkOk L none = true := rfl
@[simp] theorem lkOk_some {L : List Nat} {t : T} : lkOk L (some (i, t)) = L.contains i := rfl
def frK (L : List Nat) (g : D → Env → Option Env) (f : Env → R Fl) (it : Its) (ρ : Env) : R Fl := if lkOk L it.lk = true then relk it.lk (forL g f it.items ρ) else .bad
@[simp] theorem frK_ev {L : List Nat} {g : D → Env → Option Env} {f : Env → R Fl} {it : Its} : frK L g f it ρ = if lkOk L it.lk = true then relk it.lk (forL g f it.items ρ) else .bad := rfl
@[simp] theorem xFr_ev {L : List Nat} {si : Env → R Its} {g : D → Env → Option Env} {f : Env → R Fl} : xFr L si g f ρ = (si ρ).bind (frK L g f) := rfl
@[simp] theorem noX_ok {α : Type} {a : α} : noX (R.ok a ρ) = .ok a ρ := rfl
@[simp] theorem clr_nil : clr [] ρ = ρ := rfl
@[simp] theorem clr_cons {r : List Nat} : clr (i :: r) ρ = pt (clr r ρ) i none := rfl
@[simp] theorem rest_nil {ρ' : Env} : rest [] ρ ρ' = ρ' := rfl
def restK (i : Nat) (ρ' : Env) : Option T → Env
  | some t => pt ρ' i (some t)
  | none => ρ'
@[simp] theorem restK_s {ρ' : Env} {t : T} : restK i ρ' (some t) = pt ρ' i (some t) := rfl
@[simp] theorem restK_n {ρ' : Env} : restK i ρ' none = ρ' := rfl
@[simp] theorem rest_cons {r : List Nat} {ρ' : Env} : rest (i :: r) ρ ρ' = rest r ρ (restK i ρ' (gt (clr r ρ) i)) := by
  show rest r ρ _ = _
  unfold restK
  rfl
def compK2 (own : List Nat) (ρ1 : Env) (es : List D) (ρ2 : Env) : R XV := .ok (.v true (.lst es)) (rest own ρ1 ρ2)
@[simp] theorem compK2_ev {own : List Nat} {ρ1 : Env} {es : List D} : compK2 own ρ1 es ρ = .ok (.v true (.lst es)) (rest own ρ1 ρ) := rfl
def compK (own : List Nat) (g : D → Env → Option Env) (c : Env → R Bool) (f : Env → R XV) (it : Its) (ρ1 : Env) : R XV := relk it.lk ((noX (compL own g c f it.items (clr own ρ1))).bind (compK2 own ρ1))
@[simp] theorem compK_ev {own : List Nat} {g : D → Env → Option Env} {c : Env → R Bool} {f : Env → R XV} {it : Its} : compK own g c f it ρ = relk it.lk ((noX (compL own g c f it.items (clr own ρ))).bind (compK2 own ρ)) := rfl
@[simp] theorem sComp_ev {own : List Nat} {si : Env → R Its} {g : D → Env → Option Env} {c : Env → R Bool} {f : Env → R XV} : sComp own si g c f ρ = (si ρ).bind (compK own g c f) := rfl
@[simp] theorem takeA_nil : takeA [] ρ = some ([], ρ) := rfl
def tkK (t : T) : Option (List T × Env) → Option (List T × Env)
  | some p => some (t :: p.1, p.2)
  | none => none
@[simp] theorem tkK_s {t : T} {l : List T} : tkK t (some (l, ρ)) = some (t :: l, ρ) := rfl
@[simp] theorem takeA_v {xs : List XV} : takeA (.v o d :: xs) ρ = tkK (o, d) (takeA xs ρ) := by
  show (match takeA xs ρ with
    | some p => some ((o, d) :: p.1, p.2)
    | none => none) = _
  unfold tkK
  cases takeA xs ρ <;> rfl
def tkK2 (xs : List XV) (i : Nat) (ρ : Env) : Option T → Option (List T × Env)
  | some t => tkK t (takeA xs (pt ρ i none))
  | none => none
@[simp] theorem tkK2_s {xs : List XV} {t : T} : tkK2 xs i ρ (some t) = tkK t (takeA xs (pt ρ i none)) := rfl
@[simp] theorem takeA_b {xs : List XV} : takeA (.b i :: xs) ρ = tkK2 xs i ρ (gt ρ i) := by
  show (match gt ρ i with
    | some t => (match takeA xs (pt ρ i none) with
      | some p => some (t :: p.1, p.2)
      | none => none)
    | none => none) = _
  unfold tkK2 tkK
  cases gt ρ i with
  | none => rfl
  | some t => cases takeA xs (pt ρ i none) <;> rfl
@[simp] theorem putA_nil {outs : Env} : putA [] outs ρ = ρ := by cases outs <;> rfl
@[simp] theorem putA_v {xs : List XV} {t : Option T} {outs : Env} : putA (.v o d :: xs) (t :: outs) ρ = putA xs outs ρ := rfl
@[simp] theorem putA_b {xs : List XV} {t : T} {outs : Env} : putA (.b i :: xs) (some t :: outs) ρ = putA xs outs (pt ρ i (some t)) := rfl
def alK2 (xs : List XV) (outs : Env) (i : Nat) (ρ : Env) : Option T → R XV
  | some t => .ok (.v t.1 t.2) (putA xs (pt outs i none) ρ)
  | none => .bad
@[simp] theorem alK2_s {xs : List XV} {outs : Env} {t : T} : alK2 xs outs i ρ (some t) = .ok (.v t.1 t.2) (putA xs (pt outs i none) ρ) := rfl
def alK (xs : List XV) (outs : Env) (i : Nat) (ρ : Env) : Option XV → R XV
  | some (.b j) => .ok (.b j) (putA xs outs ρ)
  | some (.v _ _) => alK2 xs outs i ρ (gt outs i)
  | none => .bad
@[simp] theorem alK_b {xs : List XV} {outs : Env} {j : Nat} : alK xs outs i ρ (some (.b j)) = .ok (.b j) (putA xs outs ρ) := rfl
@[simp] theorem alK_v {xs : List XV} {outs : Env} : alK xs outs i ρ (some (.v o d)) = alK2 xs outs i ρ (gt outs i) := rfl
def calK2 (xs : List XV) (ρ : Env) : FR → R XV
  | .ok r outs => .ok (.v r.1 r.2) (putA xs outs ρ)
  | .al i outs => alK xs outs i ρ xs[i]?
  | .exc c => .exc c ρ
  | .bad => .bad
@[simp] theorem calK2_ok {xs : List XV} {r : T} {outs : Env} : calK2 xs ρ (.ok r outs) = .ok (.v r.1 r.2) (putA xs outs ρ) := rfl
@[simp] theorem calK2_al {xs : List XV} {outs : Env} : calK2 xs ρ (.al i outs) = alK xs outs i ρ xs[i]? := rfl
@[simp] theorem calK2_exc {xs : List XV} {c : Str} : calK2 xs ρ (.exc c) = .exc c ρ := rfl
def calK (F : List T → FR) (xs : List XV) : Option (List T × Env) → R XV
  | some p => calK2 xs p.2 (F p.1)
  | none => .bad
@[simp] theorem calK_s {F : List T → FR} {xs : List XV} {ts : List T} : calK F xs (some (ts, ρ)) = calK2 xs ρ (F ts) := rfl
@[simp] theorem opF_ev {F : List T → FR} {xs : List XV} : opF F xs ρ = calK F xs (takeA xs ρ) := by
  unfold opF calK
  cases takeA xs ρ with
  | none => rfl
  | some p =>
    dsimp only
    cases F p.1 with
    | al i outs =>
      dsimp only [calK2]
      unfold alK alK2
      cases xs[i]? with
      | none => rfl
      | some y => cases y <;> rfl
    | _ => rfl
@[simp] theorem sCallF_ev {F : List T → FR} {f : Env → R (List XV)} : sCallF F f ρ = (f ρ).bind (opF F) := rfl
@[simp] theorem keepP_z {pin : List Nat} {j : Nat} : keepP pin 0 j ρ = [] := by cases ρ <;> rfl
@[simp] theorem keepP_s {pin : List Nat} {n j : Nat} {y : Option T} : keepP pin (n + 1) j (y :: ρ) = (if pin.contains j = true then y else none) :: keepP pin n (j + 1) ρ := rfl
def bodyK (np : Nat) (pin : List Nat) : R Fl → FR
  | .ok (.rt t) ρ => .ok t (keepP pin np 0 ρ)
  | .ok .nx ρ => .ok (false, .non) (keepP pin np 0 ρ)
  | .ok (.ra i) ρ => if pin.contains i = true then .al i (keepP pin np 0 ρ) else .bad
  | .exc c _ => .exc c
  | _ => .bad
@[simp] theorem bodyK_rt {np : Nat} {pin : List Nat} {t : T} : bodyK np pin (.ok (.rt t) ρ) = .ok t (keepP pin np 0 ρ) := rfl
@[simp] theorem bodyK_nx {np : Nat} {pin : List Nat} : bodyK np pin (.ok .nx ρ) = .ok (false, .non) (keepP pin np 0 ρ) := rfl
@[simp] theorem bodyK_ra {np : Nat} {pin : List Nat} : bodyK np pin (.ok (.ra i) ρ) = if pin.contains i = true then .al i (keepP pin np 0 ρ) else .bad := rfl
@[simp] theorem bodyK_exc {np : Nat} {pin : List Nat} {c : Str} : bodyK np pin (.exc c ρ) = .exc c := rfl
@[simp] theorem bodyF_ev {np N : Nat} {pin : List Nat} {f : Env → R Fl} {ts : List T} : bodyF np pin N f ts = if ts.length = np then bodyK np pin (f (ts.map some ++ List.replicate (N - np) none)) else .bad := rfl
def chK2 (f' : D → D → Option T) (fc : Env → R XV) (y : XV) (ρ : Env) : Option T → R XV
  | some (_, .bl true) => (fc ρ).bind (op2 f' y)
  | some (_, .bl false) => .ok (.v false (.bl false)) ρ
  | _ => .bad
@[simp] theorem chK2_t {f' : D → D → Option T} {fc : Env → R XV} {y : XV} {o : Bool} : chK2 f' fc y ρ (some (o, .bl true)) = (fc ρ).bind (op2 f' y) := rfl
@[simp] theorem chK2_f {f' : D → D → Option T} {fc : Env → R XV} {y : XV} {o : Bool} : chK2 f' fc y ρ (some (o, .bl false)) = .ok (.v false (.bl false)) ρ := rfl
def chK1 (f f' : D → D → Option T) (fc : Env → R XV) (y : XV) (ρ : Env) : Option D → Option D → R XV
  | some d, some e => chK2 f' fc y ρ (f d e)
  | _, _ => .bad
@[simp] theorem chK1_s {f f' : D → D → Option T} {fc : Env → R XV} {y : XV} {e : D} : chK1 f f' fc y ρ (some d) (some e) = chK2 f' fc y ρ (f d e) := rfl
def chKb (f f' : D → D → Option T) (fc : Env → R XV) (x y : XV) (ρ : Env) : R XV := chK1 f f' fc y ρ (view x ρ) (view y ρ)
@[simp] theorem chKb_ev {f f' : D → D → Option T} {fc : Env → R XV} {y : XV} : chKb f f' fc x y ρ = chK1 f f' fc y ρ (view x ρ) (view y ρ) := rfl
def chKa (f f' : D → D → Option T) (fb fc : Env → R XV) (x : XV) (ρ : Env) : R XV := (fb ρ).bind (chKb f f' fc x)
@[simp] theorem chKa_ev {f f' : D → D → Option T} {fb fc : Env → R XV} : chKa f f' fb fc x ρ = (fb ρ).bind (chKb f f' fc x) := rfl
@[simp] theorem sChain_ev {f f' : D → D → Option T} {fa fb fc : Env → R XV} : sChain f f' fa fb fc ρ = (fa ρ).bind (chKa f f' fb fc) := by
  unfold sChain
  congr 1
end
section
variable {i j : Int} {a b : Str} {xs ys : List D}
@[simp] theorem opAdd_int : opAdd (.int i) (.int j) = some (false, .int (i + j)) := rfl
@[simp] theorem opAdd_tup : opAdd (.tup xs) (.tup ys) = if xs.length + ys.length ≤ lim then some (false, .tup (xs ++ ys)) else none := rfl
@[simp] theorem opAdd_lst : opAdd (.lst xs) (.lst ys) = if xs.length + ys.length ≤ lim then some (true, .lst (xs ++ ys)) else none := rfl
@[simp] theorem opAdd_str : opAdd (.str a) (.str b) = if a.length + b.length ≤ lim then some (false, .str (a ++ b)) else none := rfl
@[simp] theorem opSub_int : opSub (.int i) (.int j) = some (false, .int (i - j)) := rfl
@[simp] theorem opMul_int : opMul (.int i) (.int j) = cif ((-(2 ^ 64) < i ∧ i < 2 ^ 64) ∨ (-(2 ^ 64) < j ∧ j < 2 ^ 64)) (some (false, .int (i * j))) none := rfl
@[simp] theorem opMod_int : opMod (.int i) (.int j) = if j = 0 then none else some (false, .int (i.fmod j)) := rfl
@[simp] theorem opFdv_int : opFdv (.int i) (.int j) = if j ≠ 0 ∧ j.natAbs < 1073741824 then some (false, .int (i.fdiv j)) else none := rfl
@[simp] theorem opPow_int : opPow (.int i) (.int j) = if 0 ≤ j ∧ j ≤ 1000000 ∧ i.natAbs < 2 ^ 64 then some (false, .int (i ^ j.toNat)) else none := rfl
@[simp] theorem opNeg_int : opNeg (.int i) = some (false, .int (-i)) := rfl
@[simp] theorem opLt_int : opLt (.int i) (.int j) = some (false, .bl (decide (i < j))) := rfl
@[simp] theorem opLe_int : opLe (.int i) (.int j) = some (false, .bl (decide (i ≤ j))) := rfl
@[simp] theorem opGt_int : opGt (.int i) (.int j) = some (false, .bl (decide (j < i))) := rfl
@[simp] theorem opGe_int : opGe (.int i) (.int j) = some (false, .bl (decide (j ≤ i))) := rfl
@[simp] theorem opEq_ev {d e : D} : opEq d e = (eqD d e).map fun b => (false, .bl b) := rfl
@[simp] theorem opNe_ev {d e : D} : opNe d e = (eqD d e).map fun b => (false, .bl (!b)) := rfl
@[simp] theorem eqD_int : eqD (.int i) (.int j) = some (decide (i = j)) := rfl
@[simp] theorem eqD_str : eqD (.str a) (.str b) = some (decide (a = b)) := by
  show some (a == b) = _
  congr 1
@[simp] theorem eqD_bl {c d : Bool} : eqD (.bl c) (.bl d) = some (decide (c = d)) := by cases c <;> cases d <;> rfl
@[simp] theorem opIn_ev {d e : D} : opIn d e = (inD d e).map fun b => (false, .bl b) := rfl
@[simp] theorem opNotIn_ev {d e : D} : opNotIn d e = (inD d e).map fun b => (false, .bl (!b)) := rfl
def isNon : D → Bool
  | .non => true
  | _ => false
@[simp] theorem isNon_non : isNon .non = true := rfl
@[simp] theorem isNon_int : isNon (.int i) = false := rfl
@[simp] theorem isNon_str : isNon (.str a) = false := rfl
@[simp] theorem isNon_tup : isNon (.tup xs) = false := rfl
@[simp] theorem isNon_lst : isNon (.lst xs) = false := rfl
@[simp] theorem isNon_bl {c : Bool} : isNon (.bl c) = false := rfl
@[simp] theorem opIsN_ev {d : D} : opIsN d .non = some (false, .bl (isNon d)) := by cases d <;> rfl
@[simp] theorem opIsNotN_ev {d : D} : opIsNotN d .non = some (false, .bl (!isNon d)) := by cases d <;> rfl
@[simp] theorem opIx_tup : opIx (.tup xs) (.int i) = (atI xs i).map fun d => (false, d) := rfl
@[simp] theorem opIx_lst : opIx (.lst xs) (.int i) = (atI xs i).map fun d => (false, d) := rfl
@[simp] theorem opIx_scr {ns : List Int} : opIx (.scr ns) (.int i) = (atI ns i).map fun d => (false, .int d) := rfl
@[simp] theorem opSl_tup {lo hi : Option Int} : opSl (.tup xs) lo hi = some (false, .tup (cut xs lo hi)) := rfl
@[simp] theorem opSl_lst {lo hi : Option Int} : opSl (.lst xs) lo hi = some (true, .lst (cut xs lo hi)) := rfl
@[simp] theorem cfLen_tup : cfLen [.tup xs] = some (false, .int xs.length) := rfl
@[simp] theorem cfLen_lst : cfLen [.lst xs] = some (false, .int xs.length) := rfl
@[simp] theorem cfLen_scr {ns : List Int} : cfLen [.scr ns] = some (false, .int ns.length) := rfl
@[simp] theorem cfLen_str : cfLen [.str a] = if a.length ≤ lim then some (false, .int a.length) else none := rfl
@[simp] theorem cfAll_ev : cfAll [.lst xs] = (blsD xs).map fun bs => (false, .bl (bs.all id)) := rfl
@[simp] theorem cfAny_ev : cfAny [.lst xs] = (blsD xs).map fun bs => (false, .bl (bs.any id)) := rfl
@[simp] theorem cfSum_ev : cfSum [.lst xs] = (intsD xs).map fun bs => (false, .int bs.sum) := rfl
@[simp] theorem cfMax_lst : cfMax [.lst xs] = (intsD xs).bind fun bs => (maxL bs).map fun m => (false, .int m) := rfl
@[simp] theorem cfMax_two : cfMax [.int i, .int j] = some (false, .int (max i j)) := rfl
@[simp] theorem cfMin_lst : cfMin [.lst xs] = (intsD xs).bind fun bs => (minL bs).map fun m => (false, .int m) := rfl
@[simp] theorem cfMin_two : cfMin [.int i, .int j] = some (false, .int (min i j)) := rfl
@[simp] theorem cfInt_int : cfInt [.int i] = some (false, .int i) := rfl
@[simp] theorem cfInt_bl {c : Bool} : cfInt [.bl c] = some (false, .int (if c then 1 else 0)) := rfl
@[simp] theorem cfList_lst : cfList [.lst xs] = some (true, .lst xs) := rfl
@[simp] theorem cfList_tup : cfList [.tup xs] = some (true, .lst xs) := rfl
@[simp] theorem cfTuple_lst : cfTuple [.lst xs] = some (false, .tup xs) := rfl
@[simp] theorem cfTuple_tup : cfTuple [.tup xs] = some (false, .tup xs) := rfl
end
end Lz
namespace Lz
open PySem PySem.Spec PyProof.Rows L2
section
variable {ρ : Env} {g : D → Env → Option Env} {f : Env → R Fl} {d : D} {ds : List D}
@[simp] theorem forL_nil : forL g f [] ρ = .ok .nx ρ := rfl
def forK2 (g : D → Env → Option Env) (f : Env → R Fl) (ds : List D) : R Fl → R Fl
  | .ok .nx ρ2 => forL g f ds ρ2
  | .ok .ct ρ2 => forL g f ds ρ2
  | .ok .bk ρ2 => .ok .nx ρ2
  | .ok (.rt t) ρ2 => .ok (.rt t) ρ2
  | .ok (.ra t) ρ2 => .ok (.ra t) ρ2
  | .exc c ρ2 => .exc c ρ2
  | .bad => .bad
@[simp] theorem forK2_nx : forK2 g f ds (.ok .nx ρ) = forL g f ds ρ := rfl
@[simp] theorem forK2_ct : forK2 g f ds (.ok .ct ρ) = forL g f ds ρ := rfl
@[simp] theorem forK2_bk : forK2 g f ds (.ok .bk ρ) = .ok .nx ρ := rfl
@[simp] theorem forK2_rt {t : T} : forK2 g f ds (.ok (.rt t) ρ) = .ok (.rt t) ρ := rfl
@[simp] theorem forK2_ra {t : Nat} : forK2 g f ds (.ok (.ra t) ρ) = .ok (.ra t) ρ := rfl
@[simp] theorem forK2_exc {c : Str} : forK2 g f ds (.exc c ρ) = .exc c ρ := rfl
def forK1 (g : D → Env → Option Env) (f : Env → R Fl) (ds : List D) : Option Env → R Fl
  | some ρ1 => forK2 g f ds (f ρ1)
  | none => .bad
@[simp] theorem forK1_s : forK1 g f ds (some ρ) = forK2 g f ds (f ρ) := rfl
@[simp] theorem forL_cons : forL g f (d :: ds) ρ = forK1 g f ds (g d ρ) := by
  show (match g d ρ with
    | none => R.bad
    | some ρ1 => match f ρ1 with
      | .ok .nx ρ2 => forL g f ds ρ2
      | .ok .ct ρ2 => forL g f ds ρ2
      | .ok .bk ρ2 => .ok .nx ρ2
      | .ok (.rt t) ρ2 => .ok (.rt t) ρ2
      | .ok (.ra t) ρ2 => .ok (.ra t) ρ2
      | .exc c ρ2 => .exc c ρ2
      | .bad => .bad) = _
  unfold forK1 forK2
  cases g d ρ with
  | none => rfl
  | some ρ1 =>
    cases f ρ1 with
    | ok a ρ2 => cases a <;> rfl
    | _ => rfl
section
variable {own : List Nat} {c : Env → R Bool} {e : Env → R XV}
@[simp] theorem compL_nil : compL own g c e [] ρ = .ok [] ρ := rfl
def cpK5 (d : D) (es : List D) (ρ5 : Env) : R (List D) := .ok (d :: es) ρ5
@[simp] theorem cpK5_ev {es : List D} : cpK5 d es ρ = .ok (d :: es) ρ := rfl
def cpK4 (own : List Nat) (g : D → Env → Option Env) (c : Env → R Bool) (f : Env → R XV) (ds : List D) (d : D) (ρ : Env) : R (List D) := (compL own g c f ds (clr own ρ)).bind (cpK5 d)
@[simp] theorem cpK4_ev : cpK4 own g c e ds d ρ = (compL own g c e ds (clr own ρ)).bind (cpK5 d) := rfl
def cpK3 (own : List Nat) (g : D → Env → Option Env) (c : Env → R Bool) (f : Env → R XV) (ds : List D) (x : XV) (ρ : Env) : R (List D) := (frz x ρ).bind (cpK4 own g c f ds)
@[simp] theorem cpK3_ev {x : XV} : cpK3 own g c e ds x ρ = (frz x ρ).bind (cpK4 own g c e ds) := rfl
def cpK2 (own : List Nat) (g : D → Env → Option Env) (c : Env → R Bool) (f : Env → R XV) (ds : List D) (b : Bool) (ρ : Env) : R (List D) := match b with
  | true => (f ρ).bind (cpK3 own g c f ds)
  | false => compL own g c f ds (clr own ρ)
@[simp] theorem cpK2_t : cpK2 own g c e ds true ρ = (e ρ).bind (cpK3 own g c e ds) := rfl
@[simp] theorem cpK2_f : cpK2 own g c e ds false ρ = compL own g c e ds (clr own ρ) := rfl
def cpK1 (own : List Nat) (g : D → Env → Option Env) (c : Env → R Bool) (f : Env → R XV) (ds : List D) : Option Env → R (List D)
  | some ρ1 => (c ρ1).bind (cpK2 own g c f ds)
  | none => .bad
@[simp] theorem cpK1_s : cpK1 own g c e ds (some ρ) = (c ρ).bind (cpK2 own g c e ds) := rfl
@[simp] theorem compL_cons : compL own g c e (d :: ds) ρ = cpK1 own g c e ds (g d ρ) := by
  show (match g d ρ with
    | none => R.bad
    | some ρ1 => (c ρ1).bind fun b ρ2 => if b = true then (e ρ2).bind fun x ρ3 => (frz x ρ3).bind fun e' ρ4 => (compL own g c e ds (clr own ρ4)).bind fun es ρ5 => .ok (e' :: es) ρ5
      else compL own g c e ds (clr own ρ2)) = _
  unfold cpK1
  cases g d ρ with
  | none => rfl
  | some ρ1 =>
    dsimp only
    congr 1
    funext b ρ2
    cases b <;> rfl
end
section
variable {c : Env → R Bool} {n : Nat}
def whK2 (c : Env → R Bool) (f : Env → R Fl) (n : Nat) : R Fl → R Fl
  | .ok .nx ρ' => xWhile c f n ρ'
  | .ok .ct ρ' => xWhile c f n ρ'
  | .ok .bk ρ' => .ok .nx ρ'
  | .ok (.rt t) ρ' => .ok (.rt t) ρ'
  | .ok (.ra t) ρ' => .ok (.ra t) ρ'
  | .exc c ρ' => .exc c ρ'
  | .bad => .bad
@[simp] theorem whK2_nx : whK2 c f n (.ok .nx ρ) = xWhile c f n ρ := rfl
@[simp] theorem whK2_ct : whK2 c f n (.ok .ct ρ) = xWhile c f n ρ := rfl
@[simp] theorem whK2_bk : whK2 c f n (.ok .bk ρ) = .ok .nx ρ := rfl
@[simp] theorem whK2_rt {t : T} : whK2 c f n (.ok (.rt t) ρ) = .ok (.rt t) ρ := rfl
@[simp] theorem whK2_exc {x : Str} : whK2 c f n (.exc x ρ) = .exc x ρ := rfl
def whK1 (c : Env → R Bool) (f : Env → R Fl) (n : Nat) (b : Bool) (ρ : Env) : R Fl := match b with
  | true => whK2 c f n (f ρ)
  | false => .ok .nx ρ
@[simp] theorem whK1_t : whK1 c f n true ρ = whK2 c f n (f ρ) := rfl
@[simp] theorem whK1_f : whK1 c f n false ρ = .ok .nx ρ := rfl
end
end
end Lz
namespace Lz
@[simp] theorem opMul_tup {xs : List D} {k : Int} : opMul (.tup xs) (.int k) = if xs ≠ [] ∧ 2 ≤ k ∧ k ≤ 1000 ∧ xs.length ≤ 1000 then some (false, .tup (List.replicate k.toNat xs).flatten) else if k = 1 then some (false, .tup xs) else none := rfl
end Lz
namespace Lz
open PySem PySem.Spec PyProof.Rows L2
section
variable {ρ : Env} {c f : Str} {gs : List (Str × Bool × D)} {ds : List D} {i : Nat} {d : D} {o : Bool}
def ownK2 (gs : List (Str × Bool × D)) : Option T → Option (List (Str × Bool × D) × List D)
  | some (true, .lst ds) => some (gs, ds)
  | _ => none
@[simp] theorem ownK2_t : ownK2 gs (some (true, .lst ds)) = some (gs, ds) := rfl
@[simp] theorem ownK2_f : ownK2 gs (some (false, d)) = none := rfl
def ownK (c f : Str) : Option T → Option (List (Str × Bool × D) × List D)
  | some (true, .ob c' gs) => if c' = c then ownK2 gs (gs.lookup f) else none
  | _ => none
@[simp] theorem ownK_t : ownK c f (some (true, .ob c gs)) = ownK2 gs (gs.lookup f) := by unfold ownK; dsimp only; rw [if_pos rfl]
@[simp] theorem ownK_f : ownK c f (some (false, d)) = none := rfl
@[simp] theorem ownF_ev : ownF i c f ρ = ownK c f (gt ρ i) := by
  unfold ownF ownK
  try (cases gt ρ i with
  | none => rfl
  | some t =>
    obtain ⟨o, d⟩ := t
    cases o <;> cases d <;> try rfl)
@[simp] theorem noX_ok' {α : Type} {a : α} : noX (R.ok a ρ) = .ok a ρ := rfl
def ixF4 (i : Nat) (c : Str) (gs : List (Str × Bool × D)) (ρ : Env) : Option T → R XV
  | some t => .ok (.v t.1 t.2) (pt ρ i (some (true, .ob c gs)))
  | none => .bad
@[simp] theorem ixF4_s {t : T} : ixF4 i c gs ρ (some t) = .ok (.v t.1 t.2) (pt ρ i (some (true, .ob c gs))) := rfl
def ixF3 (op : D → D → Option T) (i : Nat) (c : Str) (p : List (Str × Bool × D) × List D) (ρ : Env) : Option T → Option D → R XV
  | none, some d => ixF4 i c p.1 ρ (op (.lst p.2) d)
  | _, _ => .bad
@[simp] theorem ixF3_s {op : D → D → Option T} {p : List (Str × Bool × D) × List D} : ixF3 op i c p ρ none (some d) = ixF4 i c p.1 ρ (op (.lst p.2) d) := rfl
@[simp] theorem ixF2_ev {op : D → D → Option T} {p : List (Str × Bool × D) × List D} {y : XV} : ixF2 op i c p y ρ = ixF3 op i c p ρ (gt ρ i) (view y ρ) := by
  unfold ixF2 ixF3 ixF4
  try (cases gt ρ i <;> cases view y ρ <;> try rfl)
def sOpFK (op : D → D → Option T) (i : Nat) (c f : Str) (fb : Env → R XV) (ρ : Env) : Option (List (Str × Bool × D) × List D) → R XV
  | some p => (noX (fb (pt ρ i none))).bind (ixF2 op i c p)
  | none => sBin op (sFld c f (sVar i)) fb ρ
@[simp] theorem sOpFK_s {op : D → D → Option T} {fb : Env → R XV} {p : List (Str × Bool × D) × List D} : sOpFK op i c f fb ρ (some p) = (noX (fb (pt ρ i none))).bind (ixF2 op i c p) := rfl
@[simp] theorem sOpFK_n {op : D → D → Option T} {fb : Env → R XV} : sOpFK op i c f fb ρ none = sBin op (sFld c f (sVar i)) fb ρ := rfl
@[simp] theorem sOpF_ev {op : D → D → Option T} {fb : Env → R XV} : sOpF op i c f fb ρ = sOpFK op i c f fb ρ (ownF i c f ρ) := by
  unfold sOpF sOpFK
  try (cases ownF i c f ρ <;> rfl)
def oprK3 (ρ : Env) : Option T → R XV
  | some t => .ok (.v t.1 t.2) ρ
  | none => .bad
@[simp] theorem oprK3_s {t : T} : oprK3 ρ (some t) = .ok (.v t.1 t.2) ρ := rfl
def oprK2 (op : D → D → Option T) (ds : List D) (ρ : Env) : Option D → R XV
  | some d => oprK3 ρ (op d (.lst ds))
  | none => .bad
@[simp] theorem oprK2_s {op : D → D → Option T} : oprK2 op ds ρ (some d) = oprK3 ρ (op d (.lst ds)) := rfl
def oprK1 (op : D → D → Option T) (i : Nat) (c f : Str) (x : XV) (ρ : Env) : Option (List (Str × Bool × D) × List D) → R XV
  | some p => oprK2 op p.2 ρ (view x (pt ρ i none))
  | none => (sFld c f (sVar i) ρ).bind (op2 op x)
@[simp] theorem oprK1_s {op : D → D → Option T} {x : XV} {p : List (Str × Bool × D) × List D} : oprK1 op i c f x ρ (some p) = oprK2 op p.2 ρ (view x (pt ρ i none)) := rfl
@[simp] theorem oprK1_n {op : D → D → Option T} {x : XV} : oprK1 op i c f x ρ none = (sFld c f (sVar i) ρ).bind (op2 op x) := rfl
def oprK (op : D → D → Option T) (i : Nat) (c f : Str) (x : XV) (ρ : Env) : R XV := oprK1 op i c f x ρ (ownF i c f ρ)
@[simp] theorem oprK_ev {op : D → D → Option T} {x : XV} : oprK op i c f x ρ = oprK1 op i c f x ρ (ownF i c f ρ) := rfl
@[simp] theorem sOpFR_ev {op : D → D → Option T} {fa : Env → R XV} : sOpFR op fa i c f ρ = (fa ρ).bind (oprK op i c f) := by
  unfold sOpFR
  congr 1
  try (
    funext x ρ1
    unfold oprK oprK1 oprK2 oprK3
    cases ownF i c f ρ1 with
    | none => rfl
    | some p => dsimp only; cases view x (pt ρ1 i none) <;> rfl)
def sClFK (cf : List D → Option T) (i : Nat) (c f : Str) (ρ : Env) : Option (List (Str × Bool × D) × List D) → R XV
  | some p => oprK3 ρ (cf [.lst p.2])
  | none => sCl cf (sCons (sFld c f (sVar i)) sNil) ρ
@[simp] theorem sClFK_s {cf : List D → Option T} {p : List (Str × Bool × D) × List D} : sClFK cf i c f ρ (some p) = oprK3 ρ (cf [.lst p.2]) := rfl
@[simp] theorem sClFK_n {cf : List D → Option T} : sClFK cf i c f ρ none = sCl cf (sCons (sFld c f (sVar i)) sNil) ρ := rfl
@[simp] theorem sClF_ev {cf : List D → Option T} : sClF cf i c f ρ = sClFK cf i c f ρ (ownF i c f ρ) := by
  unfold sClF sClFK oprK3
  try (cases ownF i c f ρ <;> rfl)
def setF3 (i : Nat) (c f : Str) (p : List (Str × Bool × D) × List D) (d : D) (ρ : Env) : Option Nat → Option T → R Fl
  | some m, none => .ok .nx (pt ρ i (some (true, .ob c (putO f (true, .lst (p.2.set m d)) p.1))))
  | _, _ => .bad
@[simp] theorem setF3_s {p : List (Str × Bool × D) × List D} {m : Nat} : setF3 i c f p d ρ (some m) none = .ok .nx (pt ρ i (some (true, .ob c (putO f (true, .lst (p.2.set m d)) p.1)))) := rfl
@[simp] theorem setF2_ev {p : List (Str × Bool × D) × List D} {k : Int} : setF2 i c f p k d ρ = setF3 i c f p d ρ (ixN p.2.length k) (gt ρ i) := by
  unfold setF2 setF3
  try (cases ixN p.2.length k <;> cases gt ρ i <;> rfl)
def setF1K (i : Nat) (c f : Str) (p : List (Str × Bool × D) × List D) (y : XV) (ρ : Env) : Option D → R Fl
  | some (.int k) => (frz y ρ).bind (setF2 i c f p k)
  | _ => .bad
@[simp] theorem setF1K_s {p : List (Str × Bool × D) × List D} {y : XV} {k : Int} : setF1K i c f p y ρ (some (.int k)) = (frz y ρ).bind (setF2 i c f p k) := rfl
@[simp] theorem setF1_ev {p : List (Str × Bool × D) × List D} {y z : XV} : setF1 i c f p y z ρ = setF1K i c f p y ρ (view z ρ) := by
  unfold setF1 setF1K
  try (cases view z ρ with
  | none => rfl
  | some d => cases d <;> rfl)
def setF0K (i : Nat) (c f : Str) (fi : Env → R XV) (y : XV) (ρ : Env) : Option (List (Str × Bool × D) × List D) → R Fl
  | some p => (noX (fi (pt ρ i none))).bind (setF1 i c f p y)
  | none => .bad
@[simp] theorem setF0K_s {fi : Env → R XV} {y : XV} {p : List (Str × Bool × D) × List D} : setF0K i c f fi y ρ (some p) = (noX (fi (pt ρ i none))).bind (setF1 i c f p y) := rfl
def setF0 (i : Nat) (c f : Str) (fi : Env → R XV) (y : XV) (ρ : Env) : R Fl := setF0K i c f fi y ρ (ownF i c f ρ)
@[simp] theorem setF0_ev {fi : Env → R XV} {y : XV} : setF0 i c f fi y ρ = setF0K i c f fi y ρ (ownF i c f ρ) := rfl
@[simp] theorem xSetF_ev {fe fi : Env → R XV} : xSetF fe i c f fi ρ = (fe ρ).bind (setF0 i c f fi) := by
  unfold xSetF
  congr 1
  try (
    funext y ρ1
    unfold setF0 setF0K
    cases ownF i c f ρ1 <;> rfl)
def frzFK2 (i : Nat) (c f : Str) (gs : List (Str × Bool × D)) (ρ : Env) : Option T → Env
  | some t => pt ρ i (some (true, .ob c (putO f (false, t.2) gs)))
  | none => ρ
@[simp] theorem frzFK2_s {t : T} : frzFK2 i c f gs ρ (some t) = pt ρ i (some (true, .ob c (putO f (false, t.2) gs))) := rfl
def frzFK (i : Nat) (f : Str) (ρ : Env) : Option T → Env
  | some (true, .ob c gs) => frzFK2 i c f gs ρ (gs.lookup f)
  | _ => ρ
@[simp] theorem frzFK_s : frzFK i f ρ (some (true, .ob c gs)) = frzFK2 i c f gs ρ (gs.lookup f) := rfl
@[simp] theorem frzF_ev : frzF i f ρ = frzFK i f ρ (gt ρ i) := by
  unfold frzF frzFK frzFK2
  try (cases gt ρ i with
  | none => rfl
  | some t =>
    obtain ⟨o, d⟩ := t
    cases o <;> cases d <;> rfl)
def frzLK (i : Nat) (ρ : Env) : Option T → Env
  | some (true, .lol rs) => pt ρ i (some (true, .lst rs))
  | _ => ρ
@[simp] theorem frzLK_s : frzLK i ρ (some (true, .lol ds)) = pt ρ i (some (true, .lst ds)) := rfl
@[simp] theorem frzL_ev : frzL i ρ = frzLK i ρ (gt ρ i) := by
  unfold frzL frzLK
  try (cases gt ρ i with
  | none => rfl
  | some t =>
    obtain ⟨o, d⟩ := t
    cases o <;> cases d <;> rfl)
@[simp] theorem xGh_ev {g : Env → Env} {h : Env → R Fl} : xGh g h ρ = h (g ρ) := rfl
def setL4 (i m1 : Nat) (rows ds : List D) (d : D) (ρ : Env) : Option Nat → R Fl
  | some m2 => .ok .nx (pt ρ i (some (true, .lol (rows.set m1 (.lst (ds.set m2 d))))))
  | none => .bad
@[simp] theorem setL4_s {m1 m2 : Nat} {rows : List D} : setL4 i m1 rows ds d ρ (some m2) = .ok .nx (pt ρ i (some (true, .lol (rows.set m1 (.lst (ds.set m2 d)))))) := rfl
def setL5 (i m1 : Nat) (k2 : Int) (rows : List D) (d : D) (ρ : Env) : Option D → R Fl
  | some (.lst ds) => setL4 i m1 rows ds d ρ (ixN ds.length k2)
  | _ => .bad
@[simp] theorem setL5_s {m1 : Nat} {k2 : Int} {rows : List D} : setL5 i m1 k2 rows d ρ (some (.lst ds)) = setL4 i m1 rows ds d ρ (ixN ds.length k2) := rfl
def setL6 (i : Nat) (k2 : Int) (rows : List D) (d : D) (ρ : Env) : Option Nat → R Fl
  | some m1 => setL5 i m1 k2 rows d ρ rows[m1]?
  | none => .bad
@[simp] theorem setL6_s {m1 : Nat} {k2 : Int} {rows : List D} : setL6 i k2 rows d ρ (some m1) = setL5 i m1 k2 rows d ρ rows[m1]? := rfl
def setL7 (i : Nat) (d : D) (ρ : Env) : Option T → Option T → Option T → R Fl
  | some (true, .lol rows), some (false, .int k1), some (false, .int k2) => setL6 i k2 rows d ρ (ixN rows.length k1)
  | _, _, _ => .bad
@[simp] theorem setL7_s {rows : List D} {k1 k2 : Int} : setL7 i d ρ (some (true, .lol rows)) (some (false, .int k1)) (some (false, .int k2)) = setL6 i k2 rows d ρ (ixN rows.length k1) := rfl
@[simp] theorem setL2_ev {j1 j2 : Nat} : setL2 i j1 j2 d ρ = setL7 i d ρ (gt ρ i) (gt ρ j1) (gt ρ j2) := by
  unfold setL2 setL7 setL6 setL5 setL4
  try rfl
def setL1 (i j1 j2 : Nat) (y : XV) (ρ : Env) : R Fl := (frz y ρ).bind (setL2 i j1 j2)
@[simp] theorem setL1_ev {j1 j2 : Nat} {y : XV} : setL1 i j1 j2 y ρ = (frz y ρ).bind (setL2 i j1 j2) := rfl
@[simp] theorem xSetL2_ev {fe : Env → R XV} {j1 j2 : Nat} : xSetL2 fe i j1 j2 ρ = (fe ρ).bind (setL1 i j1 j2) := rfl
end
end Lz
namespace Lz
open PySem PySem.Spec PyProof.Rows L2
/-- a loop that goes through -/
theorem forL_fold {α : Type} {g : D → Env → Option Env} {f : Env → R Fl} (st : α → Env) (step : α → D → α) (P : α → Prop) : ∀ (ds : List D) (a : α), P a → (∀ a d, d ∈ ds → P a → ∃ ρ1, g d (st a) = some ρ1 ∧ f ρ1 = .ok .nx (st (step a d)) ∧ P (step a d)) →
    forL g f ds (st a) = .ok .nx (st (ds.foldl step a)) ∧ P (ds.foldl step a)
  | [], a, h, _ => ⟨rfl, h⟩
  | d :: ds, a, h, hs => by
    obtain ⟨ρ1, h1, h2, h3⟩ := hs a d List.mem_cons_self h
    have ih := forL_fold st step P ds (step a d) h3 fun b x hx hb => hs b x (List.mem_cons_of_mem _ hx) hb
    refine ⟨?_, ih.2⟩
    rw [List.foldl_cons, ← ih.1]
    simp [h1, h2]
/-- the same over a list of things of one kind -/
theorem compL_m {α : Type} {own : List Nat} {g : D → Env → Option Env} {f : Env → R XV} {ρ : Env} {e : α → D} {w : α → D} {xs : List α} (h : ∀ x ∈ xs, ∃ ρ1 o, g (w x) ρ = some ρ1 ∧ clr own ρ1 = ρ ∧ f ρ1 = .ok (.v o (e x)) ρ1) : compL own g cT f (xs.map w) ρ = .ok (xs.map e) ρ := by
  induction xs with
  | nil => rfl
  | cons x xs ih =>
    obtain ⟨ρ1, o, h1, h2, h3⟩ := h x List.mem_cons_self
    have ih := ih fun y hy => h y (List.mem_cons_of_mem _ hy)
    simp [h1, h2, h3, ih]
end Lz
namespace Lz
open PySem PySem.Spec PyProof.Rows L2

def okN (n : Nat) (d : D) : Prop := d.toPy.canLay0 = true ∧ d.toPy.depth ≤ n
theorem okD_of {d : D} {n : Nat} (h : okN n d) (hn : n ≤ 64) : okD d = true := by
  unfold okD SeqAt.shaped
  rw [h.1, Bool.true_and]
  exact decide_eq_true (Nat.le_trans h.2 hn)
theorem okN_mono {d : D} {n m : Nat} (h : okN n d) (hn : n ≤ m) : okN m d := ⟨h.1, Nat.le_trans h.2 hn⟩
theorem okN_bl {n : Nat} {b : Bool} : okN n (.bl b) := ⟨rfl, Nat.zero_le _⟩
theorem okN_int {n : Nat} {i : Int} : okN n (.int i) := ⟨rfl, Nat.zero_le _⟩
theorem okN_str {n : Nat} {z : Str} (h : PyData.strOk z = true) : okN n (.str z) := ⟨h, Nat.zero_le _⟩
theorem lays_of : ∀ {xs : List D}, (∀ x ∈ xs, x.toPy.canLay0 = true) → PyData.canLayAll0 (D.toPys xs) = true
  | [], _ => by rw [D.toPys]; rfl
  | x :: xs, h => by
    rw [D.toPys, PyData.canLayAll0, h x List.mem_cons_self, Bool.true_and]
    exact lays_of fun y hy => h y (List.mem_cons_of_mem _ hy)
theorem deps_of {n : Nat} : ∀ {xs : List D}, (∀ x ∈ xs, x.toPy.depth ≤ n) → PyData.depthAll (D.toPys xs) ≤ n
  | [], _ => by rw [D.toPys]; exact Nat.zero_le _
  | x :: xs, h => by
    rw [D.toPys, PyData.depthAll]
    exact Nat.max_le.mpr ⟨h x List.mem_cons_self, deps_of fun y hy => h y (List.mem_cons_of_mem _ hy)⟩
theorem okN_tup {n : Nat} {xs : List D} (h : ∀ x ∈ xs, okN n x) : okN (n + 1) (.tup xs) := by
  refine ⟨?_, ?_⟩
  · rw [D.toPy, PyData.canLay0]; exact lays_of fun x hx => (h x hx).1
  · rw [D.toPy, PyData.depth]; exact Nat.succ_le_succ (deps_of fun x hx => (h x hx).2)
theorem okN_lst {n : Nat} {xs : List D} (h : ∀ x ∈ xs, okN n x) : okN (n + 1) (.lst xs) := by
  refine ⟨?_, ?_⟩
  · rw [D.toPy, PyData.canLay0]; exact lays_of fun x hx => (h x hx).1
  · rw [D.toPy, PyData.depth]; exact Nat.succ_le_succ (deps_of fun x hx => (h x hx).2)
theorem toPys_ints : ∀ ns : List Int, ns.map PyData.int = D.toPys (ns.map D.int)
  | [] => by rw [List.map_nil, List.map_nil, D.toPys]
  | n :: ns => by rw [List.map_cons, List.map_cons, D.toPys, D.toPy, toPys_ints ns]
theorem okN_scr {n : Nat} {ns : List Int} : okN (n + 1) (.scr ns) := by
  have h : okN (n + 1) (.lst (ns.map D.int)) := okN_lst fun x hx => by
    obtain ⟨i, _, rfl⟩ := List.mem_map.mp hx
    exact okN_int
  have e : (D.scr ns).toPy = (D.lst (ns.map D.int)).toPy := by rw [D.toPy, D.toPy, toPys_ints]
  unfold okN at h ⊢
  rw [e]
  exact h

-- True and False as whole numbers
mutual
def nrm : D → D
  | .bl b => .int (if b then 1 else 0)
  | .tup xs => .tup (nrms xs)
  | .lst xs => .lst (nrms xs)
  | .scr ns => .lst (ns.map .int)
  | d => d
def nrms : List D → List D
  | [] => []
  | x :: xs => nrm x :: nrms xs
end
mutual
def nP : PyData → PyData
  | .bool b => .int (if b then 1 else 0)
  | .list xs => .list (nPs xs)
  | .tuple xs => .tuple (nPs xs)
  | d => d
def nPs : List PyData → List PyData
  | [] => []
  | x :: xs => nP x :: nPs xs
end
mutual
theorem eqv_nP : ∀ x y : PyData, x.canLay0 = true → y.canLay0 = true → (PyData.eqv x y = true ↔ nP x = nP y)
  | .none, y, _, hy => by cases y <;> simp [PyData.eqv, nP, PyData.canLay0] at hy ⊢
  | .bool a, y, _, hy => by
    cases y <;> simp [PyData.eqv, nP, PyData.canLay0] at hy ⊢
    · rename_i b
      cases a <;> cases b <;> simp
  | .int a, y, _, hy => by cases y <;> simp [PyData.eqv, nP, PyData.canLay0] at hy ⊢
  | .str a, y, _, hy => by cases y <;> simp [PyData.eqv, nP, PyData.canLay0] at hy ⊢
  | .list xs, y, hx, hy => by
    cases y with
    | list ys =>
      rw [PyData.canLay0] at hx hy
      rw [PyData.eqv, nP, nP]
      simpa using eqv_nPs xs ys hx hy
    | _ => simp [PyData.eqv, nP, PyData.canLay0] at hy ⊢
  | .tuple xs, y, hx, hy => by
    cases y with
    | tuple ys =>
      rw [PyData.canLay0] at hx hy
      rw [PyData.eqv, nP, nP]
      simpa using eqv_nPs xs ys hx hy
    | _ => simp [PyData.eqv, nP, PyData.canLay0] at hy ⊢
  | .dict _, y, hx, _ => by simp [PyData.canLay0] at hx
theorem eqv_nPs : ∀ xs ys : List PyData, PyData.canLayAll0 xs = true → PyData.canLayAll0 ys = true → (PyData.eqvAll xs ys = true ↔ nPs xs = nPs ys)
  | [], [], _, _ => by simp [PyData.eqvAll, nPs]
  | [], y :: ys, _, _ => by simp [PyData.eqvAll, nPs]
  | x :: xs, [], _, _ => by simp [PyData.eqvAll, nPs]
  | x :: xs, y :: ys, hx, hy => by
    rw [PyData.canLayAll0, Bool.and_eq_true] at hx hy
    rw [PyData.eqvAll, nPs, nPs, Bool.and_eq_true, eqv_nP x y hx.1 hy.1, eqv_nPs xs ys hx.2 hy.2]
    simp
end
end Lz
namespace Lz
open PySem PySem.Spec PyProof.Rows L2
mutual
def ofP : PyData → D
  | .none => .non
  | .bool b => .bl b
  | .int i => .int i
  | .str s => .str s
  | .list xs => .lst (ofPs xs)
  | .tuple xs => .tup (ofPs xs)
  | .dict _ => .non
def ofPs : List PyData → List D
  | [] => []
  | x :: xs => ofP x :: ofPs xs
end
theorem ofPs_ints : ∀ ns : List Int, ofPs (nPs (ns.map PyData.int)) = ns.map D.int
  | [] => by simp [nPs, ofPs]
  | n :: ns => by
    rw [List.map_cons, List.map_cons, nPs, nP, ofPs, ofP, ofPs_ints ns]
    intro b; exact nofun
    all_goals exact nofun
mutual
theorem ofP_nP : ∀ d : D, d.toPy.canLay0 = true → ofP (nP d.toPy) = nrm d
  | .non, _ => by simp [D.toPy, nP, ofP, nrm]
  | .bl b, _ => by simp [D.toPy, nP, ofP, nrm]
  | .int i, _ => by simp [D.toPy, nP, ofP, nrm]
  | .str s, _ => by simp [D.toPy, nP, ofP, nrm]
  | .tup xs, h => by
    rw [D.toPy, PyData.canLay0] at h
    simp [D.toPy, nP, ofP, nrm, ofPs_nPs xs h]
  | .lst xs, h => by
    rw [D.toPy, PyData.canLay0] at h
    simp [D.toPy, nP, ofP, nrm, ofPs_nPs xs h]
  | .scr ns, h => by
    simp [D.toPy, nP, ofP, nrm, ofPs_ints]
  | .dct _, h => by simp [D.toPy, PyData.canLay0] at h
  | .dk _, h => by simp [D.toPy, PyData.canLay0] at h
  | .dkl _ _, h => by simp [D.toPy, PyData.canLay0] at h
  | .lol _, h => by simp [D.toPy, PyData.canLay0] at h
  | .pin _, h => by simp [D.toPy, PyData.canLay0] at h
  | .fn _, h => by simp [D.toPy, PyData.canLay0] at h
  | .xc _, h => by simp [D.toPy, PyData.canLay0] at h
  | .obj _ _, h => by simp [D.toPy, PyData.canLay0] at h
  | .ob _ _, h => by simp [D.toPy, PyData.canLay0] at h
theorem ofPs_nPs : ∀ xs : List D, PyData.canLayAll0 (D.toPys xs) = true → ofPs (nPs (D.toPys xs)) = nrms xs
  | [], _ => by simp [D.toPys, nPs, ofPs, nrms]
  | x :: xs, h => by
    rw [D.toPys, PyData.canLayAll0, Bool.and_eq_true] at h
    simp [D.toPys, nPs, ofPs, nrms, ofP_nP x h.1, ofPs_nPs xs h.2]
end
theorem nPs_ints : ∀ ns : List Int, nPs (ns.map PyData.int) = D.toPys (ns.map D.int)
  | [] => by simp [nPs, D.toPys]
  | n :: ns => by simp [nPs, nP, D.toPys, D.toPy, nPs_ints ns]
mutual
theorem nP_toPy : ∀ d : D, d.toPy.canLay0 = true → nP d.toPy = (nrm d).toPy
  | .non, _ => by simp [D.toPy, nP, nrm]
  | .bl b, _ => by simp [D.toPy, nP, nrm]
  | .int i, _ => by simp [D.toPy, nP, nrm]
  | .str s, _ => by simp [D.toPy, nP, nrm]
  | .tup xs, h => by
    rw [D.toPy, PyData.canLay0] at h
    simp [D.toPy, nP, nrm, nPs_toPys xs h]
  | .lst xs, h => by
    rw [D.toPy, PyData.canLay0] at h
    simp [D.toPy, nP, nrm, nPs_toPys xs h]
  | .scr ns, h => by simp [D.toPy, nP, nrm, nPs_ints]
  | .dct _, h => by simp [D.toPy, PyData.canLay0] at h
  | .dk _, h => by simp [D.toPy, PyData.canLay0] at h
  | .dkl _ _, h => by simp [D.toPy, PyData.canLay0] at h
  | .lol _, h => by simp [D.toPy, PyData.canLay0] at h
  | .pin _, h => by simp [D.toPy, PyData.canLay0] at h
  | .fn _, h => by simp [D.toPy, PyData.canLay0] at h
  | .xc _, h => by simp [D.toPy, PyData.canLay0] at h
  | .obj _ _, h => by simp [D.toPy, PyData.canLay0] at h
  | .ob _ _, h => by simp [D.toPy, PyData.canLay0] at h
theorem nPs_toPys : ∀ xs : List D, PyData.canLayAll0 (D.toPys xs) = true → nPs (D.toPys xs) = D.toPys (nrms xs)
  | [], _ => by simp [D.toPys, nPs, nrms]
  | x :: xs, h => by
    rw [D.toPys, PyData.canLayAll0, Bool.and_eq_true] at h
    simp [D.toPys, nPs, nrms, nP_toPy x h.1, nPs_toPys xs h.2]
end
theorem eqv_iff {d e : D} (hd : d.toPy.canLay0 = true) (he : e.toPy.canLay0 = true) : PyData.eqv d.toPy e.toPy = true ↔ nrm d = nrm e := by
  rw [eqv_nP _ _ hd he]
  constructor
  · intro h
    rw [← ofP_nP d hd, ← ofP_nP e he, h]
  · intro h
    rw [nP_toPy d hd, nP_toPy e he, h]
/-- what == tells of data that is not too deep -/
theorem eqD_ok {d e : D} {n m : Nat} (hd : okN n d) (he : okN m e) (hn : n ≤ 64) (hm : m ≤ 64) : ∃ b, eqD d e = some b ∧ (b = true ↔ nrm d = nrm e) := by
  have gen : (if okD d = true ∧ okD e = true then some (PyData.eqv d.toPy e.toPy) else none) = some (PyData.eqv d.toPy e.toPy) := if_pos ⟨okD_of hd hn, okD_of he hm⟩
  have iff := eqv_iff hd.1 he.1
  unfold eqD
  split
  · rename_i i j
    exact ⟨_, rfl, by simp [nrm]⟩
  · rename_i i j
    exact ⟨_, rfl, by simp [nrm]⟩
  · rename_i i j
    exact ⟨_, rfl, by cases i <;> cases j <;> simp [nrm]⟩
  · exact ⟨_, rfl, by simp [nrm]⟩
  · exact ⟨_, gen, iff⟩
theorem eqD_t {d e : D} {n m : Nat} (hd : okN n d) (he : okN m e) (hn : n ≤ 64) (hm : m ≤ 64) (h : nrm d = nrm e) : eqD d e = some true := by
  obtain ⟨b, h1, h2⟩ := eqD_ok hd he hn hm
  rw [h1, h2.mpr h]
theorem eqD_f {d e : D} {n m : Nat} (hd : okN n d) (he : okN m e) (hn : n ≤ 64) (hm : m ≤ 64) (h : nrm d ≠ nrm e) : eqD d e = some false := by
  obtain ⟨b, h1, h2⟩ := eqD_ok hd he hn hm
  rw [h1]
  cases b with
  | false => rfl
  | true => exact absurd (h2.mp rfl) h
/-- in a list -/
theorem inL_ok {d : D} {ys : List D} {n m : Nat} (hd : okN n d) (hy : ∀ y ∈ ys, okN m y) (hn : n ≤ 64) (hm : m < 64) : ∃ b, inD d (.lst ys) = some b ∧ (b = true ↔ ∃ y ∈ ys, nrm y = nrm d) := by
  have e : inD d (.lst ys) = (if flatD d = true ∧ ys.all flatD = true then some (ys.any fun y => eqF y d) else if okD d = true ∧ okD (.lst ys) = true then some (ys.any fun y => PyData.eqv y.toPy d.toPy) else none) := by
    cases d <;> rfl
  rw [e]
  by_cases hf : flatD d = true ∧ ys.all flatD = true
  · rw [if_pos hf]
    refine ⟨_, rfl, ?_⟩
    rw [List.any_eq_true]
    have key : ∀ y ∈ ys, (eqF y d = true ↔ nrm y = nrm d) := fun y hy' => by
      have f1 := List.all_eq_true.mp hf.2 y hy'
      have f2 := hf.1
      cases y <;> first | (cases f1; done) | skip
      all_goals (cases d <;> first | (cases f2; done) | skip)
      all_goals (simp [eqF, nrm])
      · rename_i a b; cases a <;> cases b <;> simp
    constructor
    · rintro ⟨y, h1, h2⟩; exact ⟨y, h1, (key y h1).mp h2⟩
    · rintro ⟨y, h1, h2⟩; exact ⟨y, h1, (key y h1).mpr h2⟩
  · rw [if_neg hf, if_pos ⟨okD_of hd hn, okD_of (okN_lst hy) hm⟩]
    refine ⟨_, rfl, ?_⟩
    rw [List.any_eq_true]
    constructor
    · rintro ⟨y, h1, h2⟩; exact ⟨y, h1, (eqv_iff (hy y h1).1 hd.1).mp h2⟩
    · rintro ⟨y, h1, h2⟩; exact ⟨y, h1, (eqv_iff (hy y h1).1 hd.1).mpr h2⟩
end Lz
namespace Lz
open PySem PySem.Spec PyProof.Rows L2
/-- w tells things as data, no two alike, not deeper than n -/
structure PT {α : Type} (w : α → D) (n : Nat) : Prop where
  ok : ∀ x, okN n (w x)
  inj : ∀ x y, nrm (w x) = nrm (w y) → x = y
theorem PT.bl : PT D.bl 0 := ⟨fun _ => okN_bl, fun x y h => by cases x <;> cases y <;> simp [nrm] at h ⊢⟩
theorem PT.int : PT D.int 0 := ⟨fun _ => okN_int, fun x y h => by simpa [nrm] using h⟩
theorem PT.nat : PT (fun k : Nat => D.int k) 0 := ⟨fun _ => okN_int, fun x y h => by simp [nrm] at h; omega⟩
theorem nrms_inj {α : Type} {w : α → D} {n : Nat} (p : PT w n) : ∀ {xs ys : List α}, nrms (xs.map w) = nrms (ys.map w) → xs = ys
  | [], [], _ => rfl
  | [], _ :: _, h => by simp [nrms] at h
  | _ :: _, [], h => by simp [nrms] at h
  | x :: xs, y :: ys, h => by
    simp only [List.map_cons, nrms, List.cons.injEq] at h
    rw [p.inj x y h.1, nrms_inj p h.2]
theorem PT.tup {α : Type} {w : α → D} {n : Nat} (p : PT w n) : PT (fun l : List α => D.tup (l.map w)) (n + 1) :=
  ⟨fun l => okN_tup fun x hx => by obtain ⟨y, _, rfl⟩ := List.mem_map.mp hx; exact p.ok y, fun x y h => nrms_inj p (by simpa [nrm] using h)⟩
theorem PT.lst {α : Type} {w : α → D} {n : Nat} (p : PT w n) : PT (fun l : List α => D.lst (l.map w)) (n + 1) :=
  ⟨fun l => okN_lst fun x hx => by obtain ⟨y, _, rfl⟩ := List.mem_map.mp hx; exact p.ok y, fun x y h => nrms_inj p (by simpa [nrm] using h)⟩
theorem PT.mono {α : Type} {w : α → D} {n m : Nat} (p : PT w n) (h : n ≤ m) : PT w m := ⟨fun x => okN_mono (p.ok x) h, p.inj⟩
theorem PT.pair {α β : Type} {w : α → D} {v : β → D} {n : Nat} (p : PT w n) (q : PT v n) : PT (fun x : α × β => D.tup [w x.1, v x.2]) (n + 1) :=
  ⟨fun x => okN_tup fun y hy => by
    rcases List.mem_cons.mp hy with rfl | hy
    · exact p.ok _
    · rw [List.mem_singleton.mp hy]; exact q.ok _, fun x y h => by
    simp [nrm, nrms] at h
    exact Prod.ext (p.inj _ _ h.1) (q.inj _ _ h.2)⟩
def optD {α : Type} (w : α → D) : Option α → D
  | some x => w x
  | none => .non
theorem PT.eqD {α : Type} [DecidableEq α] {w : α → D} {n : Nat} (p : PT w n) (hn : n ≤ 64) (x y : α) : Lz.eqD (w x) (w y) = some (decide (x = y)) := by
  by_cases h : x = y
  · subst h
    rw [eqD_t (p.ok x) (p.ok x) hn hn rfl, decide_eq_true rfl]
  · rw [eqD_f (p.ok x) (p.ok y) hn hn fun e => h (p.inj x y e), decide_eq_false h]
theorem PT.opEq {α : Type} [DecidableEq α] {w : α → D} {n : Nat} (p : PT w n) (hn : n ≤ 64) (x y : α) : Lz.opEq (w x) (w y) = some (false, .bl (decide (x = y))) := by unfold Lz.opEq; rw [p.eqD hn]; rfl
theorem PT.opNe {α : Type} [DecidableEq α] {w : α → D} {n : Nat} (p : PT w n) (hn : n ≤ 64) (x y : α) : Lz.opNe (w x) (w y) = some (false, .bl (!decide (x = y))) := by unfold Lz.opNe; rw [p.eqD hn]; rfl
theorem PT.inD {α : Type} [DecidableEq α] {w : α → D} {n : Nat} (p : PT w n) (hn : n < 64) (x : α) (l : List α) : Lz.inD (w x) (.lst (l.map w)) = some (decide (x ∈ l)) := by
  obtain ⟨b, h1, h2⟩ := inL_ok (n := n) (m := n) (d := w x) (ys := l.map w) (p.ok x) (fun y hy => by obtain ⟨z, _, rfl⟩ := List.mem_map.mp hy; exact p.ok z) (by omega) hn
  rw [h1]
  congr 1
  have h3 : b = true ↔ x ∈ l := by
    rw [h2]
    constructor
    · rintro ⟨y, hy, e⟩
      obtain ⟨z, hz, rfl⟩ := List.mem_map.mp hy
      rw [← p.inj z x e]
      exact hz
    · exact fun hx => ⟨w x, List.mem_map_of_mem hx, rfl⟩
  cases b with
  | true => exact (decide_eq_true (h3.mp rfl)).symm
  | false => exact (decide_eq_false fun e => absurd (h3.mpr e) Bool.false_ne_true).symm
/-- the first place of a thing -/
def ixOf {α : Type} [DecidableEq α] (x : α) : List α → Nat
  | [] => 0
  | y :: l => if y = x then 0 else ixOf x l + 1
theorem ixOf_lt {α : Type} [DecidableEq α] {x : α} : ∀ {l : List α}, x ∈ l → ixOf x l < l.length
  | y :: l, h => by
    unfold ixOf
    by_cases e : y = x
    · rw [if_pos e]; simp
    · rw [if_neg e]
      have hm : x ∈ l := by
        rcases List.mem_cons.mp h with h | h
        · exact absurd h.symm e
        · exact h
      have := ixOf_lt hm
      simp only [List.length_cons]; omega
theorem ixOf_get {α : Type} [DecidableEq α] {x : α} : ∀ {l : List α}, x ∈ l → l[ixOf x l]? = some x
  | y :: l, h => by
    unfold ixOf
    by_cases e : y = x
    · rw [if_pos e, e]; rfl
    · rw [if_neg e]
      have hm : x ∈ l := by
        rcases List.mem_cons.mp h with h | h
        · exact absurd h.symm e
        · exact h
      rw [List.getElem?_cons_succ]
      exact ixOf_get hm
theorem ixOf_app {α : Type} [DecidableEq α] {x : α} : ∀ {l r : List α}, x ∈ l → ixOf x (l ++ r) = ixOf x l
  | y :: l, r, h => by
    rw [List.cons_append]
    unfold ixOf
    by_cases e : y = x
    · rw [if_pos e, if_pos e]
    · rw [if_neg e, if_neg e]
      have hm : x ∈ l := by
        rcases List.mem_cons.mp h with h | h
        · exact absurd h.symm e
        · exact h
      rw [ixOf_app hm]
theorem fstEq_map {α : Type} [DecidableEq α] {w : α → D} {n : Nat} (p : PT w n) (x : α) : ∀ (l : List α) (k : Nat), x ∈ l → fstEq (w x).toPy (D.toPys (l.map w)) k = some (k + ixOf x l)
  | [], _, h => by cases h
  | y :: l, k, h => by
    have iff := eqv_iff (p.ok y).1 (p.ok x).1
    rw [List.map_cons, D.toPys]
    unfold fstEq ixOf
    by_cases e : y = x
    · subst e
      rw [if_pos (iff.mpr rfl), if_pos rfl]
      rfl
    · rw [if_neg fun q => e (p.inj y x (iff.mp q)), if_neg e]
      have hm : x ∈ l := by
        rcases List.mem_cons.mp h with h | h
        · exact absurd h.symm e
        · exact h
      rw [fstEq_map p x l (k + 1) hm]
      congr 1
      omega
theorem PT.index {α : Type} [DecidableEq α] {w : α → D} {n : Nat} (p : PT w n) (hn : n < 64) {x : α} {l : List α} (h : x ∈ l) : mfLIndex (.lst (l.map w)) [w x] = some (false, .int (ixOf x l : Nat)) := by
  have h1 : okD (.lst (l.map w)) = true := okD_of (p.lst.ok l) (by omega)
  have h2 : okD (w x) = true := okD_of (p.ok x) (by omega)
  show (if okD (.lst (l.map w)) = true ∧ okD (w x) = true then (fstEq (w x).toPy (D.toPys (l.map w)) 0).map fun j => ((false, D.int (j : Nat)) : T) else none) = _
  rw [if_pos ⟨h1, h2⟩, fstEq_map p x l 0 h, Nat.zero_add]
  rfl
theorem setD_PT : PT (fun s : List Bool => D.tup (s.map D.bl)) 1 := PT.bl.tup
end Lz
namespace Lz
open PySem PySem.Spec PyProof.Rows L2
noncomputable section
def b_parts_of : Env → R Fl := (xSeq (xIf (sB (sBin opEq (sBin opIx (sVar 0) (sC (.int 0))) (sC (.str "lamp")))) (xSeq (xRet 1 (sTup sNil)) xNx) xNx) (xSeq (xRet 1 (sSl opSl (sVar 0) (some (sC (.int 1))) none)) xNx))
def F_parts_of : List T → FR := bodyF 1 [0] 1 b_parts_of
def b_gathered (r : List T → FR) : Env → R Fl := (xSeq (xIf (bAnd (sB (sBin opIn (sBin opIx (sVar 0) (sC (.int 0))) (sC (.tup [.str "before", .str "once", .str "sofar", .str "since"])))) (sB (sBin opNotIn (sVar 0) (sVar 1)))) (xSeq (xExpr (sMu opApp (sVar 1) (sCons (sVar 0) sNil))) xNx) xNx) (xSeq (xFr [] (sItE (sCallF F_parts_of (sCons (sVar 0) sNil))) (gN 2) (xSeq (xExpr (sCallF r (sCons (sVar 2) (sCons (sVar 1) sNil)))) xNx)) xNx))
def R_gathered : Nat → List T → FR
  | 0 => fun _ => .bad
  | n + 1 => bodyF 2 [0, 1] 3 (b_gathered (R_gathered n))
def F_gathered : List T → FR := R_gathered 24
def b_l_cell_at : Env → R Fl := (xSeq (xIf (sB (sBin opLt (sVar 1) (sCl cfLen (sCons (sVar 0) sNil)))) (xSeq (xRet 2 (sBin opIx (sVar 0) (sVar 1))) xNx) xNx) (xSeq (xIf (sB (sBin opEq (sVar 0) (sLst sNil))) (xSeq (xRet 2 (sC (.int 0))) xNx) xNx) (xSeq (xRet 2 (sBin opAdd (sBin opMul (sBin opIx (sVar 0) (sBin opMod (sVar 1) (sCl cfLen (sCons (sVar 0) sNil)))) (sC (.int 31))) (sVar 1))) xNx)))
def F_l_cell_at : List T → FR := bodyF 2 [0, 1] 2 b_l_cell_at
def b_l_mixed : Env → R Fl := (xSeq (xSt 3 (sBin opMod (sBin opMul (sBin opAdd (sBin opAdd (sCallF F_l_cell_at (sCons (sVar 0) (sCons (sVar 1) sNil))) (sBin opMul (sC (.int 7919)) (sVar 1))) (sC (.int 1))) (sC (.int 48271))) (sC (.int 2147483647)))) (xSeq (xRet 3 (sBin opMod (sBin opMod (sBin opAdd (sBin opAdd (sBin opMul (sVar 3) (sVar 3)) (sBin opMul (sC (.int 7)) (sVar 3))) (sVar 1)) (sC (.int 2147483629))) (sVar 2))) xNx))
def F_l_mixed : List T → FR := bodyF 3 [0, 1, 2] 4 b_l_mixed
def b_l_next : Env → R Fl := (xSeq (xSetI (sBin opAdd (sBin opIx (sVar 1) (sC (.int 0))) (sC (.int 1))) (sVar 1) (sC (.int 0))) (xSeq (xRet 3 (sCallF F_l_mixed (sCons (sVar 0) (sCons (sBin opIx (sVar 1) (sC (.int 0))) (sCons (sVar 2) sNil))))) xNx))
def F_l_next : List T → FR := bodyF 3 [0, 1, 2] 3 b_l_next
def b_l_saying (r : List T → FR) : Env → R Fl := (xSeq (xSt 5 (sCallF F_l_next (sCons (sVar 0) (sCons (sVar 1) (sCons (sC (.int 13)) sNil))))) (xSeq (xIf (bOr (sB (sBin opEq (sVar 3) (sC (.int 0)))) (sB (sBin opLt (sVar 5) (sC (.int 3))))) (xSeq (xRet 5 (sTup (sCons (sC (.str "lamp")) (sCons (sBin opIx (sVar 2) (sCallF F_l_next (sCons (sVar 0) (sCons (sVar 1) (sCons (sCl cfLen (sCons (sVar 2) sNil)) sNil))))) sNil)))) xNx) xNx) (xSeq (xIf (sB (sBin opEq (sVar 5) (sC (.int 3)))) (xSeq (xRet 5 (sTup (sCons (sBin opIx (sLst (sCons (sC (.str "yes")) (sCons (sC (.str "no")) sNil))) (sCallF F_l_next (sCons (sVar 0) (sCons (sVar 1) (sCons (sC (.int 2)) sNil))))) sNil))) xNx) xNx) (xSeq (xIf (bAnd (sB (sBin opGt (sVar 5) (sC (.int 8)))) (sB (sBin opGt (sBin opIx (sVar 4) (sC (.int 0))) (sC (.int 0))))) (xSeq (xSetI (sBin opSub (sBin opIx (sVar 4) (sC (.int 0))) (sC (.int 1))) (sVar 4) (sC (.int 0))) (xSeq (xSt 6 (sCallF r (sCons (sVar 0) (sCons (sVar 1) (sCons (sVar 2) (sCons (sBin opSub (sVar 3) (sC (.int 1))) (sCons (sVar 4) sNil))))))) (xSeq (xIf (sB (sBin opEq (sVar 5) (sC (.int 12)))) (xSeq (xRet 5 (sTup (sCons (sC (.str "since")) (sCons (sVar 6) (sCons (sCallF r (sCons (sVar 0) (sCons (sVar 1) (sCons (sVar 2) (sCons (sBin opSub (sVar 3) (sC (.int 1))) (sCons (sVar 4) sNil)))))) sNil))))) xNx) xNx) (xSeq (xRet 5 (sTup (sCons (sBin opIx (sLst (sCons (sC (.str "before")) (sCons (sC (.str "once")) (sCons (sC (.str "sofar")) sNil)))) (sBin opSub (sVar 5) (sC (.int 9)))) (sCons (sVar 6) sNil)))) xNx)))) xNx) (xSeq (xSt 6 (sCallF r (sCons (sVar 0) (sCons (sVar 1) (sCons (sVar 2) (sCons (sBin opSub (sVar 3) (sC (.int 1))) (sCons (sVar 4) sNil))))))) (xSeq (xIf (bOr (sB (sBin opEq (sVar 5) (sC (.int 4)))) (sB (sBin opGt (sVar 5) (sC (.int 8))))) (xSeq (xRet 5 (sTup (sCons (sC (.str "not")) (sCons (sVar 6) sNil)))) xNx) xNx) (xSeq (xRet 5 (sTup (sCons (sBin opIx (sLst (sCons (sC (.str "and")) (sCons (sC (.str "or")) (sCons (sC (.str "then")) (sCons (sC (.str "same")) sNil))))) (sBin opSub (sVar 5) (sC (.int 5)))) (sCons (sVar 6) (sCons (sCallF r (sCons (sVar 0) (sCons (sVar 1) (sCons (sVar 2) (sCons (sBin opSub (sVar 3) (sC (.int 1))) (sCons (sVar 4) sNil)))))) sNil))))) xNx)))))))
def R_l_saying : Nat → List T → FR
  | 0 => fun _ => .bad
  | n + 1 => bodyF 5 [0, 1, 2, 3, 4] 7 (b_l_saying (R_l_saying n))
def F_l_saying : List T → FR := R_l_saying 24
def b_l_names : Env → R Fl := (xSeq (xSt 2 (sLst (sCons (sC (.str "a")) (sCons (sC (.str "b")) (sCons (sC (.str "x")) (sCons (sC (.str "y")) (sCons (sC (.str "lamp")) (sCons (sC (.str "far")) (sCons (sC (.str "yesno")) (sCons (sC (.str "abcdefgh")) sNil)))))))))) (xSeq (xSt 3 (sCallF F_l_next (sCons (sVar 0) (sCons (sVar 1) (sCons (sC (.int 8)) sNil))))) (xSeq (xSt 4 (sBin opAdd (sSl opSl (sVar 2) (some (sVar 3)) none) (sSl opSl (sVar 2) none (some (sVar 3))))) (xSeq (xSt 5 (sBin opAdd (sC (.int 1)) (sCallF F_l_next (sCons (sVar 0) (sCons (sVar 1) (sCons (sC (.int 2)) sNil)))))) (xSeq (xSt 6 (sBin opAdd (sC (.int 1)) (sCallF F_l_next (sCons (sVar 0) (sCons (sVar 1) (sCons (sC (.int 2)) sNil)))))) (xSeq (xRet 2 (sTup (sCons (sCl cfTuple (sCons (sSl opSl (sVar 4) none (some (sVar 5))) sNil)) (sCons (sCl cfTuple (sCons (sSl opSl (sVar 4) (some (sVar 5)) (some (sBin opAdd (sVar 5) (sVar 6)))) sNil)) sNil)))) xNx))))))
def F_l_names : List T → FR := bodyF 2 [0, 1] 7 b_l_names
def b_is_whole : Env → R Fl := (xSeq (xRet 1 (sAnd (sB (sUn (isiD "int") (sVar 0))) (sOfB (bNot (sB (sUn (isiD "bool") (sVar 0))))))) xNx)
def F_is_whole : List T → FR := bodyF 1 [0] 1 b_is_whole
def b_between : Env → R Fl := (xSeq (xRet 3 (sAnd (sB (sCallF F_is_whole (sCons (sVar 0) sNil))) (sChain opLe opLe (sVar 1) (sVar 0) (sVar 2)))) xNx)
def F_between : List T → FR := bodyF 3 [0, 1, 2] 3 b_between
def b_is_name : Env → R Fl := (xSeq (xIf (bOr (bNot (sB (sUn (isiD "str") (sVar 0)))) (bOr (bNot (sB (sChain opLe opLe (sC (.int 1)) (sCl cfLen (sCons (sVar 0) sNil)) (sC (.int 8))))) (sB (sBin opIn (sVar 0) (sC (.tup [.str "yes", .str "no", .str "not", .str "and", .str "or", .str "then", .str "same", .str "before", .str "once", .str "sofar", .str "since", .str "foe", .str "friend", .str "promise", .str "must", .str "wish"])))))) (xSeq (xRet 1 (sC (.bl false))) xNx) xNx) (xSeq (xRet 1 (sCl cfAll (sCons (sComp [1] (sItE (sVar 0)) (gN 1) cT (sBin opIn (sVar 1) (sC (.str "abcdefghijklmnopqrstuvwxyz")))) sNil))) xNx))
def F_is_name : List T → FR := bodyF 1 [0] 2 b_is_name
def b_is_saying (r : List T → FR) : Env → R Fl := (xSeq (xIf (bOr (sB (sBin opEq (sVar 2) (sC (.int 0)))) (bOr (bNot (sB (sUn (isiD "tuple") (sVar 1)))) (bOr (sB (sBin opEq (sCl cfLen (sCons (sVar 1) sNil)) (sC (.int 0)))) (bNot (sB (sUn (isiD "str") (sBin opIx (sVar 1) (sC (.int 0))))))))) (xSeq (xRet 3 (sC (.bl false))) xNx) xNx) (xSeq (xIf (sB (sBin opEq (sBin opIx (sVar 1) (sC (.int 0))) (sC (.str "lamp")))) (xSeq (xRet 3 (sAnd (sB (sBin opEq (sCl cfLen (sCons (sVar 1) sNil)) (sC (.int 2)))) (sAnd (sB (sUn (isiD "str") (sBin opIx (sVar 1) (sC (.int 1))))) (sBin opIn (sBin opIx (sVar 1) (sC (.int 1))) (sVar 0))))) xNx) xNx) (xSeq (xIf (bOr (sB (sBin opEq (sBin opIx (sVar 1) (sC (.int 0))) (sC (.str "yes")))) (sB (sBin opEq (sBin opIx (sVar 1) (sC (.int 0))) (sC (.str "no"))))) (xSeq (xRet 3 (sBin opEq (sCl cfLen (sCons (sVar 1) sNil)) (sC (.int 1)))) xNx) xNx) (xSeq (xIf (bAnd (sB (sBin opNotIn (sBin opIx (sVar 1) (sC (.int 0))) (sC (.tup [.str "not", .str "before", .str "once", .str "sofar"])))) (sB (sBin opNotIn (sBin opIx (sVar 1) (sC (.int 0))) (sC (.tup [.str "and", .str "or", .str "then", .str "same", .str "since"]))))) (xSeq (xRet 3 (sC (.bl false))) xNx) xNx) (xSeq (xIf (sB (sBin opNe (sCl cfLen (sCons (sVar 1) sNil)) (sBin opAdd (sC (.int 2)) (sCl cfInt (sCons (sBin opIn (sBin opIx (sVar 1) (sC (.int 0))) (sC (.tup [.str "and", .str "or", .str "then", .str "same", .str "since"]))) sNil))))) (xSeq (xRet 3 (sC (.bl false))) xNx) xNx) (xSeq (xRet 3 (sCl cfAll (sCons (sComp [3] (sItE (sSl opSl (sVar 1) (some (sC (.int 1))) none)) (gN 3) cT (sCallF r (sCons (sVar 0) (sCons (sVar 3) (sCons (sBin opSub (sVar 2) (sC (.int 1))) sNil))))) sNil))) xNx))))))
def R_is_saying : Nat → List T → FR
  | 0 => fun _ => .bad
  | n + 1 => bodyF 3 [0, 1, 2] 4 (b_is_saying (R_is_saying n))
def F_is_saying : List T → FR := R_is_saying 24
def b_are_names : Env → R Fl := (xSeq (xRet 1 (sAnd (sB (sUn (isiD "tuple") (sVar 0))) (sAnd (sB (sChain opLe opLe (sC (.int 1)) (sCl cfLen (sCons (sVar 0) sNil)) (sC (.int 2)))) (sCl cfAll (sCons (sComp [1] (sItE (sVar 0)) (gN 1) cT (sCallF F_is_name (sCons (sVar 1) sNil))) sNil))))) xNx)
def F_are_names : List T → FR := bodyF 1 [0] 2 b_are_names
def b_stands_free (r : List T → FR) : Env → R Fl := (xSeq (xIf (sB (sBin opEq (sBin opIx (sVar 0) (sC (.int 0))) (sC (.str "lamp")))) (xSeq (xRet 2 (sBin opIn (sBin opIx (sVar 0) (sC (.int 1))) (sVar 1))) xNx) xNx) (xSeq (xIf (sB (sBin opEq (sBin opIx (sVar 0) (sC (.int 0))) (sC (.str "before")))) (xSeq (xRet 2 (sC (.bl false))) xNx) xNx) (xSeq (xRet 2 (sCl cfAny (sCons (sComp [2] (sItE (sCallF F_parts_of (sCons (sVar 0) sNil))) (gN 2) cT (sCallF r (sCons (sVar 2) (sCons (sVar 1) sNil)))) sNil))) xNx)))
def R_stands_free : Nat → List T → FR
  | 0 => fun _ => .bad
  | n + 1 => bodyF 2 [0, 1] 3 (b_stands_free (R_stands_free n))
def F_stands_free : List T → FR := R_stands_free 24
def b_are_sayings : Env → R Fl := (xSeq (xIf (bOr (bNot (sB (sUn (isiD "tuple") (sVar 0)))) (sB (sBin opGt (sCl cfLen (sCons (sVar 0) sNil)) (sVar 2)))) (xSeq (xRet 3 (sC (.bl false))) xNx) xNx) (xSeq (xRet 3 (sCl cfAll (sCons (sComp [3] (sItE (sVar 0)) (gN 3) cT (sCallF F_is_saying (sCons (sVar 1) (sCons (sVar 3) (sCons (sC (.int 8)) sNil))))) sNil))) xNx))
def F_are_sayings : List T → FR := bodyF 3 [0, 1, 2] 4 b_are_sayings
def b_is_wish : Env → R Fl := (xSeq (xIf (bOr (bNot (sB (sUn (isiD "tuple") (sVar 0)))) (sB (sBin opNe (sCl cfLen (sCons (sVar 0) sNil)) (sC (.int 2))))) (xSeq (xRet 2 (sC (.bl false))) xNx) xNx) (xSeq (xRet 2 (sAnd (sB (sCallF F_between (sCons (sBin opIx (sVar 0) (sC (.int 0))) (sCons (sC (.int 1)) (sCons (sC (.int 99)) sNil))))) (sCallF F_is_saying (sCons (sVar 1) (sCons (sBin opIx (sVar 0) (sC (.int 1))) (sCons (sC (.int 8)) sNil)))))) xNx))
def F_is_wish : List T → FR := bodyF 2 [0, 1] 2 b_is_wish
def b_sayings_of : Env → R Fl := (xSeq (xRet 1 (sBin opAdd (sBin opAdd (sBin opIx (sVar 0) (sC (.int 2))) (sBin opIx (sVar 0) (sC (.int 3)))) (sCl cfTuple (sCons (sComp [1] (sItE (sBin opIx (sVar 0) (sC (.int 4)))) (gN 1) cT (sBin opIx (sVar 1) (sC (.int 1)))) sNil)))) xNx)
def F_sayings_of : List T → FR := bodyF 1 [0] 2 b_sayings_of
def b_pieces_of : Env → R Fl := (xSeq (xSt 1 (sLst sNil)) (xSeq (xFr [] (sItE (sCallF F_sayings_of (sCons (sVar 0) sNil))) (gN 2) (xSeq (xExpr (sCallF F_gathered (sCons (sVar 2) (sCons (sVar 1) sNil)))) xNx)) (xSeq (xRet 1 (sVar 1)) xNx)))
def F_pieces_of : List T → FR := bodyF 1 [0] 3 b_pieces_of
def b_is_book : Env → R Fl := (xSeq (xIf (bOr (bNot (sB (sUn (isiD "tuple") (sVar 0)))) (bOr (sB (sBin opNe (sCl cfLen (sCons (sVar 0) sNil)) (sC (.int 5)))) (bOr (bNot (sB (sCallF F_are_names (sCons (sBin opIx (sVar 0) (sC (.int 0))) sNil)))) (bNot (sB (sCallF F_are_names (sCons (sBin opIx (sVar 0) (sC (.int 1))) sNil))))))) (xSeq (xRet 1 (sC (.bl false))) xNx) xNx) (xSeq (xSt 1 (sBin opAdd (sBin opIx (sVar 0) (sC (.int 0))) (sBin opIx (sVar 0) (sC (.int 1))))) (xSeq (xIf (bNot (sB (sCl cfAll (sCons (sComp [2] (sItE (sVar 1)) (gN 2) cT (sBin opEq (sMt "tuple" mfCount (sVar 1) (sCons (sVar 2) sNil)) (sC (.int 1)))) sNil)))) (xSeq (xRet 1 (sC (.bl false))) xNx) xNx) (xSeq (xIf (bOr (bNot (sB (sCallF F_are_sayings (sCons (sBin opIx (sVar 0) (sC (.int 2))) (sCons (sVar 1) (sCons (sC (.int 3)) sNil)))))) (bNot (sB (sCallF F_are_sayings (sCons (sBin opIx (sVar 0) (sC (.int 3))) (sCons (sVar 1) (sCons (sC (.int 3)) sNil))))))) (xSeq (xRet 1 (sC (.bl false))) xNx) xNx) (xSeq (xIf (bOr (bNot (sB (sUn (isiD "tuple") (sBin opIx (sVar 0) (sC (.int 4)))))) (bNot (sB (sChain opLe opLe (sC (.int 1)) (sCl cfLen (sCons (sBin opIx (sVar 0) (sC (.int 4))) sNil)) (sC (.int 5)))))) (xSeq (xRet 1 (sC (.bl false))) xNx) xNx) (xSeq (xIf (bNot (sB (sCl cfAll (sCons (sComp [3] (sItE (sBin opIx (sVar 0) (sC (.int 4)))) (gN 3) cT (sCallF F_is_wish (sCons (sVar 3) (sCons (sVar 1) sNil)))) sNil)))) (xSeq (xRet 1 (sC (.bl false))) xNx) xNx) (xSeq (xIf (sB (sCl cfAny (sCons (sComp [4] (sItE (sBin opIx (sVar 0) (sC (.int 2)))) (gN 4) cT (sCallF F_stands_free (sCons (sVar 4) (sCons (sBin opIx (sVar 0) (sC (.int 1))) sNil)))) sNil))) (xSeq (xRet 1 (sC (.bl false))) xNx) xNx) (xSeq (xRet 1 (sBin opLe (sCl cfLen (sCons (sCallF F_pieces_of (sCons (sVar 0) sNil)) sNil)) (sC (.int 4)))) xNx))))))))
def F_is_book : List T → FR := bodyF 1 [0] 5 b_is_book
def b_checked : Env → R Fl := (xSeq (xIf (bNot (sB (sCallF F_is_book (sCons (sVar 0) sNil)))) (xSeq (xRaise "NoBook") xNx) xNx) (xSeq (xRet 1 (sVar 0)) xNx))
def F_checked : List T → FR := bodyF 1 [0] 1 b_checked
def b_is_setting : Env → R Fl := (xSeq (xRet 2 (sAnd (sB (sUn (isiD "tuple") (sVar 0))) (sAnd (sB (sBin opEq (sCl cfLen (sCons (sVar 0) sNil)) (sVar 1))) (sCl cfAll (sCons (sComp [2] (sItE (sVar 0)) (gN 2) cT (sUn (isiD "bool") (sVar 2))) sNil))))) xNx)
def F_is_setting : List T → FR := bodyF 2 [0, 1] 3 b_is_setting
def b_l_promise : Env → R Fl := (xSeq (xSt 5 (sCallF F_l_saying (sCons (sVar 0) (sCons (sVar 1) (sCons (sVar 2) (sCons (sC (.int 1)) (sCons (sLst (sCons (sC (.int 0)) sNil)) sNil))))))) (xSeq (xIf (bAnd (sB (sBin opGt (sBin opIx (sVar 4) (sC (.int 0))) (sC (.int 0)))) (sB (sBin opEq (sCallF F_l_next (sCons (sVar 0) (sCons (sVar 1) (sCons (sC (.int 2)) sNil)))) (sC (.int 1))))) (xSeq (xSetI (sBin opSub (sBin opIx (sVar 4) (sC (.int 0))) (sC (.int 1))) (sVar 4) (sC (.int 0))) (xSeq (xSt 6 (sCallF F_l_saying (sCons (sVar 0) (sCons (sVar 1) (sCons (sVar 3) (sCons (sC (.int 1)) (sCons (sLst (sCons (sC (.int 0)) sNil)) sNil))))))) (xSeq (xRet 5 (sTup (sCons (sBin opIx (sLst (sCons (sC (.str "then")) (sCons (sC (.str "or")) (sCons (sC (.str "same")) sNil)))) (sCallF F_l_next (sCons (sVar 0) (sCons (sVar 1) (sCons (sC (.int 3)) sNil))))) (sCons (sTup (sCons (sC (.str "before")) (sCons (sVar 6) sNil))) (sCons (sVar 5) sNil))))) xNx))) xNx) (xSeq (xRet 5 (sVar 5)) xNx)))
def F_l_promise : List T → FR := bodyF 5 [0, 1, 2, 3, 4] 7 b_l_promise
def b_l_book : Env → R Fl := (xSeq (xSt 4 (sLst (sCons (sVar 1) sNil))) (xSeq (xSetG (gTp 2 (gCn (gN 5) (gCn (gN 6) gNl))) (sCallF F_l_names (sCons (sVar 0) (sCons (sVar 4) sNil)))) (xSeq (xSt 7 (sBin opAdd (sVar 5) (sVar 6))) (xSeq (xSt 8 (sLst (sCons (sCallF F_l_next (sCons (sVar 0) (sCons (sVar 4) (sCons (sBin opAdd (sVar 2) (sC (.int 1))) sNil)))) sNil))) (xSeq (xSt 9 (sLst sNil)) (xSeq (xFr [] (sRng (sCons (sBin opAdd (sC (.int 1)) (sCallF F_l_next (sCons (sVar 0) (sCons (sVar 4) (sCons (sC (.int 3)) sNil))))) sNil)) (gN 10) (xSeq (xSt 11 (sBin opAdd (sC (.int 1)) (sCallF F_l_next (sCons (sVar 0) (sCons (sVar 4) (sCons (sBin opIx (sLst (sCons (sC (.int 3)) (sCons (sC (.int 9)) (sCons (sC (.int 99)) sNil)))) (sCallF F_l_next (sCons (sVar 0) (sCons (sVar 4) (sCons (sC (.int 3)) sNil))))) sNil)))))) (xSeq (xExpr (sMu opApp (sVar 9) (sCons (sTup (sCons (sVar 11) (sCons (sCallF F_l_saying (sCons (sVar 0) (sCons (sVar 4) (sCons (sVar 7) (sCons (sC (.int 2)) (sCons (sVar 8) sNil)))))) sNil))) sNil))) xNx))) (xSeq (xSt 12 (sComp [10] (sRng (sCons (sCallF F_l_next (sCons (sVar 0) (sCons (sVar 4) (sCons (sBin opAdd (sVar 3) (sC (.int 1))) sNil)))) sNil)) (gN 10) cT (sCallF F_l_saying (sCons (sVar 0) (sCons (sVar 4) (sCons (sVar 7) (sCons (sC (.int 2)) (sCons (sVar 8) sNil)))))))) (xSeq (xSt 13 (sComp [10] (sRng (sCons (sCallF F_l_next (sCons (sVar 0) (sCons (sVar 4) (sCons (sC (.int 2)) sNil)))) sNil)) (gN 10) cT (sCallF F_l_promise (sCons (sVar 0) (sCons (sVar 4) (sCons (sVar 5) (sCons (sVar 7) (sCons (sVar 8) sNil)))))))) (xSeq (xRet 4 (sTup (sCons (sVar 5) (sCons (sVar 6) (sCons (sCl cfTuple (sCons (sVar 13) sNil)) (sCons (sCl cfTuple (sCons (sVar 12) sNil)) (sCons (sCl cfTuple (sCons (sVar 9) sNil)) sNil))))))) xNx)))))))))
def F_l_book : List T → FR := bodyF 4 [0, 1, 2, 3] 14 b_l_book
def b_settings_of_L1 : Env → R Fl := (xSeq (xExpr (sMu opExt (sVar 3) (sCons (sLst (sCons (sBin opAdd (sVar 4) (sTup (sCons (sC (.bl false)) sNil))) (sCons (sBin opAdd (sVar 4) (sTup (sCons (sC (.bl true)) sNil))) sNil))) sNil))) xNx)
def b_settings_of_L2 : Env → R Fl := (xSeq (xSt 3 (sLst sNil)) (xSeq (xFr [1] (sItE (sVar 1)) (gN 4) b_settings_of_L1) (xSeq (xSt 1 (sVar 3)) xNx)))
def b_settings_of : Env → R Fl := (xSeq (xSt 1 (sLst (sCons (sTup sNil) sNil))) (xSeq (xFr [] (sRng (sCons (sVar 0) sNil)) (gN 2) b_settings_of_L2) (xSeq (xRet 1 (sVar 1)) xNx)))
def F_settings_of : List T → FR := bodyF 1 [0] 5 b_settings_of
def b_is_stand_L1 : Env → R Fl := (xSeq (xIf (bOr (bNot (sB (sUn (isiD "tuple") (sVar 3)))) (bOr (sB (sBin opNe (sCl cfLen (sCons (sVar 3) sNil)) (sC (.int 2)))) (bNot (sB (sCallF F_is_setting (sCons (sBin opIx (sVar 3) (sC (.int 0))) (sCons (sCl cfLen (sCons (sBin opIx (sVar 0) (sC (.int 1))) sNil)) sNil))))))) (xSeq (xRet 3 (sC (.bl false))) xNx) xNx) (xSeq (xIf (bNot (sB (sCallF F_between (sCons (sBin opIx (sVar 3) (sC (.int 1))) (sCons (sC (.int 0)) (sCons (sBin opSub (sVar 2) (sC (.int 1))) sNil)))))) (xSeq (xRet 3 (sC (.bl false))) xNx) xNx) xNx))
def b_is_stand : Env → R Fl := (xSeq (xIf (bOr (bNot (sB (sUn (isiD "tuple") (sVar 1)))) (sB (sBin opNe (sCl cfLen (sCons (sVar 1) sNil)) (sCl cfLen (sCons (sCallF F_settings_of (sCons (sCl cfLen (sCons (sBin opIx (sVar 0) (sC (.int 0))) sNil)) sNil)) sNil))))) (xSeq (xRet 3 (sC (.bl false))) xNx) xNx) (xSeq (xFr [1] (sItE (sVar 1)) (gN 3) b_is_stand_L1) (xSeq (xRet 3 (sC (.bl true))) xNx)))
def F_is_stand : List T → FR := bodyF 3 [0, 1, 2] 4 b_is_stand
def b_is_machine_C1 : Env → R XV := (sCallF F_is_stand (sCons (sVar 0) (sCons (sVar 2) (sCons (sCl cfLen (sCons (sVar 1) sNil)) sNil))))
def b_is_machine : Env → R Fl := (xSeq (xIf (bOr (bNot (sB (sUn (isiD "tuple") (sVar 1)))) (bNot (sB (sChain opLe opLe (sC (.int 1)) (sCl cfLen (sCons (sVar 1) sNil)) (sC (.int 64)))))) (xSeq (xRet 2 (sC (.bl false))) xNx) xNx) (xSeq (xRet 2 (sCl cfAll (sCons (sComp [2] (sItE (sVar 1)) (gN 2) cT b_is_machine_C1) sNil))) xNx))
def F_is_machine : List T → FR := bodyF 2 [0, 1] 3 b_is_machine
def b_need_machine : Env → R Fl := (xSeq (xIf (bNot (sB (sCallF F_is_machine (sCons (sVar 0) (sCons (sVar 1) sNil))))) (xSeq (xRaise "NoMachine") xNx) xNx) xNx)
def F_need_machine : List T → FR := bodyF 2 [0, 1] 2 b_need_machine
def b_checked_machine : Env → R Fl := (xSeq (xExpr (sCallF F_need_machine (sCons (sCallF F_checked (sCons (sVar 0) sNil)) (sCons (sVar 1) sNil)))) (xSeq (xRet 2 (sVar 1)) xNx))
def F_checked_machine : List T → FR := bodyF 2 [0, 1] 2 b_checked_machine
def b_l_settings_L1 : Env → R Fl := (xSeq (xExpr (sMu opExt (sVar 3) (sCons (sLst (sCons (sBin opAdd (sVar 4) (sTup (sCons (sC (.bl false)) sNil))) (sCons (sBin opAdd (sVar 4) (sTup (sCons (sC (.bl true)) sNil))) sNil))) sNil))) xNx)
def b_l_settings_L2 : Env → R Fl := (xSeq (xSt 3 (sLst sNil)) (xSeq (xFr [1] (sItE (sVar 1)) (gN 4) b_l_settings_L1) (xSeq (xSt 1 (sVar 3)) xNx)))
def b_l_settings : Env → R Fl := (xSeq (xSt 1 (sLst (sCons (sTup sNil) sNil))) (xSeq (xFr [] (sRng (sCons (sVar 0) sNil)) (gN 2) b_l_settings_L2) (xSeq (xRet 1 (sVar 1)) xNx)))
def F_l_settings : List T → FR := bodyF 1 [0] 5 b_l_settings
def b_l_machine_L1 : Env → R Fl := (xSeq (xSt 11 (sCallF F_l_mixed (sCons (sVar 0) (sCons (sBin opAdd (sBin opAdd (sBin opAdd (sVar 1) (sC (.int 1))) (sBin opMul (sC (.int 4)) (sVar 8))) (sVar 10)) (sCons (sBin opMul (sC (.int 4)) (sVar 5)) sNil))))) (xSeq (xExpr (sMu opApp (sVar 9) (sCons (sTup (sCons (sBin opIx (sVar 6) (sBin opMod (sBin opMod (sVar 11) (sC (.int 4))) (sCl cfLen (sCons (sVar 6) sNil)))) (sCons (sBin opFdv (sVar 11) (sC (.int 4))) sNil))) sNil))) xNx))
def b_l_machine_L2 : Env → R Fl := (xSeq (xSt 9 (sLst sNil)) (xSeq (xFr [] (sRng (sCons (sCl cfLen (sCons (sCallF F_l_settings (sCons (sVar 2) sNil)) sNil)) sNil)) (gN 10) b_l_machine_L1) (xSeq (xExpr (sMu opApp (sVar 7) (sCons (sCl cfTuple (sCons (sVar 9) sNil)) sNil))) xNx)))
def b_l_machine : Env → R Fl := (xSeq (xSt 5 (sBin opAdd (sC (.int 1)) (sCallF F_l_mixed (sCons (sVar 0) (sCons (sVar 1) (sCons (sVar 4) sNil)))))) (xSeq (xSt 6 (sCallF F_l_settings (sCons (sVar 3) sNil))) (xSeq (xSt 7 (sLst sNil)) (xSeq (xFr [] (sRng (sCons (sVar 5) sNil)) (gN 8) b_l_machine_L2) (xSeq (xRet 5 (sCl cfTuple (sCons (sVar 7) sNil))) xNx)))))
def F_l_machine : List T → FR := bodyF 5 [0, 1, 2, 3, 4] 12 b_l_machine
def b_Teller_past_C1 (r0 : List T → FR) (r1 : List T → FR) : Env → R XV := (sMeth "Teller" "holds" r1 (sVar 0) (sCons (sVar 6) (sCons (sVar 2) (sCons (sVar 3) sNil))))
def b_Teller_past (r0 : List T → FR) (r1 : List T → FR) : Env → R Fl := (xSeq (xSt 4 (sBin opIx (sVar 2) (sMt "list" mfLIndex (sFld "Teller" "pieces" (sVar 0)) (sCons (sVar 1) sNil)))) (xSeq (xIf (sB (sBin opEq (sBin opIx (sVar 1) (sC (.int 0))) (sC (.str "before")))) (xSeq (xRet 4 (sVar 4)) xNx) xNx) (xSeq (xSt 5 (sComp [6] (sItE (sCallF F_parts_of (sCons (sVar 1) sNil))) (gN 6) cT (b_Teller_past_C1 r0 r1))) (xSeq (xIf (sB (sBin opEq (sBin opIx (sVar 1) (sC (.int 0))) (sC (.str "once")))) (xSeq (xRet 4 (sOr (sB (sBin opIx (sVar 5) (sC (.int 0)))) (sVar 4))) xNx) xNx) (xSeq (xIf (sB (sBin opEq (sBin opIx (sVar 1) (sC (.int 0))) (sC (.str "sofar")))) (xSeq (xRet 4 (sAnd (sB (sBin opIx (sVar 5) (sC (.int 0)))) (sVar 4))) xNx) xNx) (xSeq (xRet 4 (sOr (sB (sBin opIx (sVar 5) (sC (.int 1)))) (sAnd (sB (sBin opIx (sVar 5) (sC (.int 0)))) (sVar 4)))) xNx))))))
def b_Teller_holds_C1 (r0 : List T → FR) (r1 : List T → FR) : Env → R XV := (sMeth "Teller" "holds" r1 (sVar 0) (sCons (sVar 5) (sCons (sVar 2) (sCons (sVar 3) sNil))))
def b_Teller_holds (r0 : List T → FR) (r1 : List T → FR) : Env → R Fl := (xSeq (xIf (sB (sBin opEq (sBin opIx (sVar 1) (sC (.int 0))) (sC (.str "lamp")))) (xSeq (xRet 4 (sBin opIx (sVar 3) (sMt "tuple" mfIndex (sFld "Teller" "names" (sVar 0)) (sCons (sBin opIx (sVar 1) (sC (.int 1))) sNil)))) xNx) xNx) (xSeq (xIf (bOr (sB (sBin opEq (sBin opIx (sVar 1) (sC (.int 0))) (sC (.str "yes")))) (sB (sBin opEq (sBin opIx (sVar 1) (sC (.int 0))) (sC (.str "no"))))) (xSeq (xRet 4 (sBin opEq (sBin opIx (sVar 1) (sC (.int 0))) (sC (.str "yes")))) xNx) xNx) (xSeq (xIf (sB (sBin opIn (sBin opIx (sVar 1) (sC (.int 0))) (sTup (sCons (sC (.str "before")) (sCons (sC (.str "once")) (sCons (sC (.str "sofar")) (sCons (sC (.str "since")) sNil))))))) (xSeq (xRet 4 (sMeth "Teller" "past" r0 (sVar 0) (sCons (sVar 1) (sCons (sVar 2) (sCons (sVar 3) sNil))))) xNx) xNx) (xSeq (xSt 4 (sComp [5] (sItE (sCallF F_parts_of (sCons (sVar 1) sNil))) (gN 5) cT (b_Teller_holds_C1 r0 r1))) (xSeq (xIf (sB (sBin opEq (sBin opIx (sVar 1) (sC (.int 0))) (sC (.str "not")))) (xSeq (xRet 4 (sOfB (bNot (sB (sBin opIx (sVar 4) (sC (.int 0))))))) xNx) xNx) (xSeq (xIf (sB (sBin opEq (sBin opIx (sVar 1) (sC (.int 0))) (sC (.str "and")))) (xSeq (xRet 4 (sAnd (sB (sBin opIx (sVar 4) (sC (.int 0)))) (sBin opIx (sVar 4) (sC (.int 1))))) xNx) xNx) (xSeq (xIf (sB (sBin opEq (sBin opIx (sVar 1) (sC (.int 0))) (sC (.str "or")))) (xSeq (xRet 4 (sOr (sB (sBin opIx (sVar 4) (sC (.int 0)))) (sBin opIx (sVar 4) (sC (.int 1))))) xNx) xNx) (xSeq (xIf (sB (sBin opEq (sBin opIx (sVar 1) (sC (.int 0))) (sC (.str "then")))) (xSeq (xRet 4 (sOr (sB (sBin opIx (sVar 4) (sC (.int 1)))) (sOfB (bNot (sB (sBin opIx (sVar 4) (sC (.int 0)))))))) xNx) xNx) (xSeq (xRet 4 (sBin opEq (sBin opIx (sVar 4) (sC (.int 0))) (sBin opIx (sVar 4) (sC (.int 1))))) xNx)))))))))
mutual
def R_Teller_past : Nat → List T → FR
  | 0 => fun _ => .bad
  | n + 1 => bodyF 4 [0, 1, 2, 3] 7 (b_Teller_past (R_Teller_past n) (R_Teller_holds n))
def R_Teller_holds : Nat → List T → FR
  | 0 => fun _ => .bad
  | n + 1 => bodyF 4 [0, 1, 2, 3] 6 (b_Teller_holds (R_Teller_past n) (R_Teller_holds n))
end
def b_numbered_L1 : Env → R Fl := (xSeq (xExpr (sMu opApp (sVar 2) (sCons (sSetd (sVar 1) (sVar 3) (sCl cfLenD (sCons (sVar 1) sNil))) sNil))) xNx)
def b_numbered : Env → R Fl := (xSeq (xSt 1 sDct0) (xSeq (xSt 2 (sLst sNil)) (xSeq (xFr [0] (sItE (sVar 0)) (gN 3) b_numbered_L1) (xSeq (xRet 1 (sTup (sCons (sVar 2) (sCons (sCl cfLenD (sCons (sVar 1) sNil)) sNil)))) xNx))))
def F_numbered : List T → FR := bodyF 1 [0] 4 b_numbered
def b_l_whole : Env → R Fl := (xSeq (xRet 1 (sAnd (sB (sUn (isiD "int") (sVar 0))) (sOfB (bNot (sB (sUn (isiD "bool") (sVar 0))))))) xNx)
def F_l_whole : List T → FR := bodyF 1 [0] 1 b_l_whole
def b_l_is_machine_L1 : Env → R Fl := (xSeq (xIf (bOr (bNot (sB (sUn (isiD "tuple") (sVar 4)))) (bOr (sB (sBin opNe (sCl cfLen (sCons (sVar 4) sNil)) (sC (.int 2)))) (sB (sBin opNotIn (sBin opIx (sVar 4) (sC (.int 0))) (sCallF F_l_settings (sCons (sVar 2) sNil)))))) (xSeq (xRet 3 (sC (.bl false))) xNx) xNx) (xSeq (xIf (bOr (bNot (sB (sCallF F_l_whole (sCons (sBin opIx (sVar 4) (sC (.int 1))) sNil)))) (bOr (sB (sBin opLt (sBin opIx (sVar 4) (sC (.int 1))) (sC (.int 0)))) (sB (sBin opGe (sBin opIx (sVar 4) (sC (.int 1))) (sCl cfLen (sCons (sVar 0) sNil)))))) (xSeq (xRet 3 (sC (.bl false))) xNx) xNx) xNx))
def b_l_is_machine_L2 : Env → R Fl := (xSeq (xIf (bOr (bNot (sB (sUn (isiD "tuple") (sVar 3)))) (sB (sBin opNe (sCl cfLen (sCons (sVar 3) sNil)) (sCl cfLen (sCons (sCallF F_l_settings (sCons (sVar 1) sNil)) sNil))))) (xSeq (xRet 3 (sC (.bl false))) xNx) xNx) (xSeq (xFr [3] (sItE (sVar 3)) (gN 4) b_l_is_machine_L1) xNx))
def b_l_is_machine : Env → R Fl := (xSeq (xIf (bOr (bNot (sB (sUn (isiD "tuple") (sVar 0)))) (bNot (sB (sChain opLe opLe (sC (.int 1)) (sCl cfLen (sCons (sVar 0) sNil)) (sC (.int 64)))))) (xSeq (xRet 3 (sC (.bl false))) xNx) xNx) (xSeq (xFr [0] (sItE (sVar 0)) (gN 3) b_l_is_machine_L2) (xSeq (xRet 3 (sC (.bl true))) xNx)))
def F_l_is_machine : List T → FR := bodyF 3 [0, 1, 2] 5 b_l_is_machine
def b_lesser_of_C1 : Env → R XV := (sCl cfTuple (sCons (sComp [4] (sItE (sVar 3)) (gN 4) cT (sBin opIx (sVar 4) (sC (.int 0)))) sNil))
def b_lesser_of_L1 : Env → R Fl := (xSeq (xExpr (sMu opApp (sVar 6) (sCons (sTup (sCons (sBin opIx (sVar 1) (sVar 7)) (sCons (sCl cfTuple (sCons (sComp [4] (sItE (sBin opIx (sVar 0) (sVar 7))) (gN 4) cT (sBin opIx (sVar 1) (sBin opIx (sVar 4) (sC (.int 1))))) sNil)) sNil))) sNil))) xNx)
def b_lesser_of_L2 : Env → R Fl := (xSeq (xSt 5 (sVar 2)) (xSeq (xSt 6 (sLst sNil)) (xSeq (xFr [] (sRng (sCons (sCl cfLen (sCons (sVar 0) sNil)) sNil)) (gN 7) b_lesser_of_L1) (xSeq (xSetG (gTp 2 (gCn (gN 1) (gCn (gN 2) gNl))) (sCallF F_numbered (sCons (sVar 6) sNil))) xNx))))
def b_lesser_of_L3 : Env → R Fl := (xSeq (xIf (sB (sBin opNotInK (sBin opIx (sVar 1) (sVar 13)) (sVar 8))) (xSeq (xSetK (sCl cfLen (sCons (sVar 9) sNil)) (sVar 8) (sBin opIx (sVar 1) (sVar 13))) (xSeq (xExpr (sMu opApp (sVar 9) (sCons (sVar 13) sNil))) xNx)) xNx) (xSeq (xExpr (sMu opApp (sVar 11) (sCons (sTup (sCons (sVar 12) (sCons (sBin opIxK (sVar 8) (sBin opIx (sVar 1) (sVar 13))) sNil))) sNil))) xNx))
def b_lesser_of_L4 : Env → R Fl := (xSeq (xSt 11 (sLst sNil)) (xSeq (xFr [] (sItE (sBin opIx (sVar 0) (sBin opIx (sVar 9) (sCl cfLen (sCons (sVar 10) sNil))))) (gTp 2 (gCn (gN 12) (gCn (gN 13) gNl))) b_lesser_of_L3) (xSeq (xExpr (sMu opApp (sVar 10) (sCons (sCl cfTuple (sCons (sVar 11) sNil)) sNil))) xNx)))
def b_lesser_of : Env → R Fl := (xSeq (xSetG (gTp 2 (gCn (gN 1) (gCn (gN 2) gNl))) (sCallF F_numbered (sCons (sComp [3] (sItE (sVar 0)) (gN 3) cT b_lesser_of_C1) sNil))) (xSeq (xSt 5 (sC (.int 0))) (xSeq (xWU (sB (sBin opNe (sVar 5) (sVar 2))) b_lesser_of_L2) (xSeq (xSt 8 (sDispK (sBin opIx (sVar 1) (sC (.int 0))) (sC (.int 0)))) (xSeq (xSt 9 (sLst (sCons (sC (.int 0)) sNil))) (xSeq (xSt 10 (sLst sNil)) (xSeq (xWU (sB (sBin opLt (sCl cfLen (sCons (sVar 10) sNil)) (sCl cfLen (sCons (sVar 9) sNil)))) b_lesser_of_L4) (xSeq (xRet 1 (sCl cfTuple (sCons (sVar 10) sNil))) xNx))))))))
def F_lesser_of : List T → FR := bodyF 1 [0] 14 b_lesser_of
def b_lesser_k20 : Env → R Fl := (xSeq (xRet 2 (sCallF F_lesser_of (sCons (sCallF F_checked_machine (sCons (sVar 0) (sCons (sVar 1) sNil))) sNil))) xNx)
def F_lesser_k20 : List T → FR := bodyF 2 [0, 1] 2 b_lesser_k20
def b_l_are_apart_L1 : Env → R Fl := (xSeq (xIf (sB (sBin opNe (sBin opIx (sVar 8) (sC (.int 0))) (sBin opIx (sVar 9) (sC (.int 0))))) (xSeq (xRet 3 (sC (.bl true))) xNx) xNx) (xSeq (xIf (sB (sBin opNotInT (sTup (sCons (sBin opIx (sVar 8) (sC (.int 1))) (sCons (sBin opIx (sVar 9) (sC (.int 1))) sNil))) (sVar 4))) (xSeq (xSetT (sC (.bl true)) (sVar 4) (sTup (sCons (sBin opIx (sVar 8) (sC (.int 1))) (sCons (sBin opIx (sVar 9) (sC (.int 1))) sNil)))) (xSeq (xExpr (sMu opApp (sVar 3) (sCons (sTup (sCons (sBin opIx (sVar 8) (sC (.int 1))) (sCons (sBin opIx (sVar 9) (sC (.int 1))) sNil))) sNil))) xNx)) xNx) xNx))
def b_l_are_apart_L2 : Env → R Fl := (xSeq (xSetG (gTp 2 (gCn (gN 6) (gCn (gN 7) gNl))) (sBin opIx (sVar 3) (sVar 5))) (xSeq (xFr [] (sZip (sCons (sBin opIx (sVar 0) (sVar 6)) (sCons (sBin opIx (sVar 0) (sVar 7)) sNil))) (gTp 2 (gCn (gN 8) (gCn (gN 9) gNl))) b_l_are_apart_L1) (xSeq (xSt 5 (sBin opAdd (sVar 5) (sC (.int 1)))) xNx)))
def b_l_are_apart : Env → R Fl := (xSeq (xSt 3 (sLst (sCons (sTup (sCons (sVar 1) (sCons (sVar 2) sNil))) sNil))) (xSeq (xSt 4 (sDisp (sTup (sCons (sVar 1) (sCons (sVar 2) sNil))) (sC (.bl true)))) (xSeq (xSt 5 (sC (.int 0))) (xSeq (xWU (sB (sBin opLt (sVar 5) (sCl cfLen (sCons (sVar 3) sNil)))) b_l_are_apart_L2) (xSeq (xRet 3 (sC (.bl false))) xNx)))))
def F_l_are_apart : List T → FR := bodyF 3 [0, 1, 2] 10 b_l_are_apart
def b_l_is_least_L1 : Env → R Fl := (xSeq (xIf (sB (sBin opNotIn (sVar 4) (sVar 1))) (xSeq (xExpr (sMu opApp (sVar 1) (sCons (sVar 4) sNil))) xNx) xNx) xNx)
def b_l_is_least_L2 : Env → R Fl := (xSeq (xIf (sB (sBin opGe (sVar 2) (sCl cfLen (sCons (sVar 1) sNil)))) (xSeq (xRet 1 (sC (.bl false))) xNx) xNx) (xSeq (xFr [] (sItE (sBin opIx (sVar 0) (sBin opIx (sVar 1) (sVar 2)))) (gTp 2 (gCn (gN 3) (gCn (gN 4) gNl))) b_l_is_least_L1) xNx))
def b_l_is_least_L3 : Env → R Fl := (xSeq (xIf (bNot (sB (sCallF F_l_are_apart (sCons (sVar 0) (sCons (sVar 5) (sCons (sVar 6) sNil)))))) (xSeq (xRet 1 (sC (.bl false))) xNx) xNx) xNx)
def b_l_is_least_L4 : Env → R Fl := (xSeq (xFr [] (sRng (sCons (sVar 5) sNil)) (gN 6) b_l_is_least_L3) xNx)
def b_l_is_least : Env → R Fl := (xSeq (xSt 1 (sLst (sCons (sC (.int 0)) sNil))) (xSeq (xFr [] (sRng (sCons (sCl cfLen (sCons (sVar 0) sNil)) sNil)) (gN 2) b_l_is_least_L2) (xSeq (xIf (sB (sBin opNe (sVar 1) (sUn opLRg1 (sCl cfLen (sCons (sVar 0) sNil))))) (xSeq (xRet 1 (sC (.bl false))) xNx) xNx) (xSeq (xFr [] (sRng (sCons (sCl cfLen (sCons (sVar 0) sNil)) sNil)) (gN 5) b_l_is_least_L4) (xSeq (xRet 1 (sC (.bl true))) xNx)))))
def F_l_is_least : List T → FR := bodyF 1 [0] 7 b_l_is_least
def b_l_same_L1 : Env → R Fl := (xSeq (xIf (sB (sBin opNe (sBin opIx (sVar 4) (sC (.int 0))) (sBin opIx (sVar 5) (sC (.int 0))))) (xSeq (xRet 2 (sC (.bl false))) xNx) xNx) (xSeq (xIf (sB (sBin opNotIn (sTup (sCons (sBin opIx (sVar 4) (sC (.int 1))) (sCons (sBin opIx (sVar 5) (sC (.int 1))) sNil))) (sVar 2))) (xSeq (xExpr (sMu opApp (sVar 2) (sCons (sTup (sCons (sBin opIx (sVar 4) (sC (.int 1))) (sCons (sBin opIx (sVar 5) (sC (.int 1))) sNil))) sNil))) xNx) xNx) xNx))
def b_l_same_L2 : Env → R Fl := (xSeq (xFr [] (sZip (sCons (sBin opIx (sVar 0) (sBin opIx (sBin opIx (sVar 2) (sVar 3)) (sC (.int 0)))) (sCons (sBin opIx (sVar 1) (sBin opIx (sBin opIx (sVar 2) (sVar 3)) (sC (.int 1)))) sNil))) (gTp 2 (gCn (gN 4) (gCn (gN 5) gNl))) b_l_same_L1) (xSeq (xSt 3 (sBin opAdd (sVar 3) (sC (.int 1)))) xNx))
def b_l_same : Env → R Fl := (xSeq (xSt 2 (sLst (sCons (sTup (sCons (sC (.int 0)) (sCons (sC (.int 0)) sNil))) sNil))) (xSeq (xSt 3 (sC (.int 0))) (xSeq (xWU (sB (sBin opLt (sVar 3) (sCl cfLen (sCons (sVar 2) sNil)))) b_l_same_L2) (xSeq (xRet 2 (sC (.bl true))) xNx))))
def F_l_same : List T → FR := bodyF 2 [0, 1] 6 b_l_same
def b_law_k20 : Env → R Fl := (xSeq (xSt 1 (sCallF F_l_book (sCons (sVar 0) (sCons (sC (.int 40)) (sCons (sC (.int 1)) (sCons (sC (.int 0)) sNil)))))) (xSeq (xSt 2 (sCallF F_l_machine (sCons (sVar 0) (sCons (sC (.int 0)) (sCons (sCl cfLen (sCons (sBin opIx (sVar 1) (sC (.int 0))) sNil)) (sCons (sCl cfLen (sCons (sBin opIx (sVar 1) (sC (.int 1))) sNil)) (sCons (sC (.int 8)) sNil))))))) (xSeq (xSt 3 (sCallF F_lesser_k20 (sCons (sVar 1) (sCons (sVar 2) sNil)))) (xSeq (xIf (bOr (bNot (sB (sCallF F_l_is_machine (sCons (sVar 3) (sCons (sCl cfLen (sCons (sBin opIx (sVar 1) (sC (.int 0))) sNil)) (sCons (sCl cfLen (sCons (sBin opIx (sVar 1) (sC (.int 1))) sNil)) sNil)))))) (bNot (sB (sCallF F_l_same (sCons (sVar 2) (sCons (sVar 3) sNil)))))) (xSeq (xRet 1 (sC (.bl false))) xNx) xNx) (xSeq (xRet 1 (sAnd (sB (sCallF F_l_is_least (sCons (sVar 3) sNil))) (sBin opEq (sCallF F_lesser_k20 (sCons (sVar 1) (sCons (sVar 3) sNil))) (sVar 3)))) xNx)))))
def F_law_k20 : List T → FR := bodyF 1 [0] 4 b_law_k20
end
end Lz
namespace Lz
open PySem PySem.Spec PyProof.Rows L2
theorem atI_lt {α : Type} {l : List α} {k : Nat} (h : k < l.length) : atI l (k : Int) = some l[k] := atI_nat (List.getElem?_eq_getElem h)
def cellAt (ns : List Int) (k : Nat) : Int := if h : k < ns.length then ns[k] else if h : ns = [] then 0 else ns[k % ns.length]'(Nat.mod_lt _ (by cases ns; exact absurd rfl h; simp)) * 31 + k
theorem eqD_scr_nil {ns : List Int} : eqD (.scr ns) (.lst []) = some (decide (ns = [])) := by
  by_cases h : ns = []
  · rw [decide_eq_true h]
    subst h
    exact eqD_t (n := 1) (m := 1) okN_scr (okN_lst (by simp)) (by decide) (by decide) (by simp [nrm, nrms])
  · rw [decide_eq_false h]
    refine eqD_f (n := 1) (m := 1) okN_scr (okN_lst (by simp)) (by decide) (by decide) ?_
    cases ns with
    | nil => exact absurd rfl h
    | cons a b => simp [nrm, nrms]
theorem fmod_nat (a b : Nat) : ((a : Int)).fmod (b : Int) = ((a % b : Nat) : Int) := by
  rw [Int.fmod_eq_emod_of_nonneg _ (Int.natCast_nonneg b)]
  exact (Int.natCast_emod a b).symm
theorem cell_sp (ns : List Int) (hl : ns.length ≤ 63) (k : Nat) : F_l_cell_at [(false, .scr ns), (false, .int k)] = .ok (false, .int (cellAt ns k)) [some (false, .scr ns), some (false, .int k)] := by
  unfold cellAt
  by_cases h : k < ns.length
  · simp [F_l_cell_at, b_l_cell_at, h, atI_lt h]
  · by_cases h2 : ns = []
    · subst h2
      have h3 : ¬ (k : Int) < 0 := by omega
      simp [F_l_cell_at, b_l_cell_at, eqD_scr_nil, h3]
    · have hp : 0 < ns.length := by cases ns; exact absurd rfl h2; simp
      have hm := Nat.mod_lt k hp
      simp [F_l_cell_at, b_l_cell_at, h, h2, eqD_scr_nil, fmod_nat, ← Int.natCast_emod, atI_lt hm]
def drawn (ns : List Int) (k : Nat) : Int := (cellAt ns k + 7919 * k + 1) * 48271 % 2147483647
def mixed (ns : List Int) (k many : Nat) : Nat := ((drawn ns k * drawn ns k + 7 * drawn ns k + k) % 2147483629 % (many : Int)).toNat
theorem mixed_lt (ns : List Int) (k many : Nat) (h : 0 < many) : mixed ns k many < many := by
  unfold mixed
  have := Int.emod_lt_of_pos ((drawn ns k * drawn ns k + 7 * drawn ns k + k) % 2147483629) (show (0 : Int) < many by omega)
  have h2 := Int.emod_nonneg ((drawn ns k * drawn ns k + 7 * drawn ns k + k) % 2147483629) (show (many : Int) ≠ 0 by omega)
  omega
theorem fmod_pos (x : Int) (m : Nat) : x.fmod (m : Int) = x % (m : Int) := Int.fmod_eq_emod_of_nonneg _ (by omega)
theorem mixed_sp (ns : List Int) (hl : ns.length ≤ 63) (k many : Nat) (hm : 0 < many) : F_l_mixed [(false, .scr ns), (false, .int k), (false, .int many)] = .ok (false, .int (mixed ns k many)) [some (false, .scr ns), some (false, .int k), some (false, .int many)] := by
  have h1 : (many : Int) ≠ 0 := by omega
  have e2 : ∀ x : Int, x.fmod 2147483647 = x % 2147483647 := fun x => fmod_pos x 2147483647
  have e3 : ∀ x : Int, x.fmod 2147483629 = x % 2147483629 := fun x => fmod_pos x 2147483629
  have hd : (cellAt ns k + 7919 * k + 1) * 48271 % 2147483647 = drawn ns k := rfl
  have d0 : 0 ≤ drawn ns k := Int.emod_nonneg _ (by decide)
  have d1 : drawn ns k < 2147483647 := Int.emod_lt_of_pos _ (by decide)
  have d2 : -18446744073709551616 < drawn ns k := by omega
  have d3 : drawn ns k < 18446744073709551616 := by omega
  have hr : ((mixed ns k many : Nat) : Int) = (drawn ns k * drawn ns k + 7 * drawn ns k + k) % 2147483629 % (many : Int) := by
    unfold mixed
    exact Int.toNat_of_nonneg (Int.emod_nonneg _ h1)
  have h1' : many ≠ 0 := by omega
  simp [F_l_mixed, b_l_mixed, cell_sp ns hl k, e2, e3, hd, d2, d3, fmod_pos, h1', hr]
theorem next_sp (ns : List Int) (hl : ns.length ≤ 63) (m many : Nat) (hm : 0 < many) : F_l_next [(false, .scr ns), (true, .lst [.int m]), (false, .int many)] = .ok (false, .int (mixed ns (m + 1) many)) [some (false, .scr ns), some (true, .lst [.int (m + 1 : Nat)]), some (false, .int many)] := by
  have a0 : ∀ d : D, atI [d] 0 = some d := fun _ => rfl
  have i0 : ixN 1 0 = some 0 := rfl
  have h := mixed_sp ns hl (m + 1) many hm
  rw [Int.natCast_add] at h
  simp at h
  simp [F_l_next, b_l_next, a0, i0, h]
end Lz
namespace Lz
open PySem PySem.Spec PyProof.Rows L2
section
variable {α : Type} {xs : List α} {i j : Nat}
theorem cut_to : cut xs none (some (j : Int)) = xs.take j := by
  unfold cut
  rw [HT.sIx_nat]
  show (xs.drop 0).take (min j xs.length - 0) = _
  rw [List.drop_zero, Nat.sub_zero]
  by_cases h : j ≤ xs.length
  · rw [Nat.min_eq_left h]
  · have e : min j xs.length = xs.length := Nat.min_eq_right (by omega)
    rw [e, List.take_of_length_le (Nat.le_refl _), List.take_of_length_le (by omega)]
theorem cut_from : cut xs (some (i : Int)) none = xs.drop i := by
  unfold cut
  rw [HT.sIx_nat]
  show (xs.drop (min i xs.length)).take (xs.length - min i xs.length) = _
  by_cases h : i ≤ xs.length
  · rw [Nat.min_eq_left h]
    exact List.take_of_length_le (by rw [List.length_drop]; exact Nat.le_refl _)
  · have e : min i xs.length = xs.length := Nat.min_eq_right (by omega)
    rw [e, List.drop_of_length_le (Nat.le_refl _), List.drop_of_length_le (by omega), List.take_nil]
theorem cut_mid : cut xs (some (i : Int)) (some (j : Int)) = (xs.drop i).take (j - i) := by
  unfold cut
  rw [HT.sIx_nat, HT.sIx_nat]
  by_cases h : i ≤ xs.length
  · have e : min i xs.length = i := Nat.min_eq_left h
    rw [e]
    by_cases h2 : j ≤ xs.length
    · rw [Nat.min_eq_left h2]
    · have e : min j xs.length = xs.length := Nat.min_eq_right (by omega)
      rw [e, List.take_of_length_le (by rw [List.length_drop]; exact Nat.le_refl _), List.take_of_length_le (by rw [List.length_drop]; omega)]
  · have e : min i xs.length = xs.length := Nat.min_eq_right (by omega)
    rw [e, List.drop_of_length_le (Nat.le_refl _), List.drop_of_length_le (by omega : xs.length ≤ i), List.take_nil, List.take_nil]
end
@[simp] theorem cut_from1 {α : Type} {xs : List α} : cut xs (some 1) none = xs.drop 1 := cut_from (i := 1)

inductive U1 where
  | nt | bf | on | sf
  deriving DecidableEq
inductive U2 where
  | an | or | th | sm | sn
  deriving DecidableEq
def U1.str : U1 → Str
  | .nt => "not"
  | .bf => "before"
  | .on => "once"
  | .sf => "sofar"
def U2.str : U2 → Str
  | .an => "and"
  | .or => "or"
  | .th => "then"
  | .sm => "same"
  | .sn => "since"
inductive Say where
  | lamp (n : Str)
  | cst (b : Bool)
  | un (o : U1) (s : Say)
  | bin (o : U2) (s t : Say)
  deriving DecidableEq
def Say.toD : Say → D
  | .lamp n => .tup [.str "lamp", .str n]
  | .cst b => .tup [.str (if b then "yes" else "no")]
  | .un o s => .tup [.str o.str, s.toD]
  | .bin o s t => .tup [.str o.str, s.toD, t.toD]
def Say.dep : Say → Nat
  | .lamp _ => 1
  | .cst _ => 1
  | .un _ s => s.dep + 1
  | .bin _ s t => max s.dep t.dep + 1
/-- the lamps are among these -/
def Say.Over (ns : List Str) : Say → Prop
  | .lamp n => n ∈ ns
  | .cst _ => True
  | .un _ s => s.Over ns
  | .bin _ s t => s.Over ns ∧ t.Over ns
theorem Say.dep_pos (s : Say) : 1 ≤ s.dep := by cases s <;> simp [Say.dep]
theorem Say.nrm_toD : ∀ s : Say, nrm s.toD = s.toD
  | .lamp n => by simp [Say.toD, nrm, nrms]
  | .cst b => by simp [Say.toD, nrm, nrms]
  | .un o s => by simp [Say.toD, nrm, nrms, Say.nrm_toD s]
  | .bin o s t => by simp [Say.toD, nrm, nrms, Say.nrm_toD s, Say.nrm_toD t]
theorem U1.str_inj {o p : U1} (h : o.str = p.str) : o = p := by cases o <;> cases p <;> first | rfl | exact absurd h (by decide)
theorem U2.str_inj {o p : U2} (h : o.str = p.str) : o = p := by cases o <;> cases p <;> first | rfl | exact absurd h (by decide)
theorem U1.ne_lamp (o : U1) : o.str ≠ "lamp" := by cases o <;> decide
theorem U2.ne_lamp (o : U2) : o.str ≠ "lamp" := by cases o <;> decide
theorem U1.ne_yes (o : U1) : o.str ≠ "yes" := by cases o <;> decide
theorem U2.ne_yes (o : U2) : o.str ≠ "yes" := by cases o <;> decide
theorem U1.ne_no (o : U1) : o.str ≠ "no" := by cases o <;> decide
theorem U2.ne_no (o : U2) : o.str ≠ "no" := by cases o <;> decide
theorem Say.toD_inj : ∀ {s t : Say}, s.toD = t.toD → s = t
  | .lamp n, .lamp m, h => by simp [Say.toD] at h; rw [h]
  | .lamp n, .cst b, h => by simp [Say.toD] at h
  | .lamp n, .un o s, h => by simp [Say.toD] at h; exact absurd h.1.symm o.ne_lamp
  | .lamp n, .bin o s t, h => by simp [Say.toD] at h
  | .cst b, .lamp m, h => by simp [Say.toD] at h
  | .cst b, .cst c, h => by simp [Say.toD] at h; cases b <;> cases c <;> first | rfl | exact absurd h (by decide)
  | .cst b, .un o s, h => by simp [Say.toD] at h
  | .cst b, .bin o s t, h => by simp [Say.toD] at h
  | .un o s, .lamp m, h => by simp [Say.toD] at h; exact absurd h.1 o.ne_lamp
  | .un o s, .cst c, h => by simp [Say.toD] at h
  | .un o s, .un p t, h => by
    simp [Say.toD] at h
    rw [U1.str_inj h.1, Say.toD_inj h.2]
  | .un o s, .bin p t u, h => by simp [Say.toD] at h
  | .bin o s u, .lamp m, h => by simp [Say.toD] at h
  | .bin o s u, .cst c, h => by simp [Say.toD] at h
  | .bin o s u, .un p t, h => by simp [Say.toD] at h
  | .bin o s u, .bin p t w, h => by
    simp [Say.toD] at h
    rw [U2.str_inj h.1, Say.toD_inj h.2.1, Say.toD_inj h.2.2]
abbrev okStr (n : Str) : Prop := PyData.strOk n = true
theorem U1.ok (o : U1) : okStr o.str := by cases o <;> exact (by decide +kernel)
theorem U2.ok (o : U2) : okStr o.str := by cases o <;> exact (by decide +kernel)
theorem Say.okN {ns : List Str} (hn : ∀ n ∈ ns, okStr n) : ∀ s : Say, s.Over ns → Lz.okN s.dep s.toD
  | .lamp n, h => okN_tup (n := 0) fun x hx => by
    rcases List.mem_cons.mp hx with rfl | hx
    · exact okN_str (by decide +kernel)
    · rcases List.mem_cons.mp hx with rfl | hx
      · exact okN_str (hn n h)
      · cases hx
  | .cst b, h => okN_tup (n := 0) fun x hx => by
    rcases List.mem_cons.mp hx with rfl | hx
    · cases b <;> exact okN_str (by decide +kernel)
    · cases hx
  | .un o s, h => okN_tup fun x hx => by
    rcases List.mem_cons.mp hx with rfl | hx
    · exact okN_str o.ok
    · rcases List.mem_cons.mp hx with rfl | hx
      · exact Say.okN hn s h
      · cases hx
  | .bin o s t, h => okN_tup fun x hx => by
    rcases List.mem_cons.mp hx with rfl | hx
    · exact okN_str o.ok
    · rcases List.mem_cons.mp hx with rfl | hx
      · exact okN_mono (Say.okN hn s h.1) (Nat.le_max_left _ _)
      · rcases List.mem_cons.mp hx with rfl | hx
        · exact okN_mono (Say.okN hn t h.2) (Nat.le_max_right _ _)
        · cases hx
theorem Say.eqD {ns ms : List Str} (hn : ∀ n ∈ ns, okStr n) (hm : ∀ n ∈ ms, okStr n) {s t : Say} (hs : s.Over ns) (ht : t.Over ms) (ds : s.dep ≤ 64) (dt : t.dep ≤ 64) : Lz.eqD s.toD t.toD = some (decide (s = t)) := by
  obtain ⟨b, h1, h2⟩ := eqD_ok (Say.okN hn s hs) (Say.okN hm t ht) ds dt
  rw [h1, Say.nrm_toD, Say.nrm_toD] at *
  congr 1
  cases b with
  | true => exact (decide_eq_true (Say.toD_inj (h2.mp rfl))).symm
  | false => exact (decide_eq_false fun e => by rw [e] at h2; exact absurd (h2.mpr rfl) (by decide)).symm

def allN : List Str := ["a", "b", "x", "y", "lamp", "far", "yesno", "abcdefgh"]
def rowN (t : Nat) : List Str := allN.drop t ++ allN.take t
def foeN (t f : Nat) : List Str := (rowN t).take (f + 1)
def friN (t f r : Nat) : List Str := ((rowN t).drop (f + 1)).take (r + 1)
/-- names as a law draws them -/
def GNm (foe fri : List Str) : Prop := ∃ t f r, t < 8 ∧ f < 2 ∧ r < 2 ∧ foe = foeN t f ∧ fri = friN t f r
theorem GNm.all {P : List Str → List Str → Prop} (h : ∀ t, t < 8 → ∀ f, f < 2 → ∀ r, r < 2 → P (foeN t f) (friN t f r)) {foe fri : List Str} (g : GNm foe fri) : P foe fri := by
  obtain ⟨t, f, r, ht, hf, hr, rfl, rfl⟩ := g
  exact h t ht f hf r hr
def nmD (l : List Str) : D := .tup (l.map .str)
theorem GNm.ok {foe fri : List Str} (g : GNm foe fri) : ∀ n ∈ foe ++ fri, okStr n := GNm.all (P := fun foe fri => ∀ n ∈ foe ++ fri, okStr n) (by unfold okStr; decide +kernel) g
theorem GNm.len {foe fri : List Str} (g : GNm foe fri) : 1 ≤ foe.length ∧ foe.length ≤ 2 ∧ 1 ≤ fri.length ∧ fri.length ≤ 2 := GNm.all (P := fun foe fri => 1 ≤ foe.length ∧ foe.length ≤ 2 ∧ 1 ≤ fri.length ∧ fri.length ≤ 2) (by decide +kernel) g
theorem GNm.nodup {foe fri : List Str} (g : GNm foe fri) : (foe ++ fri).Nodup := GNm.all (P := fun foe fri => (foe ++ fri).Nodup) (by decide +kernel) g
theorem names_sp (ns : List Int) (hl : ns.length ≤ 63) (m : Nat) : ∃ foe fri, GNm foe fri ∧ F_l_names [(false, .scr ns), (true, .lst [.int m])] = .ok (false, .tup [nmD foe, nmD fri]) [some (false, .scr ns), some (true, .lst [.int (m + 3 : Nat)])] := by
  have h1 := next_sp ns hl m 8 (by decide)
  have h2 := next_sp ns hl (m + 1) 2 (by decide)
  have h3 := next_sp ns hl (m + 1 + 1) 2 (by decide)
  have l1 := mixed_lt ns (m + 1) 8 (by decide)
  have l2 := mixed_lt ns (m + 1 + 1) 2 (by decide)
  have l3 := mixed_lt ns (m + 1 + 1 + 1) 2 (by decide)
  generalize mixed ns (m + 1) 8 = t at *
  generalize mixed ns (m + 1 + 1) 2 = f at *
  generalize mixed ns (m + 1 + 1 + 1) 2 = r at *
  refine ⟨foeN t f, friN t f r, ⟨t, f, r, l1, l2, l3, rfl, rfl⟩, ?_⟩
  have e1 : (1 : Int) + (f : Int) = ((f + 1 : Nat) : Int) := by omega
  have e2 : ((f + 1 : Nat) : Int) + (1 + (r : Int)) = ((f + 1 + (r + 1) : Nat) : Int) := by omega
  have e3 : (f : Int) + 1 + ((r : Int) + 1) = ((f + 1 + (r + 1) : Nat) : Int) := by omega
  have e4 : (1 : Int) + (f : Int) + (1 + (r : Int)) = ((f + 1 + (r + 1) : Nat) : Int) := by omega
  simp at h1 h2 h3
  have row : (List.map D.str allN).drop t ++ (List.map D.str allN).take t = (rowN t).map D.str := by
    unfold rowN
    rw [List.map_append, List.map_drop, List.map_take]
  have eAll : [D.str "a", D.str "b", D.str "x", D.str "y", D.str "lamp", D.str "far", D.str "yesno", D.str "abcdefgh"] = allN.map D.str := rfl
  have al : allN.length = 8 := rfl
  have q1 : 8 - t + min t 8 ≤ 16777216 := by omega
  have e5 : ((f + 1 : Nat) : Int) = 1 + (f : Int) := by omega
  have cf : ∀ xs : List D, cut xs none (some (1 + (f : Int))) = xs.take (f + 1) := fun xs => by rw [← e5]; exact cut_to
  have cr : ∀ xs : List D, cut xs (some (1 + (f : Int))) (some (1 + (f : Int) + (1 + (r : Int)))) = (xs.drop (f + 1)).take (r + 1) := fun xs => by
    rw [e4, ← e5, cut_mid, Nat.add_sub_cancel_left]
  have row2 : (allN.drop t).map D.str ++ (allN.take t).map D.str = (rowN t).map D.str := by rw [← row, List.map_drop, List.map_take]
  simp [F_l_names, b_l_names, h1, h2, h3, cut_from, cut_to, eAll, al, q1, row, row2, cf, cr, nmD, foeN, friN]
  omega
end Lz
namespace Lz
open PySem PySem.Spec PyProof.Rows L2
def U1.past : U1 → Nat
  | .nt => 0
  | _ => 1
def U2.past : U2 → Nat
  | .sn => 1
  | _ => 0
def Say.npast : Say → Nat
  | .lamp _ => 0
  | .cst _ => 0
  | .un o s => o.past + s.npast
  | .bin o s t => o.past + s.npast + t.npast
@[simp] theorem atI_0 {α : Type} {x : α} {l : List α} : atI (x :: l) 0 = some x := atI_lt (k := 0) (by simp)
@[simp] theorem atI_1 {α : Type} {x y : α} {l : List α} : atI (x :: y :: l) 1 = some y := atI_lt (k := 1) (by simp)
@[simp] theorem atI_2 {α : Type} {x y z : α} {l : List α} : atI (x :: y :: z :: l) 2 = some z := atI_lt (k := 2) (by simp)
@[simp] theorem atI_3 {α : Type} {x y z u : α} {l : List α} : atI (x :: y :: z :: u :: l) 3 = some u := atI_lt (k := 3) (by simp)
@[simp] theorem atI_4 {α : Type} {x y z u v : α} {l : List α} : atI (x :: y :: z :: u :: v :: l) 4 = some v := atI_lt (k := 4) (by simp)
@[simp] theorem ixN_10 : ixN 1 0 = some 0 := rfl
theorem saying_sp (ns : List Int) (hl : ns.length ≤ 63) (nm : List Str) (hn : nm ≠ []) (hn4 : nm.length ≤ 4) : ∀ (deep m left fuel : Nat), deep < fuel → ∃ (s : Say) (m' l' : Nat), s.Over nm ∧ s.dep ≤ deep + 1 ∧ s.npast + l' ≤ left ∧
    R_l_saying fuel [(false, .scr ns), (true, .lst [.int m]), (false, nmD nm), (false, .int deep), (true, .lst [.int left])] =
      .ok (false, s.toD) [some (false, .scr ns), some (true, .lst [.int m']), some (false, nmD nm), some (false, .int deep), some (true, .lst [.int l'])] := by
  intro deep
  induction deep with
  | zero =>
    intro m left fuel hf
    obtain ⟨fuel, rfl⟩ : ∃ f, fuel = f + 1 := ⟨fuel - 1, by omega⟩
    have hp : 0 < nm.length := List.length_pos_iff.mpr hn
    have h1 := next_sp ns hl m 13 (by decide)
    have h2 := next_sp ns hl (m + 1) nm.length hp
    have l2 := mixed_lt ns (m + 1 + 1) nm.length hp
    generalize mixed ns (m + 1 + 1) nm.length = k at *
    refine ⟨.lamp nm[k], m + 1 + 1, left, List.getElem_mem _, by simp [Say.dep], by simp [Say.npast], ?_⟩
    have e : atI (nm.map D.str) (k : Int) = some (.str nm[k]) := by rw [atI_lt (by simpa using l2)]; simp
    simp at h1 h2
    simp [R_l_saying, b_l_saying, h1, h2, nmD, e, Say.toD]
  | succ deep ih =>
    intro m left fuel hf
    obtain ⟨fuel, rfl⟩ : ∃ f, fuel = f + 1 := ⟨fuel - 1, by omega⟩
    have h1 := next_sp ns hl m 13 (by decide)
    have l1 := mixed_lt ns (m + 1) 13 (by decide)
    generalize mixed ns (m + 1) 13 = way at *
    simp at h1
    by_cases w3 : way < 3
    · have hp : 0 < nm.length := List.length_pos_iff.mpr hn
      have h2 := next_sp ns hl (m + 1) nm.length hp
      have l2 := mixed_lt ns (m + 1 + 1) nm.length hp
      generalize mixed ns (m + 1 + 1) nm.length = k at *
      refine ⟨.lamp nm[k], m + 1 + 1, left, List.getElem_mem _, by simp [Say.dep], by simp [Say.npast], ?_⟩
      have e : atI (nm.map D.str) (k : Int) = some (.str nm[k]) := by rw [atI_lt (by simpa using l2)]; simp
      simp at h2
      have d1 : ¬ ((deep : Int) + 1 = 0) := by omega
      have w3' : (way : Int) < 3 := by omega
      simp [R_l_saying, b_l_saying, h1, h2, nmD, e, Say.toD, d1, w3']
    have d1 : ¬ ((deep : Int) + 1 = 0) := by omega
    have d2 : (deep : Int) + 1 - 1 = deep := by omega
    have w3' : ¬ (way : Int) < 3 := by omega
    by_cases w4 : way = 3
    · subst w4
      have h2 := next_sp ns hl (m + 1) 2 (by decide)
      have l2 := mixed_lt ns (m + 1 + 1) 2 (by decide)
      generalize mixed ns (m + 1 + 1) 2 = k at *
      simp at h2
      refine ⟨.cst (decide (k = 0)), m + 1 + 1, left, trivial, by simp [Say.dep], by simp [Say.npast], ?_⟩
      have hk : k = 0 ∨ k = 1 := by omega
      rcases hk with rfl | rfl
      · simp at h2
        simp [R_l_saying, b_l_saying, h1, h2, nmD, Say.toD, d1]
      · simp at h2
        simp [R_l_saying, b_l_saying, h1, h2, nmD, Say.toD, d1]
    have w4' : ¬ (way : Int) = 3 := by omega
    by_cases w8 : 8 < way
    · have w8' : (8 : Int) < way := by omega
      by_cases hL : 0 < left
      · have hL' : (0 : Int) < left := by omega
        obtain ⟨s1, m1, k1, o1, e1, p1, r1⟩ := ih (m + 1) (left - 1) fuel (by omega)
        have c1 : ((left - 1 : Nat) : Int) = (left : Int) - 1 := by omega
        rw [c1] at r1
        simp only [nmD] at r1
        simp at r1
        by_cases w12 : way = 12
        · subst w12
          obtain ⟨s2, m2, k2, o2, e2, p2, r2⟩ := ih m1 k1 fuel (by omega)
          simp only [nmD] at r2
          refine ⟨.bin .sn s1 s2, m2, k2, ⟨o1, o2⟩, by simp only [Say.dep]; omega, by simp only [Say.npast, U2.past]; omega, ?_⟩
          simp [R_l_saying, b_l_saying, h1, nmD, Say.toD, d1, d2, hL', hL, r1, r2, U2.str]
        · have w12' : ¬ (way : Int) = 12 := by omega
          have hw : way = 9 ∨ way = 10 ∨ way = 11 := by omega
          rcases hw with rfl | rfl | rfl
          · refine ⟨.un .bf s1, m1, k1, o1, by simp only [Say.dep]; omega, by simp only [Say.npast, U1.past]; omega, ?_⟩
            simp [R_l_saying, b_l_saying, h1, nmD, Say.toD, d1, d2, hL', hL, r1, U1.str]
          · refine ⟨.un .on s1, m1, k1, o1, by simp only [Say.dep]; omega, by simp only [Say.npast, U1.past]; omega, ?_⟩
            simp [R_l_saying, b_l_saying, h1, nmD, Say.toD, d1, d2, hL', hL, r1, U1.str]
          · refine ⟨.un .sf s1, m1, k1, o1, by simp only [Say.dep]; omega, by simp only [Say.npast, U1.past]; omega, ?_⟩
            simp [R_l_saying, b_l_saying, h1, nmD, Say.toD, d1, d2, hL', hL, r1, U1.str]
      · have hL' : ¬ (0 : Int) < left := by omega
        obtain ⟨s1, m1, k1, o1, e1, p1, r1⟩ := ih (m + 1) left fuel (by omega)
        simp only [nmD] at r1
        simp at r1
        refine ⟨.un .nt s1, m1, k1, o1, by simp only [Say.dep]; omega, by simp only [Say.npast, U1.past]; omega, ?_⟩
        have w44 : ¬ (way : Int) = 4 := by omega
        have hL2 : ¬ 0 < left := by omega
        simp [R_l_saying, b_l_saying, h1, nmD, Say.toD, d1, d2, w3', w4', w8', hL2, w3, w4, w8, r1, w44, U1.str]
    · have w8' : ¬ (8 : Int) < way := by omega
      obtain ⟨s1, m1, k1, o1, e1, p1, r1⟩ := ih (m + 1) left fuel (by omega)
      simp only [nmD] at r1
      simp at r1
      by_cases w44 : way = 4
      · subst w44
        refine ⟨.un .nt s1, m1, k1, o1, by simp only [Say.dep]; omega, by simp only [Say.npast, U1.past]; omega, ?_⟩
        simp [R_l_saying, b_l_saying, h1, nmD, Say.toD, d1, d2, r1, U1.str]
      · obtain ⟨s2, m2, k2, o2, e2, p2, r2⟩ := ih m1 k1 fuel (by omega)
        simp only [nmD] at r2
        have hw : way = 5 ∨ way = 6 ∨ way = 7 ∨ way = 8 := by omega
        rcases hw with rfl | rfl | rfl | rfl
        · refine ⟨.bin .an s1 s2, m2, k2, ⟨o1, o2⟩, by simp only [Say.dep]; omega, by simp only [Say.npast, U2.past]; omega, ?_⟩
          simp [R_l_saying, b_l_saying, h1, nmD, Say.toD, d1, d2, r1, r2, U2.str]
        · refine ⟨.bin .or s1 s2, m2, k2, ⟨o1, o2⟩, by simp only [Say.dep]; omega, by simp only [Say.npast, U2.past]; omega, ?_⟩
          simp [R_l_saying, b_l_saying, h1, nmD, Say.toD, d1, d2, r1, r2, U2.str]
        · refine ⟨.bin .th s1 s2, m2, k2, ⟨o1, o2⟩, by simp only [Say.dep]; omega, by simp only [Say.npast, U2.past]; omega, ?_⟩
          simp [R_l_saying, b_l_saying, h1, nmD, Say.toD, d1, d2, r1, r2, U2.str]
        · refine ⟨.bin .sm s1 s2, m2, k2, ⟨o1, o2⟩, by simp only [Say.dep]; omega, by simp only [Say.npast, U2.past]; omega, ?_⟩
          simp [R_l_saying, b_l_saying, h1, nmD, Say.toD, d1, d2, r1, r2, U2.str]
end Lz
namespace Lz
open PySem PySem.Spec PyProof.Rows L2
def Say.cnt : Say → Nat
  | .lamp _ => 1
  | .cst _ => 1
  | .un _ s => s.cnt + 1
  | .bin _ s t => s.cnt + t.cnt + 1
theorem Say.cnt_le : ∀ s : Say, s.cnt < 2 ^ s.dep
  | .lamp _ => by simp [Say.cnt, Say.dep]
  | .cst _ => by simp [Say.cnt, Say.dep]
  | .un _ s => by
    have := Say.cnt_le s
    have h2 := s.dep_pos
    simp only [Say.cnt, Say.dep, Nat.pow_succ]
    have : 1 < 2 ^ s.dep := Nat.one_lt_two_pow (by omega)
    omega
  | .bin _ s t => by
    have h1 := Say.cnt_le s
    have h2 := Say.cnt_le t
    have p := s.dep_pos
    have a1 : 2 ^ s.dep ≤ 2 ^ max s.dep t.dep := Nat.pow_le_pow_right (by decide) (Nat.le_max_left _ _)
    have a2 : 2 ^ t.dep ≤ 2 ^ max s.dep t.dep := Nat.pow_le_pow_right (by decide) (Nat.le_max_right _ _)
    simp only [Say.cnt, Say.dep, Nat.pow_succ]
    omega
def Say.isP : Say → Bool
  | .un .bf _ => true
  | .un .on _ => true
  | .un .sf _ => true
  | .bin .sn _ _ => true
  | _ => false
def addP (s : Say) (m : List Say) : List Say := if s.isP = true ∧ s ∉ m then m ++ [s] else m
def gath : Say → List Say → List Say
  | .lamp n, m => addP (.lamp n) m
  | .cst b, m => addP (.cst b) m
  | .un o s, m => gath s (addP (.un o s) m)
  | .bin o s t, m => gath t (gath s (addP (.bin o s t) m))
def says (l : List Say) : D := .lst (l.map Say.toD)
theorem Say.inD {ns : List Str} (hn : ∀ n ∈ ns, okStr n) {s : Say} {l : List Say} (hs : s.Over ns) (hl : ∀ t ∈ l, t.Over ns) (ds : s.dep ≤ 60) (dl : ∀ t ∈ l, t.dep ≤ 60) : Lz.inD s.toD (.lst (l.map Say.toD)) = some (decide (s ∈ l)) := by
  obtain ⟨b, h1, h2⟩ := inL_ok (n := 60) (m := 60) (d := s.toD) (ys := l.map Say.toD) (okN_mono (Say.okN hn s hs) ds) (fun y hy => by
    obtain ⟨t, ht, rfl⟩ := List.mem_map.mp hy
    exact okN_mono (Say.okN hn t (hl t ht)) (dl t ht)) (by decide) (by decide)
  rw [h1]
  congr 1
  have h3 : b = true ↔ s ∈ l := by
    rw [h2]
    constructor
    · rintro ⟨y, hy, e⟩
      obtain ⟨t, ht, rfl⟩ := List.mem_map.mp hy
      rw [Say.nrm_toD, Say.nrm_toD] at e
      rw [← Say.toD_inj e]
      exact ht
    · intro hs
      exact ⟨s.toD, List.mem_map_of_mem hs, rfl⟩
  cases b with
  | true => exact (decide_eq_true (h3.mp rfl)).symm
  | false => exact (decide_eq_false fun e => by have := h3.mpr e; cases this).symm
theorem addP_mem {s : Say} {m : List Say} {t : Say} (h : t ∈ addP s m) : t ∈ m ∨ t = s := by
  unfold addP at h
  split at h
  · rcases List.mem_append.mp h with h | h
    · exact .inl h
    · exact .inr (List.mem_singleton.mp h)
  · exact .inl h
theorem addP_len (s : Say) (m : List Say) : (addP s m).length ≤ m.length + 1 := by
  unfold addP
  split
  · simp
  · omega
theorem gath_len : ∀ (s : Say) (m : List Say), (gath s m).length ≤ m.length + s.cnt
  | .lamp n, m => by unfold gath Say.cnt; exact addP_len _ _
  | .cst n, m => by unfold gath Say.cnt; exact addP_len _ _
  | .un o s, m => by
    unfold gath Say.cnt
    have h1 := gath_len s (addP (.un o s) m)
    have h2 := addP_len (.un o s) m
    omega
  | .bin o s t, m => by
    unfold gath Say.cnt
    have h1 := gath_len s (addP (.bin o s t) m)
    have h2 := addP_len (.bin o s t) m
    have h3 := gath_len t (gath s (addP (.bin o s t) m))
    omega
/-- all of these are over the names and not too deep -/
def SaysOk (ns : List Str) (k : Nat) (l : List Say) : Prop := ∀ t ∈ l, t.Over ns ∧ t.dep ≤ k
theorem SaysOk.addP {ns : List Str} {k : Nat} {l : List Say} {s : Say} (h : SaysOk ns k l) (hs : s.Over ns) (hd : s.dep ≤ k) : SaysOk ns k (addP s l) := fun t ht => by
  rcases addP_mem ht with ht | rfl
  · exact h t ht
  · exact ⟨hs, hd⟩
theorem SaysOk.gath {ns : List Str} {k : Nat} : ∀ {s : Say} {l : List Say}, SaysOk ns k l → s.Over ns → s.dep ≤ k → SaysOk ns k (gath s l)
  | .lamp n, l, h, hs, hd => h.addP hs hd
  | .cst n, l, h, hs, hd => h.addP hs hd
  | .un o s, l, h, hs, hd => SaysOk.gath (s := s) (h.addP hs hd) hs (by simp only [Say.dep] at hd; omega)
  | .bin o s t, l, h, hs, hd => SaysOk.gath (s := t) (SaysOk.gath (s := s) (h.addP hs hd) hs.1 (by simp only [Say.dep] at hd; omega)) hs.2 (by simp only [Say.dep] at hd; omega)
def Say.head : Say → Str
  | .lamp _ => "lamp"
  | .cst b => if b then "yes" else "no"
  | .un o _ => o.str
  | .bin o _ _ => o.str
def Say.parts : Say → List Say
  | .lamp _ => []
  | .cst _ => []
  | .un _ s => [s]
  | .bin _ s t => [s, t]
def Say.tail : Say → List D
  | .lamp n => [.str n]
  | s => s.parts.map Say.toD
theorem Say.toD_eq (s : Say) : s.toD = .tup (.str s.head :: s.tail) := by cases s <;> rfl
theorem Say.head_lamp (s : Say) : decide (s.head = "lamp") = (match s with | .lamp _ => true | _ => false) := by
  cases s with
  | lamp n => rfl
  | cst b => cases b <;> rfl
  | un o s => exact decide_eq_false o.ne_lamp
  | bin o s t => exact decide_eq_false o.ne_lamp
theorem Say.head_past (s : Say) : Lz.inD (.str s.head) (.tup [.str "before", .str "once", .str "sofar", .str "since"]) = some s.isP := by
  cases s with
  | lamp n => rfl
  | cst b => cases b <;> rfl
  | un o s => cases o <;> rfl
  | bin o s t => cases o <;> rfl
theorem parts_sp (s : Say) : F_parts_of [(false, s.toD)] = .ok (false, .tup (s.parts.map Say.toD)) [some (false, s.toD)] := by
  rw [Say.toD_eq]
  have h := s.head_lamp
  cases s with
  | lamp n => simp [F_parts_of, b_parts_of, Say.head, Say.parts]
  | cst b =>
    have e : ¬ (Say.cst b).head = "lamp" := by simpa using h
    simp [F_parts_of, b_parts_of, e, Say.parts, Say.tail]
  | un o s =>
    have e : ¬ (Say.un o s).head = "lamp" := by simpa using h
    simp [F_parts_of, b_parts_of, e, Say.parts, Say.tail]
  | bin o s t =>
    have e : ¬ (Say.bin o s t).head = "lamp" := by simpa using h
    simp [F_parts_of, b_parts_of, e, Say.parts, Say.tail]
theorem gathered_sp {ns : List Str} (hn : ∀ n ∈ ns, okStr n) : ∀ (s : Say) (fuel : Nat) (m : List Say), s.dep ≤ fuel → s.Over ns → s.dep ≤ 60 → SaysOk ns 60 m → m.length + s.cnt < 16777216 →
    R_gathered fuel [(false, s.toD), (true, says m)] = .ok (false, .non) [some (false, s.toD), some (true, says (gath s m))] := by
  -- the first half, and the walk over the parts
  have key : ∀ (s : Say) (fuel : Nat) (m m2 : List Say) (x : Option T), s.Over ns → s.dep ≤ 60 → SaysOk ns 60 m → m.length + s.cnt < 16777216 →
      forL (gN 2) (xSeq (xExpr (sCallF (R_gathered fuel) (sCons (sVar 2) (sCons (sVar 1) sNil)))) xNx) (s.parts.map Say.toD) [some (false, s.toD), some (true, says (addP s m)), none] = .ok .nx [some (false, s.toD), some (true, says m2), x] →
      R_gathered (fuel + 1) [(false, s.toD), (true, says m)] = .ok (false, .non) [some (false, s.toD), some (true, says m2)] := by
    intro s fuel m m2 x ho hd hm hl hloop
    have hp := parts_sp s
    have hh := Say.head_past s
    have hi := Say.inD hn (s := s) (l := m) ho (fun t ht => (hm t ht).1) hd (fun t ht => (hm t ht).2)
    have e0 : atI (Say.toD s |> fun _ => D.str s.head :: s.tail) 0 = some (.str s.head) := by simp
    have hc : 1 ≤ s.cnt := by cases s <;> simp [Say.cnt]
    have hix : opIx s.toD (.int 0) = some (false, .str s.head) := by rw [Say.toD_eq]; simp
    have hlen : m.length < 16777216 := by omega
    simp only [says] at hloop ⊢
    by_cases c1 : s.isP = true
    · by_cases c2 : s ∈ m
      · have ea : addP s m = m := by unfold addP; rw [if_neg (by simp [c2])]
        rw [ea] at hloop
        simp [R_gathered, b_gathered, hix, hh, c1, hi, c2, hp, hloop]
      · have ea : addP s m = m ++ [s] := by unfold addP; rw [if_pos ⟨c1, c2⟩]
        rw [ea] at hloop
        simp at hloop
        simp [R_gathered, b_gathered, hix, hh, c1, hi, c2, hp, hloop, hlen]
    · have ea : addP s m = m := by unfold addP; rw [if_neg (by simp [c1])]
      have c1' : s.isP = false := by simpa using c1
      rw [ea] at hloop
      simp [R_gathered, b_gathered, hix, hh, c1', hp, hloop]
  intro s
  induction s with
  | lamp n =>
    intro fuel m hf ho hd hm hl
    obtain ⟨fuel, rfl⟩ : ∃ f, fuel = f + 1 := ⟨fuel - 1, by simp only [Say.dep] at hf; omega⟩
    exact key _ fuel m _ none ho hd hm hl (by simp [Say.parts, gath])
  | cst n =>
    intro fuel m hf ho hd hm hl
    obtain ⟨fuel, rfl⟩ : ∃ f, fuel = f + 1 := ⟨fuel - 1, by simp only [Say.dep] at hf; omega⟩
    exact key _ fuel m _ none ho hd hm hl (by simp [Say.parts, gath])
  | un o s ih =>
    intro fuel m hf ho hd hm hl
    obtain ⟨fuel, rfl⟩ : ∃ f, fuel = f + 1 := ⟨fuel - 1, by simp only [Say.dep] at hf; omega⟩
    have hm1 := hm.addP (s := .un o s) ho hd
    have hl1 := addP_len (.un o s) m
    simp only [Say.dep] at hf hd
    simp only [Say.cnt] at hl
    have h1 := ih fuel (addP (.un o s) m) (by omega) ho (by omega) hm1 (by omega)
    refine key _ fuel m _ (some (false, s.toD)) ho (by simpa [Say.dep] using hd) hm (by simpa [Say.cnt] using hl) ?_
    simp [Say.parts, gath, h1]
  | bin o s t ih1 ih2 =>
    intro fuel m hf ho hd hm hl
    obtain ⟨fuel, rfl⟩ : ∃ f, fuel = f + 1 := ⟨fuel - 1, by simp only [Say.dep] at hf; omega⟩
    have hm1 := hm.addP (s := .bin o s t) ho hd
    have hl1 := addP_len (.bin o s t) m
    simp only [Say.dep] at hf hd
    simp only [Say.cnt] at hl
    have h1 := ih1 fuel (addP (.bin o s t) m) (by omega) ho.1 (by omega) hm1 (by omega)
    have hl2 := gath_len s (addP (.bin o s t) m)
    have h2 := ih2 fuel (gath s (addP (.bin o s t) m)) (by omega) ho.2 (by omega) (hm1.gath ho.1 (by omega)) (by omega)
    refine key _ fuel m _ (some (false, t.toD)) ho (by simpa [Say.dep] using hd) hm (by simpa [Say.cnt] using hl) ?_
    simp [Say.parts, gath, h1, h2]
end Lz
namespace Lz
open PySem PySem.Spec PyProof.Rows L2
theorem compL_map {i : Nat} {f : Env → R XV} {ρ : Env} {e : D → D} (h0 : gt ρ i = none) : ∀ {ds : List D}, (∀ d ∈ ds, ∃ o, f (pt ρ i (some (false, d))) = .ok (.v o (e d)) (pt ρ i (some (false, d)))) → compL [i] (gN i) cT f ds ρ = .ok (ds.map e) ρ
  | [], _ => rfl
  | d :: ds, h => by
    obtain ⟨o, h1⟩ := h d List.mem_cons_self
    have ih := compL_map (ds := ds) h0 fun x hx => h x (List.mem_cons_of_mem _ hx)
    have e2 : pt (pt ρ i (some (false, d))) i none = ρ := by rw [pt_pt, pt_none ρ i h0]
    simp [h1, e2, ih]
@[simp] theorem isi_tup_t {xs : List D} : isiD "tuple" (.tup xs) = some (false, .bl true) := rfl
@[simp] theorem isi_tup_l {xs : List D} : isiD "tuple" (.lst xs) = some (false, .bl false) := rfl
@[simp] theorem isi_tup_s {z : Str} : isiD "tuple" (.str z) = some (false, .bl false) := rfl
@[simp] theorem isi_tup_i {i : Int} : isiD "tuple" (.int i) = some (false, .bl false) := rfl
@[simp] theorem isi_tup_b {b : Bool} : isiD "tuple" (.bl b) = some (false, .bl false) := rfl
@[simp] theorem isi_tup_n : isiD "tuple" .non = some (false, .bl false) := rfl
@[simp] theorem isi_str_t {xs : List D} : isiD "str" (.tup xs) = some (false, .bl false) := rfl
@[simp] theorem isi_str_l {xs : List D} : isiD "str" (.lst xs) = some (false, .bl false) := rfl
@[simp] theorem isi_str_s {z : Str} : isiD "str" (.str z) = some (false, .bl true) := rfl
@[simp] theorem isi_str_i {i : Int} : isiD "str" (.int i) = some (false, .bl false) := rfl
@[simp] theorem isi_str_b {b : Bool} : isiD "str" (.bl b) = some (false, .bl false) := rfl
@[simp] theorem isi_str_n : isiD "str" .non = some (false, .bl false) := rfl
theorem inD_strs {z : Str} {zs : List Str} : inD (.str z) (.tup (zs.map .str)) = some (decide (z ∈ zs)) := by
  have h1 : (zs.map D.str).all flatD = true := by rw [List.all_map]; exact List.all_eq_true.mpr fun _ _ => rfl
  show (if flatD (.str z) = true ∧ (zs.map D.str).all flatD = true then some ((zs.map D.str).any fun y => eqF y (.str z)) else none) = _
  rw [if_pos ⟨rfl, h1⟩]
  congr 1
  rw [List.any_map]
  induction zs with
  | nil => rfl
  | cons a zs ih =>
    rw [List.any_cons, ih (by rw [List.all_map]; exact List.all_eq_true.mpr fun _ _ => rfl)]
    show ((a == z) || _) = _
    by_cases e : a = z
    · subst e; simp
    · have : (a == z) = false := beq_eq_false_iff_ne.mpr e
      rw [this, Bool.false_or]
      simp [Ne.symm e, show ¬ z = a from fun q => e q.symm]
def sgl : List Str := ["not", "before", "once", "sofar"]
def dbl : List Str := ["and", "or", "then", "same", "since"]
theorem inD_sgl {z : Str} : inD (.str z) (.tup [.str "not", .str "before", .str "once", .str "sofar"]) = some (decide (z ∈ sgl)) := inD_strs (zs := sgl)
theorem inD_dbl {z : Str} : inD (.str z) (.tup [.str "and", .str "or", .str "then", .str "same", .str "since"]) = some (decide (z ∈ dbl)) := inD_strs (zs := dbl)
-- data of which it may be asked whether they are a saying
mutual
def plD : D → Bool
  | .non => true
  | .bl _ => true
  | .int _ => true
  | .str _ => true
  | .tup xs => plDs xs
  | .lst xs => plDs xs
  | _ => false
def plDs : List D → Bool
  | [] => true
  | x :: xs => plD x && plDs xs
end
theorem plDs_all : ∀ {xs : List D}, plDs xs = true → ∀ x ∈ xs, plD x = true
  | [], _, x, h => by cases h
  | y :: ys, h, x, hx => by
    rw [plDs, Bool.and_eq_true] at h
    rcases List.mem_cons.mp hx with rfl | hx
    · exact h.1
    · exact plDs_all h.2 x hx
theorem plDs_of : ∀ {xs : List D}, (∀ x ∈ xs, plD x = true) → plDs xs = true
  | [], _ => by rw [plDs]
  | y :: ys, h => by rw [plDs, h y List.mem_cons_self, Bool.true_and]; exact plDs_of fun x hx => h x (List.mem_cons_of_mem _ hx)
def lampB (nm : List Str) : List D → Bool
  | [.str n] => decide (n ∈ nm)
  | _ => false
def isSay (nm : List Str) : Nat → D → Bool
  | 0, _ => false
  | m + 1, .tup (.str h :: r) => if h = "lamp" then lampB nm r else if h = "yes" ∨ h = "no" then decide (r.length = 0) else if h ∈ sgl then decide (r.length = 1) && r.all (isSay nm m) else if h ∈ dbl then decide (r.length = 2) && r.all (isSay nm m) else false
  | _ + 1, _ => false
theorem blsD_map : ∀ (l : List D) (p : D → Bool), blsD (l.map fun d => D.bl (p d)) = some (l.map p)
  | [], _ => rfl
  | d :: l, p => by
    show (blsD (l.map fun d => D.bl (p d))).map (p d :: ·) = _
    rw [blsD_map l p]
    rfl
theorem is_saying_sp (nm : List Str) (hnm : nm.length ≤ 1000) : ∀ (most fuel : Nat) (d : D), most < fuel → plD d = true →
    R_is_saying fuel [(false, nmD nm), (false, d), (false, .int most)] = .ok (false, .bl (isSay nm most d)) [some (false, nmD nm), some (false, d), some (false, .int most)] := by
  intro most
  induction most with
  | zero =>
    intro fuel d hf hd
    obtain ⟨fuel, rfl⟩ : ∃ f, fuel = f + 1 := ⟨fuel - 1, by omega⟩
    simp [R_is_saying, b_is_saying, isSay]
  | succ m ih =>
    intro fuel d hf hd
    obtain ⟨fuel, rfl⟩ : ∃ f, fuel = f + 1 := ⟨fuel - 1, by omega⟩
    have m1 : ¬ ((m : Int) + 1 = 0) := by omega
    have m2 : (m : Int) + 1 - 1 = m := by omega
    cases d with
    | scr _ => simp [plD] at hd
    | dct _ => simp [plD] at hd
    | obj _ _ => simp [plD] at hd
    | ob _ _ => simp [plD] at hd
    | dk _ => simp [plD] at hd
    | dkl _ _ => simp [plD] at hd
    | lol _ => simp [plD] at hd
    | pin _ => simp [plD] at hd
    | fn _ => simp [plD] at hd
    | xc _ => simp [plD] at hd
    | non => simp [R_is_saying, b_is_saying, isSay, m1]
    | bl b => simp [R_is_saying, b_is_saying, isSay, m1]
    | int b => simp [R_is_saying, b_is_saying, isSay, m1]
    | str b => simp [R_is_saying, b_is_saying, isSay, m1]
    | lst b => simp [R_is_saying, b_is_saying, isSay, m1]
    | tup xs =>
      cases xs with
      | nil => simp [R_is_saying, b_is_saying, isSay, m1]
      | cons x r =>
        have hp := plDs_all (by rw [plD] at hd; exact hd : plDs (x :: r) = true)
        have l1 : ¬ ((r.length : Int) + 1 = 0) := by omega
        cases x with
        | scr _ => have := hp _ List.mem_cons_self; simp [plD] at this
        | dct _ => have := hp _ List.mem_cons_self; simp [plD] at this
        | obj _ _ => have := hp _ List.mem_cons_self; simp [plD] at this
        | ob _ _ => have := hp _ List.mem_cons_self; simp [plD] at this
        | dk _ => have := hp _ List.mem_cons_self; simp [plD] at this
        | dkl _ _ => have := hp _ List.mem_cons_self; simp [plD] at this
        | lol _ => have := hp _ List.mem_cons_self; simp [plD] at this
        | pin _ => have := hp _ List.mem_cons_self; simp [plD] at this
        | fn _ => have := hp _ List.mem_cons_self; simp [plD] at this
        | xc _ => have := hp _ List.mem_cons_self; simp [plD] at this
        | non => simp [R_is_saying, b_is_saying, isSay, m1, l1]
        | bl b => simp [R_is_saying, b_is_saying, isSay, m1, l1]
        | int b => simp [R_is_saying, b_is_saying, isSay, m1, l1]
        | lst b => simp [R_is_saying, b_is_saying, isSay, m1, l1]
        | tup b => simp [R_is_saying, b_is_saying, isSay, m1, l1]
        | str h =>
          by_cases c1 : h = "lamp"
          · subst c1
            cases r with
            | nil => simp [R_is_saying, b_is_saying, isSay, m1, lampB]
            | cons y r2 =>
              have hy := hp y (by simp)
              cases r2 with
              | nil =>
                have l2 : ¬ ((1 : Int) + 1 = 0) := by omega
                cases y with
                | scr _ => simp [plD] at hy
                | dct _ => simp [plD] at hy
                | obj _ _ => simp [plD] at hy
                | ob _ _ => simp [plD] at hy
                | dk _ => simp [plD] at hy
                | dkl _ _ => simp [plD] at hy
                | lol _ => simp [plD] at hy
                | pin _ => simp [plD] at hy
                | fn _ => simp [plD] at hy
                | xc _ => simp [plD] at hy
                | str n => simp [R_is_saying, b_is_saying, isSay, m1, lampB, nmD, inD_strs]
                | _ => simp [R_is_saying, b_is_saying, isSay, m1, lampB]
              | cons z r3 =>
                have l3 : ¬ ((r3.length : Int) + 1 + 1 + 1 = 2) := by omega
                have l4 : ¬ ((r3.length : Int) + 1 + 1 + 1 = 0) := by omega
                simp [R_is_saying, b_is_saying, isSay, m1, lampB, l3, l4]
          · by_cases c2 : h = "yes" ∨ h = "no"
            · have e0 : ((r.length : Int) + 1 = 1) ↔ r.length = 0 := by omega
              rcases c2 with rfl | rfl
              · simp [R_is_saying, b_is_saying, isSay, m1, l1, c1, e0]
              · have ny : ¬ (("no" : Str) = "yes") := by decide
                simp [R_is_saying, b_is_saying, isSay, m1, l1, c1, e0, ny]
            · have c2a : ¬ h = "yes" := fun e => c2 (.inl e)
              have c2b : ¬ h = "no" := fun e => c2 (.inr e)
              have hcomp : compL [3] (gN 3) cT (sCallF (R_is_saying fuel) (sCons (sVar 0) (sCons (sVar 3) (sCons (sBin opSub (sVar 2) (sC (.int 1))) sNil)))) r [some (false, .tup (nm.map D.str)), some (false, .tup (.str h :: r)), some (false, .int ((m : Int) + 1)), none] =
                  .ok (r.map fun d => D.bl (isSay nm m d)) [some (false, .tup (nm.map D.str)), some (false, .tup (.str h :: r)), some (false, .int ((m : Int) + 1)), none] := by
                refine compL_map (e := fun d => D.bl (isSay nm m d)) rfl fun d hd' => ⟨false, ?_⟩
                have := ih fuel d (by omega) (hp d (List.mem_cons_of_mem _ hd'))
                simp only [nmD] at this
                simp [this, m2]
              have hb := blsD_map r (isSay nm m)
              by_cases c3 : h ∈ dbl
              · have c4 : h ∉ sgl := by
                  intro c4
                  simp only [sgl, dbl, List.mem_cons, List.not_mem_nil, or_false] at c3 c4
                  rcases c3 with rfl | rfl | rfl | rfl | rfl <;> exact absurd c4 (by decide)
                by_cases c5 : r.length = 2
                · have e1 : ((r.length : Int) + 1 = 2 + 1) := by omega
                  simp [R_is_saying, b_is_saying, isSay, m1, l1, c1, c2a, c2b, inD_sgl, inD_dbl, c3, c4, nmD, hcomp, hb, c5, e1]
                · have e1 : ¬ ((r.length : Int) + 1 = 2 + 1) := by omega
                  have e2 : ¬ ((r.length : Int) + 1 = 3) := by omega
                  simp [R_is_saying, b_is_saying, isSay, m1, l1, c1, c2a, c2b, inD_sgl, inD_dbl, c3, c4, nmD, c5, e1, e2]
              · by_cases c4 : h ∈ sgl
                · by_cases c5 : r.length = 1
                  · have e1 : ((r.length : Int) + 1 = 2 + 0) := by omega
                    simp [R_is_saying, b_is_saying, isSay, m1, l1, c1, c2a, c2b, inD_sgl, inD_dbl, c3, c4, nmD, hcomp, hb, c5, e1]
                  · have e1 : ¬ ((r.length : Int) + 1 = 2) := by omega
                    simp [R_is_saying, b_is_saying, isSay, m1, l1, c1, c2a, c2b, inD_sgl, inD_dbl, c3, c4, nmD, c5, e1]
                · simp [R_is_saying, b_is_saying, isSay, m1, l1, c1, c2a, c2b, inD_sgl, inD_dbl, c3, c4, nmD]
theorem Say.plD : ∀ s : Say, Lz.plD s.toD = true
  | .lamp n => by simp [Say.toD, Lz.plD, plDs]
  | .cst n => by simp [Say.toD, Lz.plD, plDs]
  | .un o s => by simp [Say.toD, Lz.plD, plDs, Say.plD s]
  | .bin o s t => by simp [Say.toD, Lz.plD, plDs, Say.plD s, Say.plD t]
theorem U1.sgl (o : U1) : o.str ∈ Lz.sgl := by cases o <;> decide
theorem U2.dbl (o : U2) : o.str ∈ Lz.dbl := by cases o <;> decide
theorem U2.nsgl (o : U2) : o.str ∉ Lz.sgl := by cases o <;> decide
/-- a saying is one if it is not too deep -/
theorem isSay_say (nm : List Str) : ∀ (s : Say) (m : Nat), s.Over nm → isSay nm m s.toD = decide (s.dep ≤ m)
  | .lamp n, 0, h => by simp [isSay, Say.dep]
  | .cst b, 0, h => by simp [isSay, Say.dep]
  | .un o s, 0, h => by simp [isSay, Say.dep]
  | .bin o s t, 0, h => by simp [isSay, Say.dep]
  | .lamp n, m + 1, h => by
    have h' : n ∈ nm := h
    simp [Say.toD, isSay, lampB, Say.dep, h']
  | .cst b, m + 1, h => by
    have n1 : ¬ ((if b = true then ("yes" : Str) else "no") = "lamp") := by cases b <;> decide
    have n2 : (if b = true then ("yes" : Str) else "no") = "yes" ∨ (if b = true then ("yes" : Str) else "no") = "no" := by cases b <;> first | exact .inl rfl | exact .inr rfl
    simp only [Say.toD, isSay, if_neg n1, if_pos n2, Say.dep]
    simp
  | .un o s, m + 1, h => by
    have ih := isSay_say nm s m h
    have n2 : ¬ (o.str = "yes" ∨ o.str = "no") := fun q => q.elim o.ne_yes o.ne_no
    simp only [Say.toD, isSay, if_neg o.ne_lamp, if_neg n2, if_pos o.sgl, Say.dep, List.all_cons, List.all_nil, ih]
    simp
  | .bin o s t, m + 1, h => by
    have ih := isSay_say nm s m h.1
    have ih2 := isSay_say nm t m h.2
    have n2 : ¬ (o.str = "yes" ∨ o.str = "no") := fun q => q.elim o.ne_yes o.ne_no
    simp only [Say.toD, isSay, if_neg o.ne_lamp, if_neg n2, if_neg o.nsgl, if_pos o.dbl, Say.dep, List.all_cons, List.all_nil, ih, ih2]
    simp [Nat.max_le]
end Lz
namespace Lz
open PySem PySem.Spec PyProof.Rows L2
theorem fdiv_nat (a b : Nat) : ((a : Int)).fdiv (b : Int) = ((a / b : Nat) : Int) := by
  rw [Int.fdiv_eq_ediv_of_nonneg _ (Int.natCast_nonneg b)]
  exact (Int.natCast_ediv a b).symm
/-- data that may be compared, and asked for -/
def Fine (n : Nat) (d : D) : Prop := okN n d ∧ plD d = true
theorem Fine.mono {n m : Nat} {d : D} (h : Fine n d) (e : n ≤ m) : Fine m d := ⟨okN_mono h.1 e, h.2⟩
end Lz
namespace Lz
open PySem PySem.Spec PyProof.Rows L2
@[simp] theorem isi_int_i {i : Int} : isiD "int" (.int i) = some (false, .bl true) := rfl
@[simp] theorem isi_int_b {b : Bool} : isiD "int" (.bl b) = some (false, .bl true) := rfl
@[simp] theorem isi_int_n : isiD "int" .non = some (false, .bl false) := rfl
@[simp] theorem isi_int_s {z : Str} : isiD "int" (.str z) = some (false, .bl false) := rfl
@[simp] theorem isi_int_t {xs : List D} : isiD "int" (.tup xs) = some (false, .bl false) := rfl
@[simp] theorem isi_int_l {xs : List D} : isiD "int" (.lst xs) = some (false, .bl false) := rfl
@[simp] theorem isi_bl_i {i : Int} : isiD "bool" (.int i) = some (false, .bl false) := rfl
@[simp] theorem isi_bl_b {b : Bool} : isiD "bool" (.bl b) = some (false, .bl true) := rfl
@[simp] theorem isi_bl_n : isiD "bool" .non = some (false, .bl false) := rfl
@[simp] theorem isi_bl_s {z : Str} : isiD "bool" (.str z) = some (false, .bl false) := rfl
@[simp] theorem isi_bl_t {xs : List D} : isiD "bool" (.tup xs) = some (false, .bl false) := rfl
@[simp] theorem isi_bl_l {xs : List D} : isiD "bool" (.lst xs) = some (false, .bl false) := rfl
@[simp] theorem isi_lst_l {xs : List D} : isiD "list" (.lst xs) = some (false, .bl true) := rfl
@[simp] theorem isi_lst_t {xs : List D} : isiD "list" (.tup xs) = some (false, .bl false) := rfl
@[simp] theorem isi_lst_n : isiD "list" .non = some (false, .bl false) := rfl
@[simp] theorem isi_lst_s {z : Str} : isiD "list" (.str z) = some (false, .bl false) := rfl
@[simp] theorem isi_lst_i {z : Int} : isiD "list" (.int z) = some (false, .bl false) := rfl
@[simp] theorem isi_lst_b {z : Bool} : isiD "list" (.bl z) = some (false, .bl false) := rfl
def wordsL : List Str := ["yes", "no", "not", "and", "or", "then", "same", "before", "once", "sofar", "since", "foe", "friend", "promise", "must", "wish"]
def letters : Str := "abcdefghijklmnopqrstuvwxyz"
def letB (c : Nat) : Bool := decide (c ∈ letters.cps.toList)
def isNameS (z : Str) : Bool := decide (1 ≤ z.length) && (decide (z.length ≤ 8) && (!(decide (z ∈ wordsL)) && (z.cps.toList.map letB).all id))
def isNameD : D → Bool
  | .str z => isNameS z
  | _ => false
def shortD : D → Prop
  | .str z => z.length ≤ 16777216
  | _ => True
theorem blsD_mapB : ∀ (l : List Bool), blsD (l.map D.bl) = some l
  | [] => rfl
  | d :: l => by
    show (blsD (l.map D.bl)).map (d :: ·) = _
    rw [blsD_mapB l]
    rfl
theorem is_name_sp (d : D) (hd : plD d = true) (hs : shortD d) : F_is_name [(false, d)] = .ok (false, .bl (isNameD d)) [some (false, d)] := by
  cases d with
  | scr _ => simp [plD] at hd
  | dct _ => simp [plD] at hd
  | dk _ => simp [plD] at hd
  | dkl _ _ => simp [plD] at hd
  | lol _ => simp [plD] at hd
  | pin _ => simp [plD] at hd
  | fn _ => simp [plD] at hd
  | xc _ => simp [plD] at hd
  | obj _ _ => simp [plD] at hd
  | ob _ _ => simp [plD] at hd
  | str z =>
    have hs' : z.length ≤ 16777216 := hs
    by_cases h1 : 1 ≤ z.length
    · have h1' : (1 : Int) ≤ (z.length : Int) := by omega
      by_cases h8 : z.length ≤ 8
      · have h8' : (z.length : Int) ≤ 8 := by omega
        have hw : inD (.str z) (.tup [.str "yes", .str "no", .str "not", .str "and", .str "or", .str "then", .str "same", .str "before", .str "once", .str "sofar", .str "since", .str "foe", .str "friend", .str "promise", .str "must", .str "wish"]) = some (decide (z ∈ wordsL)) := inD_strs (zs := wordsL)
        by_cases hz : z ∈ wordsL
        · simp [F_is_name, b_is_name, hs', h1', h8', hw, hz, isNameD, isNameS]
        · have hit : itemsD (.str z) = some (z.cps.toList.map fun c => .str ⟨#[c]⟩) := if_pos hs'
          have hcomp : compL [1] (gN 1) cT (sBin opIn (sVar 1) (sC (.str "abcdefghijklmnopqrstuvwxyz"))) (z.cps.toList.map fun c => D.str ⟨#[c]⟩) [some (false, .str z), none] =
              .ok ((z.cps.toList.map fun c => D.str ⟨#[c]⟩).map fun d => D.bl (match d with | .str s => letB (s.cps.getD 0 0) | _ => false)) [some (false, .str z), none] := by
            refine compL_map rfl fun d hd' => ⟨false, ?_⟩
            obtain ⟨c, _, rfl⟩ := List.mem_map.mp hd'
            have e : inD (.str ⟨#[c]⟩) (.str "abcdefghijklmnopqrstuvwxyz") = some (letB c) := rfl
            simp [e]
          rw [List.map_map] at hcomp
          have hb := blsD_mapB (z.cps.toList.map letB)
          rw [List.map_map] at hb
          have e2 : (z.cps.toList.map ((fun d => D.bl (match d with | .str s => letB (s.cps.getD 0 0) | _ => false)) ∘ fun c => D.str ⟨#[c]⟩)) = z.cps.toList.map (D.bl ∘ letB) := rfl
          rw [e2] at hcomp
          simp [F_is_name, b_is_name, hs', h1', h8', hw, hz, isNameD, isNameS, hit, hcomp, hb, h1, h8]
      · have h8' : ¬ (z.length : Int) ≤ 8 := by omega
        simp [F_is_name, b_is_name, hs', h1', h8', isNameD, isNameS, h1, h8]
    · have h1' : ¬ (1 : Int) ≤ (z.length : Int) := by omega
      simp [F_is_name, b_is_name, hs', h1', isNameD, isNameS, h1]
  | _ => simp [F_is_name, b_is_name, isNameD]
def areNm : D → Bool
  | .tup xs => decide (1 ≤ xs.length) && (decide (xs.length ≤ 2) && xs.all isNameD)
  | _ => false
theorem are_names_sp (d : D) (hd : plD d = true) (hs : ∀ xs, d = .tup xs → ∀ x ∈ xs, shortD x) : F_are_names [(false, d)] = .ok (false, .bl (areNm d)) [some (false, d)] := by
  cases d with
  | scr _ => simp [plD] at hd
  | dct _ => simp [plD] at hd
  | dk _ => simp [plD] at hd
  | dkl _ _ => simp [plD] at hd
  | lol _ => simp [plD] at hd
  | pin _ => simp [plD] at hd
  | fn _ => simp [plD] at hd
  | xc _ => simp [plD] at hd
  | obj _ _ => simp [plD] at hd
  | ob _ _ => simp [plD] at hd
  | tup xs =>
    have hp := plDs_all (by rw [plD] at hd; exact hd : plDs xs = true)
    have hcomp : compL [1] (gN 1) cT (sCallF F_is_name (sCons (sVar 1) sNil)) xs [some (false, .tup xs), none] = .ok (xs.map fun d => D.bl (isNameD d)) [some (false, .tup xs), none] :=
      compL_map (e := fun d => D.bl (isNameD d)) rfl fun d hd' => ⟨false, by simp [is_name_sp d (hp d hd') (hs xs rfl d hd')]⟩
    have hb := blsD_map xs isNameD
    by_cases h1 : 1 ≤ xs.length
    · have h1' : (1 : Int) ≤ (xs.length : Int) := by omega
      by_cases h2 : xs.length ≤ 2
      · have h2' : (xs.length : Int) ≤ 2 := by omega
        simp [F_are_names, b_are_names, h1', h2', hcomp, hb, areNm, h1, h2]
      · have h2' : ¬ (xs.length : Int) ≤ 2 := by omega
        simp [F_are_names, b_are_names, h1', h2', areNm, h1, h2]
    · have h1' : ¬ (1 : Int) ≤ (xs.length : Int) := by omega
      simp [F_are_names, b_are_names, h1', areNm, h1]
  | _ => simp [F_are_names, b_are_names, areNm]
theorem areNm_inv {d : D} (h : areNm d = true) : ∃ l, d = nmD l ∧ (∀ n ∈ l, isNameS n = true) ∧ 1 ≤ l.length ∧ l.length ≤ 2 := by
  cases d with
  | tup xs =>
    have h' : (decide (1 ≤ xs.length) && (decide (xs.length ≤ 2) && xs.all isNameD)) = true := h
    simp only [Bool.and_eq_true, decide_eq_true_eq] at h'
    have key : ∀ xs : List D, xs.all isNameD = true → ∃ l : List Str, xs = l.map D.str ∧ ∀ n ∈ l, isNameS n = true := by
      intro xs
      induction xs with
      | nil => intro _; exact ⟨[], rfl, by simp⟩
      | cons x xs ih =>
        intro h
        rw [List.all_cons, Bool.and_eq_true] at h
        obtain ⟨l, hl, hn⟩ := ih h.2
        cases x with
        | str z =>
          refine ⟨z :: l, by rw [hl]; rfl, ?_⟩
          simp only [List.forall_mem_cons]
          exact ⟨h.1, hn⟩
        | _ => exact absurd h.1 Bool.false_ne_true
    obtain ⟨l, hl, hn⟩ := key xs h'.2.2
    refine ⟨l, by rw [hl]; rfl, hn, ?_, ?_⟩
    · have := h'.1; rw [hl, List.length_map] at this; exact this
    · have := h'.2.1; rw [hl, List.length_map] at this; exact this
  | _ => exact absurd h Bool.false_ne_true
theorem areNm_of {l : List Str} (h : ∀ n ∈ l, isNameS n = true) (h1 : 1 ≤ l.length) (h2 : l.length ≤ 2) : areNm (nmD l) = true := by
  show (decide (1 ≤ (l.map D.str).length) && (decide ((l.map D.str).length ≤ 2) && (l.map D.str).all isNameD)) = true
  rw [List.length_map, decide_eq_true h1, decide_eq_true h2, List.all_map]
  simp only [Bool.true_and]
  exact List.all_eq_true.mpr fun n hn => h n hn
def areSay (nm : List Str) (most : Nat) : D → Bool
  | .tup xs => decide (xs.length ≤ most) && xs.all (isSay nm 8)
  | _ => false
theorem are_sayings_sp (nm : List Str) (hnm : nm.length ≤ 1000) (most : Nat) (d : D) (hd : plD d = true) : F_are_sayings [(false, d), (false, nmD nm), (false, .int most)] = .ok (false, .bl (areSay nm most d)) [some (false, d), some (false, nmD nm), some (false, .int most)] := by
  cases d with
  | scr _ => simp [plD] at hd
  | dct _ => simp [plD] at hd
  | dk _ => simp [plD] at hd
  | dkl _ _ => simp [plD] at hd
  | lol _ => simp [plD] at hd
  | pin _ => simp [plD] at hd
  | fn _ => simp [plD] at hd
  | xc _ => simp [plD] at hd
  | obj _ _ => simp [plD] at hd
  | ob _ _ => simp [plD] at hd
  | tup xs =>
    have hp := plDs_all (by rw [plD] at hd; exact hd : plDs xs = true)
    have hcomp : compL [3] (gN 3) cT (sCallF F_is_saying (sCons (sVar 1) (sCons (sVar 3) (sCons (sC (.int 8)) sNil)))) xs [some (false, .tup xs), some (false, nmD nm), some (false, .int most), none] = .ok (xs.map fun d => D.bl (isSay nm 8 d)) [some (false, .tup xs), some (false, nmD nm), some (false, .int most), none] :=
      compL_map (e := fun d => D.bl (isSay nm 8 d)) rfl fun d hd' => ⟨false, by
        have h1 : F_is_saying _ = _ := is_saying_sp nm hnm 8 24 d (by decide) (hp d hd')
        simp at h1
        simp [h1]⟩
    have hb := blsD_map xs (isSay nm 8)
    by_cases h1 : xs.length ≤ most
    · have h1' : ¬ (most : Int) < (xs.length : Int) := by omega
      have h1'' : ¬ most < xs.length := by omega
      simp [F_are_sayings, b_are_sayings, h1', h1'', hcomp, hb, areSay, h1]
    · have h1' : (most : Int) < (xs.length : Int) := by omega
      have h1'' : most < xs.length := by omega
      simp [F_are_sayings, b_are_sayings, h1', h1'', areSay, h1]
  | _ => simp [F_are_sayings, b_are_sayings, areSay]
/-- a whole number within bounds -/
def betw (lo hi : Int) : D → Bool
  | .int i => decide (lo ≤ i) && decide (i ≤ hi)
  | _ => false
theorem is_whole_sp (d : D) (hd : plD d = true) : F_is_whole [(false, d)] = .ok (false, .bl (match d with | .int _ => true | _ => false)) [some (false, d)] := by
  cases d with
  | scr _ => simp [plD] at hd
  | dct _ => simp [plD] at hd
  | dk _ => simp [plD] at hd
  | dkl _ _ => simp [plD] at hd
  | lol _ => simp [plD] at hd
  | pin _ => simp [plD] at hd
  | fn _ => simp [plD] at hd
  | xc _ => simp [plD] at hd
  | obj _ _ => simp [plD] at hd
  | ob _ _ => simp [plD] at hd
  | _ => simp [F_is_whole, b_is_whole]
theorem between_sp (d : D) (lo hi : Int) (hd : plD d = true) : F_between [(false, d), (false, .int lo), (false, .int hi)] = .ok (false, .bl (betw lo hi d)) [some (false, d), some (false, .int lo), some (false, .int hi)] := by
  have h := is_whole_sp d hd
  cases d with
  | scr _ => simp [plD] at hd
  | dct _ => simp [plD] at hd
  | dk _ => simp [plD] at hd
  | dkl _ _ => simp [plD] at hd
  | lol _ => simp [plD] at hd
  | pin _ => simp [plD] at hd
  | fn _ => simp [plD] at hd
  | xc _ => simp [plD] at hd
  | obj _ _ => simp [plD] at hd
  | ob _ _ => simp [plD] at hd
  | int i =>
    simp at h
    by_cases h1 : lo ≤ i
    · simp [F_between, b_between, h, betw, h1]
    · simp [F_between, b_between, h, betw, h1]
  | _ =>
    simp at h
    simp [F_between, b_between, h, betw]
def isWi (nm : List Str) : D → Bool
  | .tup [p, s] => betw 1 99 p && isSay nm 8 s
  | _ => false
theorem is_wish_sp (nm : List Str) (hnm : nm.length ≤ 1000) (d : D) (hd : plD d = true) : F_is_wish [(false, d), (false, nmD nm)] = .ok (false, .bl (isWi nm d)) [some (false, d), some (false, nmD nm)] := by
  cases d with
  | scr _ => simp [plD] at hd
  | dct _ => simp [plD] at hd
  | dk _ => simp [plD] at hd
  | dkl _ _ => simp [plD] at hd
  | lol _ => simp [plD] at hd
  | pin _ => simp [plD] at hd
  | fn _ => simp [plD] at hd
  | xc _ => simp [plD] at hd
  | obj _ _ => simp [plD] at hd
  | ob _ _ => simp [plD] at hd
  | tup xs =>
    have hp := plDs_all (by rw [plD] at hd; exact hd : plDs xs = true)
    match xs, hp with
    | [], _ => simp [F_is_wish, b_is_wish, isWi]
    | [x], _ => simp [F_is_wish, b_is_wish, isWi]
    | [p, s], hp =>
      have h1 := between_sp p 1 99 (hp p (by simp))
      have h2 : F_is_saying _ = _ := is_saying_sp nm hnm 8 24 s (by decide) (hp s (by simp))
      simp at h2
      cases e : betw 1 99 p with
      | true => rw [e] at h1; simp [F_is_wish, b_is_wish, isWi, h1, h2, e]
      | false => rw [e] at h1; simp [F_is_wish, b_is_wish, isWi, h1, e]
    | a :: b :: c :: r, _ =>
      have l3 : ¬ ((r.length : Int) + 1 + 1 + 1 = 2) := by omega
      simp [F_is_wish, b_is_wish, isWi, l3]
  | _ => simp [F_is_wish, b_is_wish, isWi]
end Lz
namespace Lz
open PySem PySem.Spec PyProof.Rows L2
def Say.free (ns : List Str) : Say → Bool
  | .lamp n => decide (n ∈ ns)
  | .cst _ => false
  | .un o s => if o = .bf then false else s.free ns
  | .bin _ s t => s.free ns || t.free ns
theorem Say.head_before (s : Say) : decide (s.head = "before") = (match s with | .un .bf _ => true | _ => false) := by
  cases s with
  | lamp n => rfl
  | cst b => cases b <;> rfl
  | un o s => cases o <;> rfl
  | bin o s t => cases o <;> rfl
theorem opIx_say (s : Say) : opIx s.toD (.int 0) = some (false, .str s.head) := by rw [Say.toD_eq]; simp
theorem Say.not_lamp {s : Say} (h : ∀ n, s ≠ .lamp n) : ¬ s.head = "lamp" := by
  have := s.head_lamp
  cases s with
  | lamp n => exact absurd rfl (h n)
  | _ => simpa using this
theorem free_sp (ns : List Str) : ∀ (s : Say) (fuel : Nat), s.dep ≤ fuel → R_stands_free fuel [(false, s.toD), (false, nmD ns)] = .ok (false, .bl (s.free ns)) [some (false, s.toD), some (false, nmD ns)] := by
  intro s
  induction s with
  | lamp n =>
    intro fuel hf
    obtain ⟨fuel, rfl⟩ : ∃ f, fuel = f + 1 := ⟨fuel - 1, by simp only [Say.dep] at hf; omega⟩
    simp [R_stands_free, b_stands_free, Say.toD, nmD, inD_strs, Say.free]
  | cst b =>
    intro fuel hf
    obtain ⟨fuel, rfl⟩ : ∃ f, fuel = f + 1 := ⟨fuel - 1, by simp only [Say.dep] at hf; omega⟩
    have n1 := Say.not_lamp (s := .cst b) nofun
    have n2 : ¬ (Say.cst b).head = "before" := by have := (Say.cst b).head_before; simpa using this
    simp [R_stands_free, b_stands_free, opIx_say, n1, n2, parts_sp, Say.parts, blsD, Say.free]
  | un o s ih =>
    intro fuel hf
    obtain ⟨fuel, rfl⟩ : ∃ f, fuel = f + 1 := ⟨fuel - 1, by simp only [Say.dep] at hf; omega⟩
    have n1 := Say.not_lamp (s := .un o s) nofun
    simp only [Say.dep] at hf
    have h1 := ih fuel (by omega)
    have n2 := (Say.un o s).head_before
    cases o with
    | bf =>
      have n2' : (Say.un .bf s).head = "before" := by simpa using n2
      have n3 : ¬ (("before" : Str) = "lamp") := by decide
      have hix := opIx_say (.un .bf s)
      rw [n2'] at hix
      simp [R_stands_free, b_stands_free, hix, n3, Say.free]
    | _ =>
      have n2' : ¬ _ = ("before" : Str) := of_decide_eq_false n2
      simp [R_stands_free, b_stands_free, opIx_say, n1, n2', parts_sp, Say.parts, blsD, Say.free, h1]
  | bin o s t ih1 ih2 =>
    intro fuel hf
    obtain ⟨fuel, rfl⟩ : ∃ f, fuel = f + 1 := ⟨fuel - 1, by simp only [Say.dep] at hf; omega⟩
    have n1 := Say.not_lamp (s := .bin o s t) nofun
    simp only [Say.dep] at hf
    have h1 := ih1 fuel (by omega)
    have h2 := ih2 fuel (by omega)
    have n2 : ¬ (Say.bin o s t).head = "before" := by have := (Say.bin o s t).head_before; simpa using this
    simp [R_stands_free, b_stands_free, opIx_say, n1, n2, parts_sp, Say.parts, blsD, Say.free, h1, h2]
structure Book where
  foe : List Str
  fri : List Str
  pro : List Say
  mus : List Say
  wis : List (Nat × Say)
def wiD (w : Nat × Say) : D := .tup [.int w.1, w.2.toD]
def saysT (l : List Say) : D := .tup (l.map Say.toD)
def Book.toD (b : Book) : D := .tup [nmD b.foe, nmD b.fri, saysT b.pro, saysT b.mus, .tup (b.wis.map wiD)]
def Book.nm (b : Book) : List Str := b.foe ++ b.fri
def Book.says (b : Book) : List Say := b.pro ++ b.mus ++ b.wis.map (·.2)
def Book.pieces (b : Book) : List Say := b.says.foldl (fun m s => gath s m) []
structure Book.Form (b : Book) : Prop where
  nf : ∀ n ∈ b.foe, isNameS n = true
  nr : ∀ n ∈ b.fri, isNameS n = true
  f1 : 1 ≤ b.foe.length
  f2 : b.foe.length ≤ 2
  r1 : 1 ≤ b.fri.length
  r2 : b.fri.length ≤ 2
  nd : b.nm.Nodup
  p3 : b.pro.length ≤ 3
  pk : ∀ s ∈ b.pro, s.Over b.nm ∧ s.dep ≤ 8
  m3 : b.mus.length ≤ 3
  mq : ∀ s ∈ b.mus, s.Over b.nm ∧ s.dep ≤ 8
  w1 : 1 ≤ b.wis.length
  w5 : b.wis.length ≤ 5
  wk : ∀ w ∈ b.wis, 1 ≤ w.1 ∧ w.1 ≤ 99 ∧ w.2.Over b.nm ∧ w.2.dep ≤ 8
structure Book.Ok (b : Book) : Prop extends Book.Form b where
  fr : ∀ s ∈ b.pro, s.free b.fri = false
  pc : b.pieces.length ≤ 4
theorem isNameS_ok {n : Str} (h : isNameS n = true) : okStr n := by
  unfold isNameS at h
  simp only [Bool.and_eq_true] at h
  have h4 := h.2.2.2
  unfold okStr PyData.strOk
  rw [Array.all_eq_true']
  intro c hc
  have h5 := List.all_eq_true.mp h4 (letB c) (List.mem_map_of_mem (by simpa using hc))
  have h6 : c ∈ letters.cps.toList := of_decide_eq_true h5
  have h7 : ∀ c ∈ letters.cps.toList, c < 0x110000 := by decide +kernel
  exact decide_eq_true (h7 c h6)
theorem Book.Form.okn {b : Book} (h : b.Form) : ∀ n ∈ b.nm, okStr n := fun n hn => by
  rcases List.mem_append.mp hn with hn | hn
  · exact isNameS_ok (h.nf n hn)
  · exact isNameS_ok (h.nr n hn)
theorem Book.Form.sk {b : Book} (h : b.Form) : SaysOk b.nm 8 b.says := fun s hs => by
  rcases List.mem_append.mp hs with hs | hs
  · rcases List.mem_append.mp hs with hs | hs
    · exact h.pk s hs
    · exact h.mq s hs
  · obtain ⟨w, hw, rfl⟩ := List.mem_map.mp hs
    exact ⟨(h.wk w hw).2.2.1, (h.wk w hw).2.2.2⟩
theorem Book.Form.len {b : Book} (h : b.Form) : b.says.length ≤ 11 := by
  unfold Book.says
  rw [List.length_append, List.length_append, List.length_map]
  have := h.p3; have := h.m3; have := h.w5
  omega
theorem plD_nm (l : List Str) : plD (nmD l) = true := by
  show plD (.tup (l.map D.str)) = true
  rw [plD]
  exact plDs_of fun x hx => by
    obtain ⟨n, _, rfl⟩ := List.mem_map.mp hx
    rfl
theorem plD_says (l : List Say) : plD (saysT l) = true := by
  show plD (.tup (l.map Say.toD)) = true
  rw [plD]
  exact plDs_of fun x hx => by
    obtain ⟨n, _, rfl⟩ := List.mem_map.mp hx
    exact n.plD
theorem sayings_of_sp (b : Book) (h : b.Form) : F_sayings_of [(false, b.toD)] = .ok (false, saysT b.says) [some (false, b.toD)] := by
  have hcomp : ∀ x : Option T, compL [1] (gN 1) cT (sBin opIx (sVar 1) (sC (.int 1))) (b.wis.map wiD) [x, none] = .ok ((b.wis.map wiD).map fun d => match d with | .tup [_, s] => s | _ => .non) [x, none] := fun x =>
    compL_map rfl fun d hd => ⟨false, by
      obtain ⟨w, _, rfl⟩ := List.mem_map.mp hd
      simp [wiD]⟩
  have e1 : ((b.wis.map wiD).map fun d => match d with | .tup [_, s] => s | _ => .non) = (b.wis.map (·.2)).map Say.toD := by
    rw [List.map_map, List.map_map]
    rfl
  rw [e1] at hcomp
  have l1 := h.p3
  have l2 := h.m3
  have l3 := h.w5
  have l4 : b.pro.length + b.mus.length ≤ 16777216 := by omega
  have l5 : b.pro.length + b.mus.length + b.wis.length ≤ 16777216 := by omega
  simp only [Book.toD, saysT, Book.says]
  simp at hcomp
  simp [F_sayings_of, b_sayings_of, hcomp, l4, l5]
theorem SaysOk.mono {ns : List Str} {k k' : Nat} {l : List Say} (h : SaysOk ns k l) (e : k ≤ k') : SaysOk ns k' l := fun t ht => ⟨(h t ht).1, Nat.le_trans (h t ht).2 e⟩
theorem pieces_loop {ns : List Str} (hn : ∀ n ∈ ns, okStr n) (x : Option T) : ∀ (l m : List Say) (y : Option T), SaysOk ns 8 l → SaysOk ns 60 m → m.length + 256 * l.length < 16777216 →
    ∃ z, forL (gN 2) (xSeq (xExpr (sCallF F_gathered (sCons (sVar 2) (sCons (sVar 1) sNil)))) xNx) (l.map Say.toD) [x, some (true, .lst (m.map Say.toD)), y] = .ok .nx [x, some (true, .lst ((l.foldl (fun m s => gath s m) m).map Say.toD)), z]
  | [], m, y, _, _, _ => ⟨y, rfl⟩
  | s :: l, m, y, hl, hm, hz => by
    have hs := hl s List.mem_cons_self
    have h4 : 2 ^ s.dep ≤ 2 ^ 8 := Nat.pow_le_pow_right (by decide) hs.2
    have h5 := s.cnt_le
    rw [List.length_cons] at hz
    have h1 : F_gathered _ = _ := gathered_sp hn s 24 m (by omega) hs.1 (by omega) hm (by omega)
    have h2 := gath_len s m
    obtain ⟨z, ih⟩ := pieces_loop hn x l (gath s m) (some (false, s.toD)) (fun t ht => hl t (List.mem_cons_of_mem _ ht)) (hm.gath hs.1 (by omega)) (by omega)
    refine ⟨z, ?_⟩
    simp only [Lz.says] at h1
    simp [h1, ih]
theorem pieces_of_sp (b : Book) (h : b.Form) : F_pieces_of [(false, b.toD)] = .ok (true, Lz.says b.pieces) [some (false, b.toD)] := by
  have h1 := sayings_of_sp b h
  have hl := h.len
  obtain ⟨z, h2⟩ := pieces_loop h.okn (some (false, b.toD)) b.says [] none h.sk (fun t ht => by cases ht) (by simp; omega)
  simp only [saysT] at h1
  simp only [List.map_nil] at h2
  simp only [Lz.says, Book.pieces]
  simp [F_pieces_of, b_pieces_of, h1, h2]
end Lz
namespace Lz
open PySem PySem.Spec PyProof.Rows L2
theorem strsD_map : ∀ (l : List Str), strsD (l.map D.str) = some l
  | [] => rfl
  | d :: l => by
    show (strsD (l.map D.str)).map (d :: ·) = _
    rw [strsD_map l]
    rfl
theorem mfCount_nm (l : List Str) (z : Str) : mfCount (.tup (l.map D.str)) [.str z] = some (false, .int ((l.countP fun y => y == z : Nat) : Int)) := by
  show (strsD (l.map D.str)).map (fun ys => ((false, .int ((ys.countP fun y => y == z : Nat) : Int)) : T)) = _
  rw [strsD_map]
  rfl
def onceL (l : List Str) : Bool := l.all fun z => decide ((l.countP fun y => y == z) = 1)
theorem onceL_nodup {l : List Str} (h : l.Nodup) : onceL l = true := by
  unfold onceL
  rw [List.all_eq_true]
  intro z hz
  apply decide_eq_true
  have h1 : l.count z = 1 := by rw [List.Nodup.count h, if_pos hz]
  exact h1
theorem count_comp (l : List Str) (d : D) :
    compL [2] (gN 2) cT (sBin opEq (sMt "tuple" mfCount (sVar 1) (sCons (sVar 2) sNil)) (sC (.int 1))) (l.map D.str) [some (false, d), some (false, .tup (l.map D.str)), none, none, none] = .ok ((l.map fun z => decide ((l.countP fun y => y == z) = 1)).map D.bl) [some (false, d), some (false, .tup (l.map D.str)), none, none, none] := by
  have : compL [2] (gN 2) cT (sBin opEq (sMt "tuple" mfCount (sVar 1) (sCons (sVar 2) sNil)) (sC (.int 1))) (l.map D.str) [some (false, d), some (false, .tup (l.map D.str)), none, none, none] = .ok ((l.map D.str).map fun d => match d with | .str z => D.bl (decide ((l.countP fun y => y == z) = 1)) | _ => .non) [some (false, d), some (false, .tup (l.map D.str)), none, none, none] := by
    refine compL_map rfl fun d hd => ⟨false, ?_⟩
    obtain ⟨z, _, rfl⟩ := List.mem_map.mp hd
    have e1 : ((((l.countP fun y => y == z : Nat) : Int)) = 1) ↔ (l.countP fun y => y == z) = 1 := by omega
    simp [mfCount_nm, e1]
  rw [this, List.map_map, List.map_map]
  rfl
section
variable {l1 l2 : List Str} {c u w : D}
variable (hn1 : areNm (nmD l1) = true) (hn2 : areNm (nmD l2) = true)
theorem nm_short {l : List Str} (h : areNm (nmD l) = true) : ∀ xs, nmD l = .tup xs → ∀ x ∈ xs, shortD x := fun xs e x hx => by
  obtain ⟨l', e', hl, _⟩ := areNm_inv h
  rw [e'] at e
  cases e
  obtain ⟨n, hn, rfl⟩ := List.mem_map.mp hx
  have := hl n hn
  unfold isNameS at this
  simp only [Bool.and_eq_true, decide_eq_true_eq] at this
  show n.length ≤ 16777216
  omega
theorem nm_len {l : List Str} (h : areNm (nmD l) = true) : 1 ≤ l.length ∧ l.length ≤ 2 := by
  have h' : (decide (1 ≤ (l.map D.str).length) && (decide ((l.map D.str).length ≤ 2) && (l.map D.str).all isNameD)) = true := h
  simp only [Bool.and_eq_true, decide_eq_true_eq, List.length_map] at h'
  exact ⟨h'.1, h'.2.1⟩
include hn1 hn2
end
theorem isWi_wi {nm : List Str} {w : Nat × Say} (h1 : 1 ≤ w.1) (h2 : w.1 ≤ 99) (h3 : w.2.Over nm) (h4 : w.2.dep ≤ 8) : isWi nm (wiD w) = true := by
  show (betw 1 99 (.int w.1) && isSay nm 8 w.2.toD) = true
  rw [isSay_say nm w.2 8 h3, decide_eq_true h4, Bool.and_true]
  show (decide ((1 : Int) ≤ w.1) && decide ((w.1 : Int) ≤ 99)) = true
  rw [decide_eq_true (by omega), decide_eq_true (by omega)]
  rfl
theorem areSay_says {nm : List Str} {l : List Say} {m : Nat} (h : l.length ≤ m) (hk : ∀ s ∈ l, s.Over nm ∧ s.dep ≤ 8) : areSay nm m (saysT l) = true := by
  show (decide ((l.map Say.toD).length ≤ m) && (l.map Say.toD).all (isSay nm 8)) = true
  rw [List.length_map, decide_eq_true h, Bool.true_and, List.all_map]
  exact List.all_eq_true.mpr fun s hs => by
    show isSay nm 8 s.toD = true
    rw [isSay_say nm s 8 (hk s hs).1, decide_eq_true (hk s hs).2]
/-- a book of the right form: what the last tests tell -/
theorem is_book_form (b : Book) (hF : b.Form) : F_is_book [(false, b.toD)] = .ok (false, .bl (!(b.pro.any fun s => s.free b.fri) && decide (b.pieces.length ≤ 4))) [some (false, b.toD)] := by
  have hn1 := areNm_of hF.nf hF.f1 hF.f2
  have hn2 := areNm_of hF.nr hF.r1 hF.r2
  have h1 := are_names_sp _ (plD_nm b.foe) (nm_short hn1)
  have h2 := are_names_sp _ (plD_nm b.fri) (nm_short hn2)
  rw [hn1] at h1
  rw [hn2] at h2
  have hcc := count_comp (b.foe ++ b.fri) b.toD
  have hb := blsD_mapB ((b.foe ++ b.fri).map fun z => decide (((b.foe ++ b.fri).countP fun y => y == z) = 1))
  have ha : ((b.foe ++ b.fri).map fun z => decide (((b.foe ++ b.fri).countP fun y => y == z) = 1)).all id = true := by rw [List.all_map]; exact onceL_nodup hF.nd
  generalize ((b.foe ++ b.fri).map fun z => decide (((b.foe ++ b.fri).countP fun y => y == z) = 1)) = bs at hcc hb ha
  have n1 := nm_len hn1
  have n2 := nm_len hn2
  have len : b.foe.length + b.fri.length ≤ 16777216 := by omega
  have len2 : (b.foe ++ b.fri).length ≤ 1000 := by rw [List.length_append]; omega
  have s1 := are_sayings_sp (b.foe ++ b.fri) len2 3 _ (plD_says b.pro)
  have s2 := are_sayings_sp (b.foe ++ b.fri) len2 3 _ (plD_says b.mus)
  have a1 : areSay (b.foe ++ b.fri) 3 (saysT b.pro) = true := areSay_says hF.p3 hF.pk
  have a2 : areSay (b.foe ++ b.fri) 3 (saysT b.mus) = true := areSay_says hF.m3 hF.mq
  rw [a1] at s1
  rw [a2] at s2
  rw [List.map_append] at hcc
  have hwi := is_wish_sp (b.foe ++ b.fri) len2
  have hpw : ∀ w ∈ b.wis, plD (wiD w) = true := fun w _ => by
    show plD (.tup [.int w.1, w.2.toD]) = true
    simp [plD, plDs, Say.plD]
  have hps := pieces_of_sp b hF
  have q1' : (1 : Int) ≤ (b.wis.length : Int) := by have := hF.w1; omega
  have q2' : (b.wis.length : Int) ≤ 5 := by have := hF.w5; omega
  simp only [nmD, saysT, List.map_append] at s1 s2 hwi
  simp at s1 s2
  have hcomp : ∀ a : D, compL [3] (gN 3) cT (sCallF F_is_wish (sCons (sVar 3) (sCons (sVar 1) sNil))) (b.wis.map wiD) [some (false, a), some (false, .tup (b.foe.map D.str ++ b.fri.map D.str)), none, none, none] = .ok ((b.wis.map wiD).map fun d => D.bl true) [some (false, a), some (false, .tup (b.foe.map D.str ++ b.fri.map D.str)), none, none, none] := fun a =>
    compL_map (e := fun d => D.bl true) rfl fun d hd' => ⟨false, by
      obtain ⟨w, hw, rfl⟩ := List.mem_map.mp hd'
      have h := hwi (wiD w) (hpw w hw)
      have k := hF.wk w hw
      have e := isWi_wi k.1 k.2.1 k.2.2.1 k.2.2.2
      unfold Book.nm at e
      rw [e] at h
      simp [h]⟩
  have hb2 := blsD_map (b.wis.map wiD) (fun _ => true)
  have hall : (((b.wis.map wiD).map fun _ => true)).all id = true := by rw [List.all_map]; exact List.all_eq_true.mpr fun _ _ => rfl
  have hcomp2 : ∀ a : D, compL [4] (gN 4) cT (sCallF F_stands_free (sCons (sVar 4) (sCons (sBin opIx (sVar 0) (sC (.int 1))) sNil))) (b.pro.map Say.toD) [some (false, b.toD), some (false, a), none, none, none] = .ok ((b.pro.map fun s => s.free b.fri).map D.bl) [some (false, b.toD), some (false, a), none, none, none] := fun a => by
    have : compL [4] (gN 4) cT (sCallF F_stands_free (sCons (sVar 4) (sCons (sBin opIx (sVar 0) (sC (.int 1))) sNil))) (b.pro.map Say.toD) [some (false, b.toD), some (false, a), none, none, none] = .ok (b.pro.map fun s => D.bl (s.free b.fri)) [some (false, b.toD), some (false, a), none, none, none] := by
      have gen : ∀ l : List Say, (∀ s ∈ l, s.dep ≤ 8) → compL [4] (gN 4) cT (sCallF F_stands_free (sCons (sVar 4) (sCons (sBin opIx (sVar 0) (sC (.int 1))) sNil))) (l.map Say.toD) [some (false, b.toD), some (false, a), none, none, none] = .ok (l.map fun s => D.bl (s.free b.fri)) [some (false, b.toD), some (false, a), none, none, none] := by
        intro l
        induction l with
        | nil => intro _; rfl
        | cons s l ih =>
          intro hl
          have h1 : F_stands_free _ = _ := free_sp b.fri s 24 (by have := hl s List.mem_cons_self; omega)
          have ih' := ih fun t ht => hl t (List.mem_cons_of_mem _ ht)
          have ix1 : opIx b.toD (.int 1) = some (false, nmD b.fri) := rfl
          simp [h1, ih', ix1]
      exact gen b.pro fun s hs => (hF.pk s hs).2
    rw [this, List.map_map]
    rfl
  have hb3 := blsD_mapB (b.pro.map fun s => s.free b.fri)
  have hany : (b.pro.map fun s => s.free b.fri).any id = b.pro.any fun s => s.free b.fri := by rw [List.any_map]; rfl
  generalize hbt : b.toD = bd at hcc hcomp2 hps
  have ix0 : opIx bd (.int 0) = some (false, .tup (b.foe.map D.str)) := by rw [← hbt]; rfl
  have ix1 : opIx bd (.int 1) = some (false, .tup (b.fri.map D.str)) := by rw [← hbt]; rfl
  have ix2 : opIx bd (.int 2) = some (false, .tup (b.pro.map Say.toD)) := by rw [← hbt]; rfl
  have ix3 : opIx bd (.int 3) = some (false, .tup (b.mus.map Say.toD)) := by rw [← hbt]; rfl
  have ix4 : opIx bd (.int 4) = some (false, .tup (b.wis.map wiD)) := by rw [← hbt]; rfl
  have il : cfLen [bd] = some (false, .int 5) := by rw [← hbt]; rfl
  have it : isiD "tuple" bd = some (false, .bl true) := by rw [← hbt]; rfl
  simp only [nmD] at h1 h2 hcc
  generalize (b.pro.map fun s => s.free b.fri) = fb at hcomp2 hb3 hany
  rw [← hany]
  simp only [Lz.says] at hps
  simp only [List.map_map] at hcomp hb2 hall
  have hat : (b.wis.all fun _ => true) = true := List.all_eq_true.mpr fun _ _ => rfl
  cases hfa : fb.any id with
  | true => simp [F_is_book, b_is_book, it, il, ix0, ix1, ix2, ix3, ix4, h1, h2, len, hcc, hb, ha, s1, s2, q1', q2', hcomp, hb2, hall, hat, hcomp2, hb3, hfa]
  | false =>
    have e4 : ((b.pieces.length : Int) ≤ 4) ↔ b.pieces.length ≤ 4 := by omega
    simp [F_is_book, b_is_book, it, il, ix0, ix1, ix2, ix3, ix4, h1, h2, len, hcc, hb, ha, s1, s2, q1', q2', hcomp, hb2, hall, hat, hcomp2, hb3, hfa, hps, e4]
theorem is_book_ok (b : Book) (h : b.Ok) : F_is_book [(false, b.toD)] = .ok (false, .bl true) [some (false, b.toD)] := by
  rw [is_book_form b h.toForm]
  have e1 : (b.pro.any fun s => s.free b.fri) = false := by
    rw [List.any_eq_false]
    intro s hs
    rw [h.fr s hs]
    exact Bool.false_ne_true
  rw [e1, decide_eq_true h.pc]
  rfl
theorem checked_ok (b : Book) (h : b.Ok) : F_checked [(false, b.toD)] = .ok (false, b.toD) [some (false, b.toD)] := by
  simp [F_checked, b_checked, is_book_ok b h]
end Lz
namespace Lz
open PySem PySem.Spec PyProof.Rows L2
theorem Say.Over.mono {ns ms : List Str} (h : ∀ n ∈ ns, n ∈ ms) : ∀ {s : Say}, s.Over ns → s.Over ms
  | .lamp n, o => h n o
  | .cst _, _ => trivial
  | .un _ s, o => Say.Over.mono (s := s) h o
  | .bin _ s t, o => ⟨Say.Over.mono (s := s) h o.1, Say.Over.mono (s := t) h o.2⟩
theorem Say.free_of {ns ms : List Str} (h : ∀ n ∈ ns, n ∉ ms) : ∀ {s : Say}, s.Over ns → s.free ms = false
  | .lamp n, o => decide_eq_false (h n o)
  | .cst _, _ => rfl
  | .un o s, ov => by
    show (if o = .bf then false else s.free ms) = false
    rw [Say.free_of (s := s) h ov]
    split <;> rfl
  | .bin _ s t, o => by
    show (s.free ms || t.free ms) = false
    rw [Say.free_of (s := s) h o.1, Say.free_of (s := t) h o.2]
    rfl
theorem promise_sp (ns : List Int) (hl : ns.length ≤ 63) (foe fri : List Str) (hf : 1 ≤ foe.length ∧ foe.length ≤ 4) (hn : (foe ++ fri).length ≤ 4) (hnd : (foe ++ fri).Nodup) (m left : Nat) : ∃ (s : Say) (m' l' : Nat), s.Over (foe ++ fri) ∧ s.dep ≤ 4 ∧ s.npast + l' ≤ left ∧ s.free fri = false ∧
    F_l_promise [(false, .scr ns), (true, .lst [.int m]), (false, nmD foe), (false, nmD (foe ++ fri)), (true, .lst [.int left])] =
      .ok (false, s.toD) [some (false, .scr ns), some (true, .lst [.int m']), some (false, nmD foe), some (false, nmD (foe ++ fri)), some (true, .lst [.int l'])] := by
  have hne : foe ≠ [] := fun e => by rw [e] at hf; simp at hf
  have hne2 : foe ++ fri ≠ [] := fun e => hne (List.append_eq_nil_iff.mp e).1
  have dj : ∀ n ∈ foe, n ∉ fri := fun n h1 h2 => (List.nodup_append.mp hnd).2.2 n h1 n h2 rfl
  obtain ⟨s1, m1, l1, o1, d1, p1, h1⟩ := saying_sp ns hl foe hne (by omega) 1 m 0 24 (by decide)
  have h1' : F_l_saying _ = _ := h1
  have f1 := Say.free_of dj o1
  have o1' : s1.Over (foe ++ fri) := Say.Over.mono (fun n h => List.mem_append_left _ h) o1
  simp only [nmD] at h1'
  simp at h1'
  by_cases hL : 0 < left
  · have hL' : (0 : Int) < left := by omega
    have h2 := next_sp ns hl m1 2 (by decide)
    have l2 := mixed_lt ns (m1 + 1) 2 (by decide)
    generalize mixed ns (m1 + 1) 2 = k at h2 l2
    have hk : k = 0 ∨ k = 1 := by omega
    rcases hk with rfl | rfl
    · simp at h2
      refine ⟨s1, m1 + 1, left, o1', by omega, by omega, f1, ?_⟩
      simp [F_l_promise, b_l_promise, nmD, h1', hL', hL, h2]
    · simp at h2
      obtain ⟨s2, m2, l2, o2, d2, p2, h3⟩ := saying_sp ns hl (foe ++ fri) hne2 hn 1 (m1 + 1) 0 24 (by decide)
      have h3' : F_l_saying _ = _ := h3
      simp only [nmD] at h3'
      simp at h3'
      have h4 := next_sp ns hl m2 3 (by decide)
      have l4 := mixed_lt ns (m2 + 1) 3 (by decide)
      generalize mixed ns (m2 + 1) 3 = k at h4 l4
      have c1 : ((left - 1 : Nat) : Int) = (left : Int) - 1 := by omega
      have hk : k = 0 ∨ k = 1 ∨ k = 2 := by omega
      rcases hk with rfl | rfl | rfl
      · simp at h4
        refine ⟨.bin .th (.un .bf s2) s1, m2 + 1, left - 1, ⟨o2, o1'⟩, by simp only [Say.dep]; omega, by simp only [Say.npast, U1.past, U2.past]; omega, by simp [Say.free, f1], ?_⟩
        rw [c1]
        simp [F_l_promise, b_l_promise, nmD, h1', hL', hL, h2, h3', h4, Say.toD, U1.str, U2.str]
      · simp at h4
        refine ⟨.bin .or (.un .bf s2) s1, m2 + 1, left - 1, ⟨o2, o1'⟩, by simp only [Say.dep]; omega, by simp only [Say.npast, U1.past, U2.past]; omega, by simp [Say.free, f1], ?_⟩
        rw [c1]
        simp [F_l_promise, b_l_promise, nmD, h1', hL', hL, h2, h3', h4, Say.toD, U1.str, U2.str]
      · simp at h4
        refine ⟨.bin .sm (.un .bf s2) s1, m2 + 1, left - 1, ⟨o2, o1'⟩, by simp only [Say.dep]; omega, by simp only [Say.npast, U1.past, U2.past]; omega, by simp [Say.free, f1], ?_⟩
        rw [c1]
        simp [F_l_promise, b_l_promise, nmD, h1', hL', hL, h2, h3', h4, Say.toD, U1.str, U2.str]
  · have hL' : ¬ (0 : Int) < left := by omega
    refine ⟨s1, m1, left, o1', by omega, by omega, f1, ?_⟩
    simp [F_l_promise, b_l_promise, nmD, h1', hL', hL]
/-- a book as a law draws it -/
structure GB (pieces musts : Nat) (b : Book) : Prop where
  gn : GNm b.foe b.fri
  w1 : 1 ≤ b.wis.length
  w3 : b.wis.length ≤ 3
  wk : ∀ w ∈ b.wis, 1 ≤ w.1 ∧ w.1 ≤ 99 ∧ w.2.Over b.nm ∧ w.2.dep ≤ 3
  ml : b.mus.length ≤ musts
  mq : ∀ s ∈ b.mus, s.Over b.nm ∧ s.dep ≤ 3
  p1 : b.pro.length ≤ 1
  pk : ∀ s ∈ b.pro, s.Over b.nm ∧ s.dep ≤ 4 ∧ s.free b.fri = false
  pp : (b.says.map Say.npast).sum ≤ pieces
theorem rngL_cons {a : Int} {n : Nat} : rngL a 1 (n + 1) = .int a :: rngL (a + 1) 1 n := rfl
section
variable {ns : List Int} (hl : ns.length ≤ 63) {foe fri : List Str} (hn : (foe ++ fri).length ≤ 4) (hne : foe ++ fri ≠ [])
include hl hn hne
theorem wishes_loop (y1 y2 y3 y5 y6 : Option T) : ∀ (k : Nat) (a : Int) (m left : Nat) (done : List (Nat × Say)) (x1 x2 : Option T), done.length + k ≤ 100 → ∃ (m' l' : Nat) (made : List (Nat × Say)) (z1 z2 : Option T),
    made.length = k ∧ (∀ w ∈ made, 1 ≤ w.1 ∧ w.1 ≤ 99 ∧ w.2.Over (foe ++ fri) ∧ w.2.dep ≤ 3) ∧ (made.map fun w => w.2.npast).sum + l' ≤ left ∧
    forL (gN 10) (xSeq (xSt 11 (sBin opAdd (sC (.int 1)) (sCallF F_l_next (sCons (sVar 0) (sCons (sVar 4) (sCons (sBin opIx (sLst (sCons (sC (.int 3)) (sCons (sC (.int 9)) (sCons (sC (.int 99)) sNil)))) (sCallF F_l_next (sCons (sVar 0) (sCons (sVar 4) (sCons (sC (.int 3)) sNil))))) sNil)))))) (xSeq (xExpr (sMu opApp (sVar 9) (sCons (sTup (sCons (sVar 11) (sCons (sCallF F_l_saying (sCons (sVar 0) (sCons (sVar 4) (sCons (sVar 7) (sCons (sC (.int 2)) (sCons (sVar 8) sNil)))))) sNil))) sNil))) xNx))
      (rngL a 1 k) [some (false, .scr ns), y1, y2, y3, some (true, .lst [.int m]), y5, y6, some (false, .tup (foe.map D.str ++ fri.map D.str)), some (true, .lst [.int left]), some (true, .lst (done.map wiD)), x1, x2, none, none] =
      .ok .nx [some (false, .scr ns), y1, y2, y3, some (true, .lst [.int m']), y5, y6, some (false, .tup (foe.map D.str ++ fri.map D.str)), some (true, .lst [.int l']), some (true, .lst ((done ++ made).map wiD)), z1, z2, none, none] := by
  intro k
  induction k with
  | zero =>
    intro a m left done x1 x2 _
    exact ⟨m, left, [], x1, x2, rfl, by simp, by simp, by simp [rngL]⟩
  | succ k ih =>
    intro a m left done x1 x2 hz
    have h1 := next_sp ns hl m 3 (by decide)
    have l1 := mixed_lt ns (m + 1) 3 (by decide)
    generalize mixed ns (m + 1) 3 = c at h1 l1
    have hc : ∃ P : Nat, (atI [D.int 3, D.int 9, D.int 99] (c : Int) = some (.int P)) ∧ 0 < P ∧ P ≤ 99 := by
      have : c = 0 ∨ c = 1 ∨ c = 2 := by omega
      rcases this with rfl | rfl | rfl
      · exact ⟨3, rfl, by decide, by decide⟩
      · exact ⟨9, rfl, by decide, by decide⟩
      · exact ⟨99, rfl, by decide, by decide⟩
    obtain ⟨P, hP, hP0, hP99⟩ := hc
    have h2 := next_sp ns hl (m + 1) P hP0
    have l2 := mixed_lt ns (m + 1 + 1) P hP0
    generalize mixed ns (m + 1 + 1) P = c2 at h2 l2
    obtain ⟨s, m3, l3, o3, d3, p3, h3⟩ := saying_sp ns hl (foe ++ fri) hne hn 2 (m + 1 + 1) left 24 (by decide)
    have h3' : F_l_saying _ = _ := h3
    obtain ⟨m', l', made, z1, z2, e1, e2, e3, e4⟩ := ih (a + 1) m3 l3 (done ++ [(1 + c2, s)]) (some (false, .int a)) (some (false, .int (1 + c2 : Nat))) (by simp; omega)
    refine ⟨m', l', (1 + c2, s) :: made, z1, z2, by simp [e1], ?_, ?_, ?_⟩
    · simp only [List.forall_mem_cons]
      exact ⟨⟨by omega, by omega, o3, d3⟩, e2⟩
    · rw [List.map_cons, List.sum_cons]
      show s.npast + _ + l' ≤ left
      omega
    · simp only [nmD, List.map_append] at h3'
      simp at h1 h2 h3'
      have hd : done.length < 16777216 := by omega
      rw [List.append_assoc] at e4
      simp [wiD] at e4
      simp [rngL_cons, h1, hP, h2, h3', hd, wiD, e4]
theorem musts_loop (y1 y2 y3 y5 y6 y9 y11 y12 y13 : Option T) : ∀ (k : Nat) (a : Int) (m left : Nat), ∃ (m' l' : Nat) (made : List Say),
    made.length = k ∧ (∀ s ∈ made, s.Over (foe ++ fri) ∧ s.dep ≤ 3) ∧ (made.map Say.npast).sum + l' ≤ left ∧
    compL [10] (gN 10) cT (sCallF F_l_saying (sCons (sVar 0) (sCons (sVar 4) (sCons (sVar 7) (sCons (sC (.int 2)) (sCons (sVar 8) sNil))))))
      (rngL a 1 k) [some (false, .scr ns), y1, y2, y3, some (true, .lst [.int m]), y5, y6, some (false, .tup (foe.map D.str ++ fri.map D.str)), some (true, .lst [.int left]), y9, none, y11, y12, y13] =
      .ok (made.map Say.toD) [some (false, .scr ns), y1, y2, y3, some (true, .lst [.int m']), y5, y6, some (false, .tup (foe.map D.str ++ fri.map D.str)), some (true, .lst [.int l']), y9, none, y11, y12, y13] := by
  intro k
  induction k with
  | zero =>
    intro a m left
    exact ⟨m, left, [], rfl, by simp, by simp, by simp [rngL]⟩
  | succ k ih =>
    intro a m left
    obtain ⟨s, m3, l3, o3, d3, p3, h3⟩ := saying_sp ns hl (foe ++ fri) hne hn 2 m left 24 (by decide)
    have h3' : F_l_saying _ = _ := h3
    obtain ⟨m', l', made, e1, e2, e3, e4⟩ := ih (a + 1) m3 l3
    refine ⟨m', l', s :: made, by simp [e1], ?_, ?_, ?_⟩
    · simp only [List.forall_mem_cons]
      exact ⟨⟨o3, d3⟩, e2⟩
    · rw [List.map_cons, List.sum_cons]
      omega
    · simp only [nmD, List.map_append] at h3'
      simp at h3'
      simp [rngL_cons, h3', e4]
theorem promises_loop (hf : 1 ≤ foe.length) (hnd : (foe ++ fri).Nodup) (y1 y2 y3 y6 y9 y11 y12 y13 : Option T) : ∀ (k : Nat) (a : Int) (m left : Nat), ∃ (m' l' : Nat) (made : List Say),
    made.length = k ∧ (∀ s ∈ made, s.Over (foe ++ fri) ∧ s.dep ≤ 4 ∧ s.free fri = false) ∧ (made.map Say.npast).sum + l' ≤ left ∧
    compL [10] (gN 10) cT (sCallF F_l_promise (sCons (sVar 0) (sCons (sVar 4) (sCons (sVar 5) (sCons (sVar 7) (sCons (sVar 8) sNil))))))
      (rngL a 1 k) [some (false, .scr ns), y1, y2, y3, some (true, .lst [.int m]), some (false, .tup (foe.map D.str)), y6, some (false, .tup (foe.map D.str ++ fri.map D.str)), some (true, .lst [.int left]), y9, none, y11, y12, y13] =
      .ok (made.map Say.toD) [some (false, .scr ns), y1, y2, y3, some (true, .lst [.int m']), some (false, .tup (foe.map D.str)), y6, some (false, .tup (foe.map D.str ++ fri.map D.str)), some (true, .lst [.int l']), y9, none, y11, y12, y13] := by
  intro k
  induction k with
  | zero =>
    intro a m left
    exact ⟨m, left, [], rfl, by simp, by simp, by simp [rngL]⟩
  | succ k ih =>
    intro a m left
    obtain ⟨s, m3, l3, o3, d3, p3, f3, h3⟩ := promise_sp ns hl foe fri ⟨hf, by rw [List.length_append] at hn; omega⟩ hn hnd m left
    obtain ⟨m', l', made, e1, e2, e3, e4⟩ := ih (a + 1) m3 l3
    refine ⟨m', l', s :: made, by simp [e1], ?_, ?_, ?_⟩
    · simp only [List.forall_mem_cons]
      exact ⟨⟨o3, d3, f3⟩, e2⟩
    · rw [List.map_cons, List.sum_cons]
      omega
    · simp only [nmD, List.map_append] at h3
      simp [rngL_cons, h3, e4]
end
theorem GNm.names {foe fri : List Str} (g : GNm foe fri) : (∀ n ∈ foe, isNameS n = true) ∧ ∀ n ∈ fri, isNameS n = true := GNm.all (P := fun foe fri => (∀ n ∈ foe, isNameS n = true) ∧ ∀ n ∈ fri, isNameS n = true) (by decide +kernel) g
theorem addP_np (s : Say) (m : List Say) : (addP s m).length ≤ m.length + (if s.isP = true then 1 else 0) := by
  unfold addP
  by_cases h : s.isP = true ∧ s ∉ m
  · rw [if_pos h, if_pos h.1]; simp
  · rw [if_neg h]; omega
theorem gath_np : ∀ (s : Say) (m : List Say), (gath s m).length ≤ m.length + s.npast
  | .lamp n, m => by have := addP_np (.lamp n) m; simpa [gath, Say.npast, Say.isP] using this
  | .cst n, m => by have := addP_np (.cst n) m; simpa [gath, Say.npast, Say.isP] using this
  | .un o s, m => by
    have h1 := gath_np s (addP (.un o s) m)
    have h2 := addP_np (.un o s) m
    have h3 : (if (Say.un o s).isP = true then 1 else 0) = o.past := by cases o <;> rfl
    simp only [gath, Say.npast]
    omega
  | .bin o s t, m => by
    have h1 := gath_np s (addP (.bin o s t) m)
    have h2 := addP_np (.bin o s t) m
    have h4 := gath_np t (gath s (addP (.bin o s t) m))
    have h3 : (if (Say.bin o s t).isP = true then 1 else 0) = o.past := by cases o <;> rfl
    simp only [gath, Say.npast]
    omega
theorem foldl_gath_np : ∀ (l m : List Say), (l.foldl (fun m s => gath s m) m).length ≤ m.length + (l.map Say.npast).sum
  | [], m => by simp
  | s :: l, m => by
    rw [List.foldl_cons, List.map_cons, List.sum_cons]
    have h1 := foldl_gath_np l (gath s m)
    have h2 := gath_np s m
    omega
theorem GB.ok {pieces musts : Nat} {b : Book} (g : GB pieces musts b) (hp : pieces ≤ 4) (hm : musts ≤ 3) : b.Ok := by
  have n := g.gn.names
  have l := g.gn.len
  refine ⟨⟨n.1, n.2, l.1, l.2.1, l.2.2.1, l.2.2.2, g.gn.nodup, by have := g.p1; omega, fun s hs => ⟨(g.pk s hs).1, by have := (g.pk s hs).2.1; omega⟩, Nat.le_trans g.ml hm, fun s hs => ⟨(g.mq s hs).1, by have := (g.mq s hs).2; omega⟩, g.w1, by have := g.w3; omega, fun w hw => ⟨(g.wk w hw).1, (g.wk w hw).2.1, (g.wk w hw).2.2.1, by have := (g.wk w hw).2.2.2; omega⟩⟩, fun s hs => (g.pk s hs).2.2, ?_⟩
  have h1 := foldl_gath_np b.says []
  have h2 := g.pp
  unfold Book.pieces
  simp at h1
  omega
theorem book_sp (ns : List Int) (hl : ns.length ≤ 63) (at_ pieces musts : Nat) (hmu : musts ≤ 1000) : ∃ b : Book, GB pieces musts b ∧
    F_l_book [(false, .scr ns), (false, .int at_), (false, .int pieces), (false, .int musts)] = .ok (false, b.toD) [some (false, .scr ns), some (false, .int at_), some (false, .int pieces), some (false, .int musts)] := by
  obtain ⟨foe, fri, g, h1⟩ := names_sp ns hl at_
  have gl := g.len
  have hne : foe ++ fri ≠ [] := fun e => by have := congrArg List.length e; rw [List.length_append] at this; simp only [List.length_nil] at this; omega
  have hn4 : (foe ++ fri).length ≤ 4 := by rw [List.length_append]; omega
  have h2 := next_sp ns hl (at_ + 3) (pieces + 1) (by omega)
  have l2 := mixed_lt ns (at_ + 3 + 1) (pieces + 1) (by omega)
  generalize mixed ns (at_ + 3 + 1) (pieces + 1) = left at h2 l2
  have h3 := next_sp ns hl (at_ + 3 + 1) 3 (by omega)
  have l3 := mixed_lt ns (at_ + 3 + 1 + 1) 3 (by omega)
  generalize mixed ns (at_ + 3 + 1 + 1) 3 = kw at h3 l3
  obtain ⟨m4, l4, wis, z1, z2, e1, e2, e3, e4⟩ := wishes_loop hl hn4 hne (some (false, .int at_)) (some (false, .int pieces)) (some (false, .int musts)) (some (false, nmD foe)) (some (false, nmD fri)) (1 + kw) 0 (at_ + 3 + 1 + 1) left [] none none (by simp; omega)
  have h5 := next_sp ns hl m4 (musts + 1) (by omega)
  have l5 := mixed_lt ns (m4 + 1) (musts + 1) (by omega)
  generalize mixed ns (m4 + 1) (musts + 1) = km at h5 l5
  obtain ⟨m6, l6, mus, f1, f2, f3, f4⟩ := musts_loop hl hn4 hne (some (false, .int at_)) (some (false, .int pieces)) (some (false, .int musts)) (some (false, nmD foe)) (some (false, nmD fri)) (some (true, .lst (wis.map wiD))) z2 none none km 0 (m4 + 1) l4
  have h7 := next_sp ns hl m6 2 (by omega)
  have l7 := mixed_lt ns (m6 + 1) 2 (by omega)
  generalize mixed ns (m6 + 1) 2 = kp at h7 l7
  obtain ⟨m8, l8, pro, g1, g2, g3, g4⟩ := promises_loop hl hn4 hne gl.1 g.nodup (some (false, .int at_)) (some (false, .int pieces)) (some (false, .int musts)) (some (false, nmD fri)) (some (true, .lst (wis.map wiD))) z2 (some (true, .lst (mus.map Say.toD))) none kp 0 (m6 + 1) l6
  refine ⟨⟨foe, fri, pro, mus, wis⟩, ⟨g, ?_, ?_, e2, ?_, f2, ?_, g2, ?_⟩, ?_⟩
  · show 1 ≤ wis.length; omega
  · show wis.length ≤ 3; omega
  · show mus.length ≤ musts; omega
  · show pro.length ≤ 1; omega
  · show ((pro ++ mus ++ wis.map (·.2)).map Say.npast).sum ≤ pieces
    rw [List.map_append, List.map_append, List.sum_append, List.sum_append, List.map_map]
    have : (wis.map (Say.npast ∘ fun x => x.2)).sum = (wis.map fun w => w.2.npast).sum := rfl
    omega
  · have len : foe.length + fri.length ≤ 16777216 := by omega
    have c1 : ((1 + kw : Nat) : Int) = 1 + (kw : Int) := by omega
    have r1 : -4611686018427387904 ≤ (1 : Int) + (kw : Int) := by omega
    have r2 : (1 : Int) + (kw : Int) ≤ 16777216 := by omega
    have r3 : ((1 : Int) + (kw : Int)).toNat = 1 + kw := by omega
    have r4 : -4611686018427387904 ≤ (km : Int) := by omega
    have r5 : (km : Int) ≤ 16777216 := by omega
    have r6 : -4611686018427387904 ≤ (kp : Int) := by omega
    have r7 : (kp : Int) ≤ 16777216 := by omega
    simp only [nmD] at h1 e4 f4 g4
    simp at h1 h2 h3 h5 h7 e4
    push_cast at f4 g4
    simp only [Book.toD, nmD, saysT]
    have k1 : pro.length ≤ 16777216 := by omega
    have k2 : mus.length ≤ 16777216 := by omega
    have k3 : wis.length ≤ 16777216 := by omega
    cases z1 <;> simp [F_l_book, b_l_book, h1, h2, h3, h5, h7, len, r1, r2, r3, r4, r5, r6, r7, e4, f4, g4, k1, k2, k3]
end Lz
namespace Lz
open PySem PySem.Spec PyProof.Rows L2
@[simp] theorem sne_lamp_yes : (("lamp" : Str) = "yes") = False := eq_false (by decide)
@[simp] theorem sne_lamp_no : (("lamp" : Str) = "no") = False := eq_false (by decide)
@[simp] theorem sne_lamp_not : (("lamp" : Str) = "not") = False := eq_false (by decide)
@[simp] theorem sne_lamp_and : (("lamp" : Str) = "and") = False := eq_false (by decide)
@[simp] theorem sne_lamp_or : (("lamp" : Str) = "or") = False := eq_false (by decide)
@[simp] theorem sne_lamp_then : (("lamp" : Str) = "then") = False := eq_false (by decide)
@[simp] theorem sne_lamp_same : (("lamp" : Str) = "same") = False := eq_false (by decide)
@[simp] theorem sne_lamp_before : (("lamp" : Str) = "before") = False := eq_false (by decide)
@[simp] theorem sne_lamp_once : (("lamp" : Str) = "once") = False := eq_false (by decide)
@[simp] theorem sne_lamp_sofar : (("lamp" : Str) = "sofar") = False := eq_false (by decide)
@[simp] theorem sne_lamp_since : (("lamp" : Str) = "since") = False := eq_false (by decide)
@[simp] theorem sne_yes_lamp : (("yes" : Str) = "lamp") = False := eq_false (by decide)
@[simp] theorem sne_yes_no : (("yes" : Str) = "no") = False := eq_false (by decide)
@[simp] theorem sne_yes_not : (("yes" : Str) = "not") = False := eq_false (by decide)
@[simp] theorem sne_yes_and : (("yes" : Str) = "and") = False := eq_false (by decide)
@[simp] theorem sne_yes_or : (("yes" : Str) = "or") = False := eq_false (by decide)
@[simp] theorem sne_yes_then : (("yes" : Str) = "then") = False := eq_false (by decide)
@[simp] theorem sne_yes_same : (("yes" : Str) = "same") = False := eq_false (by decide)
@[simp] theorem sne_yes_before : (("yes" : Str) = "before") = False := eq_false (by decide)
@[simp] theorem sne_yes_once : (("yes" : Str) = "once") = False := eq_false (by decide)
@[simp] theorem sne_yes_sofar : (("yes" : Str) = "sofar") = False := eq_false (by decide)
@[simp] theorem sne_yes_since : (("yes" : Str) = "since") = False := eq_false (by decide)
@[simp] theorem sne_no_lamp : (("no" : Str) = "lamp") = False := eq_false (by decide)
@[simp] theorem sne_no_yes : (("no" : Str) = "yes") = False := eq_false (by decide)
@[simp] theorem sne_no_not : (("no" : Str) = "not") = False := eq_false (by decide)
@[simp] theorem sne_no_and : (("no" : Str) = "and") = False := eq_false (by decide)
@[simp] theorem sne_no_or : (("no" : Str) = "or") = False := eq_false (by decide)
@[simp] theorem sne_no_then : (("no" : Str) = "then") = False := eq_false (by decide)
@[simp] theorem sne_no_same : (("no" : Str) = "same") = False := eq_false (by decide)
@[simp] theorem sne_no_before : (("no" : Str) = "before") = False := eq_false (by decide)
@[simp] theorem sne_no_once : (("no" : Str) = "once") = False := eq_false (by decide)
@[simp] theorem sne_no_sofar : (("no" : Str) = "sofar") = False := eq_false (by decide)
@[simp] theorem sne_no_since : (("no" : Str) = "since") = False := eq_false (by decide)
@[simp] theorem sne_not_lamp : (("not" : Str) = "lamp") = False := eq_false (by decide)
@[simp] theorem sne_not_yes : (("not" : Str) = "yes") = False := eq_false (by decide)
@[simp] theorem sne_not_no : (("not" : Str) = "no") = False := eq_false (by decide)
@[simp] theorem sne_not_and : (("not" : Str) = "and") = False := eq_false (by decide)
@[simp] theorem sne_not_or : (("not" : Str) = "or") = False := eq_false (by decide)
@[simp] theorem sne_not_then : (("not" : Str) = "then") = False := eq_false (by decide)
@[simp] theorem sne_not_same : (("not" : Str) = "same") = False := eq_false (by decide)
@[simp] theorem sne_not_before : (("not" : Str) = "before") = False := eq_false (by decide)
@[simp] theorem sne_not_once : (("not" : Str) = "once") = False := eq_false (by decide)
@[simp] theorem sne_not_sofar : (("not" : Str) = "sofar") = False := eq_false (by decide)
@[simp] theorem sne_not_since : (("not" : Str) = "since") = False := eq_false (by decide)
@[simp] theorem sne_and_lamp : (("and" : Str) = "lamp") = False := eq_false (by decide)
@[simp] theorem sne_and_yes : (("and" : Str) = "yes") = False := eq_false (by decide)
@[simp] theorem sne_and_no : (("and" : Str) = "no") = False := eq_false (by decide)
@[simp] theorem sne_and_not : (("and" : Str) = "not") = False := eq_false (by decide)
@[simp] theorem sne_and_or : (("and" : Str) = "or") = False := eq_false (by decide)
@[simp] theorem sne_and_then : (("and" : Str) = "then") = False := eq_false (by decide)
@[simp] theorem sne_and_same : (("and" : Str) = "same") = False := eq_false (by decide)
@[simp] theorem sne_and_before : (("and" : Str) = "before") = False := eq_false (by decide)
@[simp] theorem sne_and_once : (("and" : Str) = "once") = False := eq_false (by decide)
@[simp] theorem sne_and_sofar : (("and" : Str) = "sofar") = False := eq_false (by decide)
@[simp] theorem sne_and_since : (("and" : Str) = "since") = False := eq_false (by decide)
@[simp] theorem sne_or_lamp : (("or" : Str) = "lamp") = False := eq_false (by decide)
@[simp] theorem sne_or_yes : (("or" : Str) = "yes") = False := eq_false (by decide)
@[simp] theorem sne_or_no : (("or" : Str) = "no") = False := eq_false (by decide)
@[simp] theorem sne_or_not : (("or" : Str) = "not") = False := eq_false (by decide)
@[simp] theorem sne_or_and : (("or" : Str) = "and") = False := eq_false (by decide)
@[simp] theorem sne_or_then : (("or" : Str) = "then") = False := eq_false (by decide)
@[simp] theorem sne_or_same : (("or" : Str) = "same") = False := eq_false (by decide)
@[simp] theorem sne_or_before : (("or" : Str) = "before") = False := eq_false (by decide)
@[simp] theorem sne_or_once : (("or" : Str) = "once") = False := eq_false (by decide)
@[simp] theorem sne_or_sofar : (("or" : Str) = "sofar") = False := eq_false (by decide)
@[simp] theorem sne_or_since : (("or" : Str) = "since") = False := eq_false (by decide)
@[simp] theorem sne_then_lamp : (("then" : Str) = "lamp") = False := eq_false (by decide)
@[simp] theorem sne_then_yes : (("then" : Str) = "yes") = False := eq_false (by decide)
@[simp] theorem sne_then_no : (("then" : Str) = "no") = False := eq_false (by decide)
@[simp] theorem sne_then_not : (("then" : Str) = "not") = False := eq_false (by decide)
@[simp] theorem sne_then_and : (("then" : Str) = "and") = False := eq_false (by decide)
@[simp] theorem sne_then_or : (("then" : Str) = "or") = False := eq_false (by decide)
@[simp] theorem sne_then_same : (("then" : Str) = "same") = False := eq_false (by decide)
@[simp] theorem sne_then_before : (("then" : Str) = "before") = False := eq_false (by decide)
@[simp] theorem sne_then_once : (("then" : Str) = "once") = False := eq_false (by decide)
@[simp] theorem sne_then_sofar : (("then" : Str) = "sofar") = False := eq_false (by decide)
@[simp] theorem sne_then_since : (("then" : Str) = "since") = False := eq_false (by decide)
@[simp] theorem sne_same_lamp : (("same" : Str) = "lamp") = False := eq_false (by decide)
@[simp] theorem sne_same_yes : (("same" : Str) = "yes") = False := eq_false (by decide)
@[simp] theorem sne_same_no : (("same" : Str) = "no") = False := eq_false (by decide)
@[simp] theorem sne_same_not : (("same" : Str) = "not") = False := eq_false (by decide)
@[simp] theorem sne_same_and : (("same" : Str) = "and") = False := eq_false (by decide)
@[simp] theorem sne_same_or : (("same" : Str) = "or") = False := eq_false (by decide)
@[simp] theorem sne_same_then : (("same" : Str) = "then") = False := eq_false (by decide)
@[simp] theorem sne_same_before : (("same" : Str) = "before") = False := eq_false (by decide)
@[simp] theorem sne_same_once : (("same" : Str) = "once") = False := eq_false (by decide)
@[simp] theorem sne_same_sofar : (("same" : Str) = "sofar") = False := eq_false (by decide)
@[simp] theorem sne_same_since : (("same" : Str) = "since") = False := eq_false (by decide)
@[simp] theorem sne_before_lamp : (("before" : Str) = "lamp") = False := eq_false (by decide)
@[simp] theorem sne_before_yes : (("before" : Str) = "yes") = False := eq_false (by decide)
@[simp] theorem sne_before_no : (("before" : Str) = "no") = False := eq_false (by decide)
@[simp] theorem sne_before_not : (("before" : Str) = "not") = False := eq_false (by decide)
@[simp] theorem sne_before_and : (("before" : Str) = "and") = False := eq_false (by decide)
@[simp] theorem sne_before_or : (("before" : Str) = "or") = False := eq_false (by decide)
@[simp] theorem sne_before_then : (("before" : Str) = "then") = False := eq_false (by decide)
@[simp] theorem sne_before_same : (("before" : Str) = "same") = False := eq_false (by decide)
@[simp] theorem sne_before_once : (("before" : Str) = "once") = False := eq_false (by decide)
@[simp] theorem sne_before_sofar : (("before" : Str) = "sofar") = False := eq_false (by decide)
@[simp] theorem sne_before_since : (("before" : Str) = "since") = False := eq_false (by decide)
@[simp] theorem sne_once_lamp : (("once" : Str) = "lamp") = False := eq_false (by decide)
@[simp] theorem sne_once_yes : (("once" : Str) = "yes") = False := eq_false (by decide)
@[simp] theorem sne_once_no : (("once" : Str) = "no") = False := eq_false (by decide)
@[simp] theorem sne_once_not : (("once" : Str) = "not") = False := eq_false (by decide)
@[simp] theorem sne_once_and : (("once" : Str) = "and") = False := eq_false (by decide)
@[simp] theorem sne_once_or : (("once" : Str) = "or") = False := eq_false (by decide)
@[simp] theorem sne_once_then : (("once" : Str) = "then") = False := eq_false (by decide)
@[simp] theorem sne_once_same : (("once" : Str) = "same") = False := eq_false (by decide)
@[simp] theorem sne_once_before : (("once" : Str) = "before") = False := eq_false (by decide)
@[simp] theorem sne_once_sofar : (("once" : Str) = "sofar") = False := eq_false (by decide)
@[simp] theorem sne_once_since : (("once" : Str) = "since") = False := eq_false (by decide)
@[simp] theorem sne_sofar_lamp : (("sofar" : Str) = "lamp") = False := eq_false (by decide)
@[simp] theorem sne_sofar_yes : (("sofar" : Str) = "yes") = False := eq_false (by decide)
@[simp] theorem sne_sofar_no : (("sofar" : Str) = "no") = False := eq_false (by decide)
@[simp] theorem sne_sofar_not : (("sofar" : Str) = "not") = False := eq_false (by decide)
@[simp] theorem sne_sofar_and : (("sofar" : Str) = "and") = False := eq_false (by decide)
@[simp] theorem sne_sofar_or : (("sofar" : Str) = "or") = False := eq_false (by decide)
@[simp] theorem sne_sofar_then : (("sofar" : Str) = "then") = False := eq_false (by decide)
@[simp] theorem sne_sofar_same : (("sofar" : Str) = "same") = False := eq_false (by decide)
@[simp] theorem sne_sofar_before : (("sofar" : Str) = "before") = False := eq_false (by decide)
@[simp] theorem sne_sofar_once : (("sofar" : Str) = "once") = False := eq_false (by decide)
@[simp] theorem sne_sofar_since : (("sofar" : Str) = "since") = False := eq_false (by decide)
@[simp] theorem sne_since_lamp : (("since" : Str) = "lamp") = False := eq_false (by decide)
@[simp] theorem sne_since_yes : (("since" : Str) = "yes") = False := eq_false (by decide)
@[simp] theorem sne_since_no : (("since" : Str) = "no") = False := eq_false (by decide)
@[simp] theorem sne_since_not : (("since" : Str) = "not") = False := eq_false (by decide)
@[simp] theorem sne_since_and : (("since" : Str) = "and") = False := eq_false (by decide)
@[simp] theorem sne_since_or : (("since" : Str) = "or") = False := eq_false (by decide)
@[simp] theorem sne_since_then : (("since" : Str) = "then") = False := eq_false (by decide)
@[simp] theorem sne_since_same : (("since" : Str) = "same") = False := eq_false (by decide)
@[simp] theorem sne_since_before : (("since" : Str) = "before") = False := eq_false (by decide)
@[simp] theorem sne_since_once : (("since" : Str) = "once") = False := eq_false (by decide)
@[simp] theorem sne_since_sofar : (("since" : Str) = "sofar") = False := eq_false (by decide)
def setD (s : List Bool) : D := .tup (s.map D.bl)
def acc (f : Nat → Bool → Bool) (b : Bool) : Nat → Bool
  | 0 => b
  | k + 1 => f k (acc f b k)
def U2.op : U2 → Bool → Bool → Bool
  | .an, a, b => a && b
  | .or, a, b => a || b
  | .th, a, b => b || !a
  | .sm, a, b => decide (a = b)
  | .sn, _, _ => false
def iX (nm : List Str) (n : Str) : Nat := (fstAt n nm 0).getD 0
/-- what a saying says at turn k of a play -/
def tvS (nm : List Str) (p : List (List Bool)) : Say → Nat → Bool
  | .lamp n, k => (p.getD k []).getD (iX nm n) false
  | .cst b, _ => b
  | .un .nt s, k => !tvS nm p s k
  | .un .bf s, k => decide (0 < k) && tvS nm p s (k - 1)
  | .un .on s, k => acc (fun j a => tvS nm p s j || a) false (k + 1)
  | .un .sf s, k => acc (fun j a => tvS nm p s j && a) true (k + 1)
  | .bin .sn s t, k => acc (fun j a => tvS nm p t j || (tvS nm p s j && a)) false (k + 1)
  | .bin .an s t, k => tvS nm p s k && tvS nm p t k
  | .bin .or s t, k => tvS nm p s k || tvS nm p t k
  | .bin .th s t, k => tvS nm p t k || !tvS nm p s k
  | .bin .sm s t, k => decide (tvS nm p s k = tvS nm p t k)
end Lz
namespace Lz
open PySem PySem.Spec PyProof.Rows L2
@[simp] theorem isTy_nm {nm : List Str} : isTy "tuple" (nmD nm) = true := rfl
def PlayOk (n : Nat) (p : List (List Bool)) : Prop := (∀ s ∈ p, s.length = n) ∧ p.length ≤ 1000
end Lz
namespace Lz
open PySem PySem.Spec PyProof.Rows L2
theorem blsD_tt {α : Type} : ∀ (l : List α), blsD (l.map fun _ => D.bl true) = some (l.map fun _ => true)
  | [] => rfl
  | x :: l => by
    show (blsD (l.map fun _ => D.bl true)).map (true :: ·) = _
    rw [blsD_tt l]
    rfl
theorem all_tt {α : Type} : ∀ (l : List α), (l.map fun _ => true).all id = true := fun l => by simp
theorem is_setting_sp (s : List Bool) : F_is_setting [(false, setD s), (false, .int (s.length : Nat))] = .ok (false, .bl true) [some (false, setD s), some (false, .int (s.length : Nat))] := by
  have hc : compL [2] (gN 2) cT (sUn (isiD "bool") (sVar 2)) (s.map D.bl) [some (false, .tup (s.map D.bl)), some (false, .int (s.length : Nat)), none] = .ok ((s.map D.bl).map fun _ => .bl true) [some (false, .tup (s.map D.bl)), some (false, .int (s.length : Nat)), none] := compL_map (by simp) fun d hd => by
    obtain ⟨x, hx2, rfl⟩ := List.mem_map.mp hd
    exact ⟨false, by simp⟩
  have e := blsD_tt (s.map D.bl)
  have e2 := all_tt (s.map D.bl)
  unfold setD
  simp [F_is_setting, b_is_setting, hc, e, e2, -List.map_map]
end Lz
namespace Lz
open PySem PySem.Spec PyProof.Rows L2
end Lz
namespace Lz
open PySem PySem.Spec PyProof.Rows L2
end Lz
namespace Lz
open PySem PySem.Spec PyProof.Rows L2
end Lz
namespace Lz
open PySem PySem.Spec PyProof.Rows L2
theorem Book.ix (b : Book) : opIx b.toD (.int 0) = some (false, nmD b.foe) ∧ opIx b.toD (.int 1) = some (false, nmD b.fri) ∧ opIx b.toD (.int 2) = some (false, saysT b.pro) ∧ opIx b.toD (.int 3) = some (false, saysT b.mus) ∧ opIx b.toD (.int 4) = some (false, .tup (b.wis.map wiD)) := by
  unfold Book.toD
  simp
end Lz
namespace Lz
open PySem PySem.Spec PyProof.Rows L2
def setL : Nat → List (List Bool)
  | 0 => [[]]
  | n + 1 => (setL n).flatMap fun s => [s ++ [false], s ++ [true]]
theorem setL_mem : ∀ (n : Nat) (s : List Bool), s ∈ setL n ↔ s.length = n
  | 0, s => by simp [setL, List.length_eq_zero_iff]
  | n + 1, s => by
    simp only [setL, List.mem_flatMap, List.mem_cons, List.not_mem_nil, or_false]
    constructor
    · rintro ⟨t, ht, rfl | rfl⟩ <;> simp [(setL_mem n t).mp ht]
    · intro h
      have hne : s ≠ [] := by intro e; subst e; simp at h
      refine ⟨s.dropLast, (setL_mem n _).mpr (by rw [List.length_dropLast]; omega), ?_⟩
      have e : s.dropLast ++ [s.getLast hne] = s := List.dropLast_concat_getLast hne
      cases hb : s.getLast hne with
      | false => left; rw [hb] at e; exact e.symm
      | true => right; rw [hb] at e; exact e.symm
theorem setL_len : ∀ n, (setL n).length = 2 ^ n
  | 0 => rfl
  | n + 1 => by
    have : ((setL n).flatMap fun s => [s ++ [false], s ++ [true]]).length = 2 * (setL n).length := by
      induction setL n with
      | nil => rfl
      | cons a l ih => rw [List.flatMap_cons, List.length_append, ih]; simp; omega
    rw [setL, this, setL_len n, Nat.pow_succ]
    omega
theorem set_inner {y0 y1 y2 : Option T} {k : Nat} (hk : k ≤ 1000) : ∀ (l acc : List (List Bool)) (x4 : Option T), (∀ s ∈ l, s.length ≤ k) → acc.length + 2 * l.length ≤ 16777216 →
    ∃ y4, forL (gN 4) b_settings_of_L1 (l.map setD) [y0, y1, y2, some (true, .lst (acc.map setD)), x4] = .ok .nx [y0, y1, y2, some (true, .lst ((acc ++ l.flatMap fun s => [s ++ [false], s ++ [true]]).map setD)), y4] := by
  intro l
  induction l with
  | nil => intro acc x4 _ _; exact ⟨x4, by simp⟩
  | cons s l ih =>
    intro acc x4 hl ha
    simp only [List.length_cons] at ha
    obtain ⟨y4, h⟩ := ih (acc ++ [s ++ [false], s ++ [true]]) (some (false, setD s)) (fun t ht => hl t (List.mem_cons_of_mem _ ht)) (by simp; omega)
    refine ⟨y4, ?_⟩
    have e1 : ∀ b, opAdd (setD s) (.tup [.bl b]) = some (false, setD (s ++ [b])) := fun b => by
      have hs := hl s List.mem_cons_self
      unfold setD
      rw [opAdd_tup, if_pos (by simp; omega), List.map_append]
      rfl
    have e3 : acc.length + 2 ≤ 16777216 := by omega
    have e4 : (acc ++ (s :: l).flatMap fun s => [s ++ [false], s ++ [true]]) = acc ++ [s ++ [false], s ++ [true]] ++ l.flatMap fun s => [s ++ [false], s ++ [true]] := by simp
    rw [e4, ← h]
    simp [b_settings_of_L1, e1, e3]
theorem set_outer {y0 : Option T} {n : Nat} (hn : n ≤ 10) : ∀ (m a : Nat) (o : Bool) (x2 x3 x4 : Option T), a + m = n → (0 < a → o = false) →
    ∃ o2 y2 y3 y4, (0 < n → o2 = false) ∧ forL (gN 2) b_settings_of_L2 (rngL a 1 m) [y0, some (o, .lst ((setL a).map setD)), x2, x3, x4] = .ok .nx [y0, some (o2, .lst ((setL n).map setD)), y2, y3, y4] := by
  intro m
  induction m with
  | zero => intro a o x2 x3 x4 ha ho; have : a = n := by omega
            subst this; exact ⟨o, x2, x3, x4, ho, rfl⟩
  | succ m ih =>
    intro a o x2 x3 x4 ha ho
    have hp : 2 ^ a ≤ 2 ^ 10 := Nat.pow_le_pow_right (by decide) (by omega)
    have hlen := setL_len a
    have hq := fun y1 => set_inner (y0 := y0) (y1 := y1) (y2 := some (false, .int a)) (k := a) (by omega) (setL a) [] x4 (fun s hs => Nat.le_of_eq ((setL_mem a s).mp hs)) (by simp; omega)
    have e1 : ([] ++ (setL a).flatMap fun s => [s ++ [false], s ++ [true]]) = setL (a + 1) := rfl
    cases o with
    | true =>
      obtain ⟨z4, h1⟩ := hq none
      obtain ⟨o2, y2, y3, y4, ho2, h⟩ := ih (a + 1) false (some (false, .int a)) (some (false, .lst ((setL (a + 1)).map setD))) z4 (by omega) (fun _ => rfl)
      refine ⟨o2, y2, y3, y4, ho2, ?_⟩
      rw [e1] at h1
      rw [Int.natCast_add, Int.natCast_one] at h
      rw [rngL_cons, ← h]
      simp only [List.map_nil] at h1
      simp [b_settings_of_L2, h1]
    | false =>
      obtain ⟨z4, h1⟩ := hq (some (false, .lst ((setL a).map setD)))
      obtain ⟨o2, y2, y3, y4, ho2, h⟩ := ih (a + 1) false (some (false, .int a)) (some (false, .lst ((setL (a + 1)).map setD))) z4 (by omega) (fun _ => rfl)
      refine ⟨o2, y2, y3, y4, ho2, ?_⟩
      rw [e1] at h1
      rw [Int.natCast_add, Int.natCast_one] at h
      rw [rngL_cons, ← h]
      simp only [List.map_nil] at h1
      simp [b_settings_of_L2, h1]
theorem settings_of_sp (n : Nat) (h0 : 0 < n) (hn : n ≤ 10) : F_settings_of [(false, .int n)] = .ok (false, .lst ((setL n).map setD)) [some (false, .int n)] := by
  obtain ⟨o2, y2, y3, y4, ho2, h⟩ := set_outer (y0 := some (false, .int n)) hn n 0 true none none none (by omega) (fun h => absurd h (by decide))
  have r1 : (n : Int) ≤ 16777216 := by omega
  rw [ho2 h0] at h
  have e : (setL 0).map setD = [.tup []] := rfl
  rw [e] at h
  simp at h
  simp [F_settings_of, b_settings_of, r1, h]
theorem l_settings_eq : F_l_settings = F_settings_of := rfl
end Lz
namespace Lz
open PySem PySem.Spec PyProof.Rows L2
abbrev Mach := List (List (List Bool × Nat))
def pairD (pr : List Bool × Nat) : D := .tup [setD pr.1, .int pr.2]
def standD (st : List (List Bool × Nat)) : D := .tup (st.map pairD)
def machD (m : Mach) : D := .tup (m.map standD)
theorem ptSet : PT setD 1 := PT.bl.tup
theorem ptPair : PT pairD 2 := ptSet.pair (PT.nat.mono (by decide))
theorem ptStand : PT standD 3 := ptPair.tup
theorem ptMach : PT machD 4 := ptStand.tup
structure MOk (f r : Nat) (m : Mach) : Prop where
  m1 : 1 ≤ m.length
  m64 : m.length ≤ 64
  sl : ∀ st ∈ m, st.length = 2 ^ f
  pl : ∀ st ∈ m, ∀ pr ∈ st, pr.1.length = r ∧ pr.2 < m.length
theorem stand_loop {b : Book} {st : List (List Bool × Nat)} {many : Nat} {y1 : Option T} (h : ∀ pr ∈ st, pr.1.length = b.fri.length ∧ pr.2 < many) (x3 : Option T) :
    ∃ y3, forL (gN 3) b_is_stand_L1 (st.map pairD) [some (false, b.toD), y1, some (false, .int many), x3] = .ok .nx [some (false, b.toD), y1, some (false, .int many), y3] := by
  have q := forL_fold (g := gN 3) (f := b_is_stand_L1) (fun x3 : Option T => [some (false, b.toD), y1, some (false, .int many), x3]) (fun _ d => some (false, d)) (fun _ => True) (st.map pairD) x3 trivial fun a d hd _ => by
    obtain ⟨pr, hpr, rfl⟩ := List.mem_map.mp hd
    obtain ⟨h1, h2⟩ := h pr hpr
    have q1 := is_setting_sp pr.1
    have q2 := between_sp (.int pr.2) 0 ((many : Int) - 1) rfl
    have q3 : betw 0 ((many : Int) - 1) (.int pr.2) = true := by simp only [betw, Bool.and_eq_true, decide_eq_true_eq]; omega
    rw [q3] at q2
    rw [h1] at q1
    obtain ⟨i0, i1, i2, i3, i4⟩ := b.ix
    have hlen : cfLen [nmD b.fri] = some (false, .int b.fri.length) := by unfold nmD; simp
    refine ⟨_, rfl, ?_, trivial⟩
    simp [b_is_stand_L1, pairD, i1, hlen, q1, q2]
  exact ⟨_, q.1⟩
theorem is_stand_sp (b : Book) (hb : b.Form) (st : List (List Bool × Nat)) (many : Nat) (hl : st.length = 2 ^ b.foe.length) (h : ∀ pr ∈ st, pr.1.length = b.fri.length ∧ pr.2 < many) :
    F_is_stand [(false, b.toD), (false, standD st), (false, .int many)] = .ok (false, .bl true) [some (false, b.toD), some (false, standD st), some (false, .int many)] := by
  obtain ⟨y3, q⟩ := stand_loop (y1 := some (false, standD st)) h none
  obtain ⟨i0, i1, i2, i3, i4⟩ := b.ix
  have hlen : cfLen [nmD b.foe] = some (false, .int b.foe.length) := by unfold nmD; simp
  have f1 := hb.f1
  have f2 := hb.f2
  have s := settings_of_sp b.foe.length (by omega) (by omega)
  have sl := setL_len b.foe.length
  simp only [standD] at q ⊢
  simp [F_is_stand, b_is_stand, i0, hlen, s, sl, hl, q]
theorem is_machine_sp (b : Book) (hb : b.Form) (m : Mach) (h : MOk b.foe.length b.fri.length m) : F_is_machine [(false, b.toD), (false, machD m)] = .ok (false, .bl true) [some (false, b.toD), some (false, machD m)] := by
  have hc : compL [2] (gN 2) cT b_is_machine_C1 (m.map standD) [some (false, b.toD), some (false, machD m), none] = .ok (m.map fun _ => .bl true) [some (false, b.toD), some (false, machD m), none] :=
    compL_m fun st hs => by
      have q := is_stand_sp b hb st m.length (h.sl st hs) (h.pl st hs)
      have hlen : cfLen [machD m] = some (false, .int m.length) := by unfold machD; simp
      exact ⟨_, false, rfl, rfl, by simp [b_is_machine_C1, hlen, q]⟩
  have e := blsD_tt m
  have e2 := all_tt m
  have m1 : 1 ≤ (m.length : Int) := by have := h.m1; omega
  have m2 : (m.length : Int) ≤ 64 := by have := h.m64; omega
  simp only [machD] at hc ⊢
  simp [F_is_machine, b_is_machine, m1, m2, hc, e, e2, -List.map_map]
theorem checked_machine_sp (b : Book) (hb : b.Ok) (m : Mach) (h : MOk b.foe.length b.fri.length m) : F_checked_machine [(false, b.toD), (false, machD m)] = .ok (false, machD m) [some (false, b.toD), some (false, machD m)] := by
  have h1 := is_machine_sp b hb.toForm m h
  have h2 := checked_ok b hb
  have h3 : F_need_machine [(false, b.toD), (false, machD m)] = .ok (false, .non) [some (false, b.toD), some (false, machD m)] := by
    simp [F_need_machine, b_need_machine, h1]
  simp [F_checked_machine, b_checked_machine, h2, h3]
end Lz
namespace Lz
open PySem PySem.Spec PyProof.Rows L2
section
variable {ns : List Int} (hl : ns.length ≤ 63) {at_ f r many : Nat} (hm0 : 0 < many) (hm : many ≤ 64)
include hl hm0 hm
theorem mach_inner {y2 y3 y4 y7 : Option T} {k : Nat} (hr : r ≤ 2) : ∀ (m a : Nat) (row : List (List Bool × Nat)) (x10 x11 : Option T), (∀ pr ∈ row, pr.1.length = r ∧ pr.2 < many) → row.length + m ≤ 1000 →
    ∃ (row2 : List (List Bool × Nat)) (y10 y11 : Option T), (∀ pr ∈ row2, pr.1.length = r ∧ pr.2 < many) ∧ row2.length = row.length + m ∧
      forL (gN 10) b_l_machine_L1 (rngL a 1 m) [some (false, .scr ns), some (false, .int at_), y2, y3, y4, some (false, .int many), some (false, .lst ((setL r).map setD)), y7, some (false, .int k), some (true, .lst (row.map pairD)), x10, x11] =
        .ok .nx [some (false, .scr ns), some (false, .int at_), y2, y3, y4, some (false, .int many), some (false, .lst ((setL r).map setD)), y7, some (false, .int k), some (true, .lst (row2.map pairD)), y10, y11] := by
  intro m
  induction m with
  | zero => exact fun a row x10 x11 h _ => ⟨row, x10, x11, h, rfl, rfl⟩
  | succ m ih =>
    intro a row x10 x11 h ha
    have h1 := mixed_sp ns hl (at_ + 1 + 4 * k + a) (4 * many) (by omega)
    have l1 := mixed_lt ns (at_ + 1 + 4 * k + a) (4 * many) (by omega)
    generalize mixed ns (at_ + 1 + 4 * k + a) (4 * many) = c at h1 l1
    have sl := setL_len r
    have s0 : 0 < (setL r).length := by rw [sl]; exact Nat.two_pow_pos r
    have e1 : (c : Int).fmod 4 = ((c % 4 : Nat) : Int) := fmod_nat c 4
    have e2 : ((c % 4 : Nat) : Int).fmod (((setL r).length : Nat) : Int) = ((c % 4 % (setL r).length : Nat) : Int) := fmod_nat _ _
    have e3 : (c : Int).fdiv 4 = ((c / 4 : Nat) : Int) := fdiv_nat c 4
    have e4 : ¬ (((setL r).length : Nat) : Int) = 0 := by omega
    have hi : c % 4 % (setL r).length < (setL r).length := Nat.mod_lt _ s0
    have e5 : atI ((setL r).map setD) ((c % 4 % (setL r).length : Nat) : Int) = some (setD (setL r)[c % 4 % (setL r).length]) := by rw [atI_lt (by simpa using hi)]; simp
    generalize hgi : c % 4 % (setL r).length = ii at e2 hi e5
    obtain ⟨row2, y10, y11, q1, q2, q3⟩ := ih (a + 1) (row ++ [((setL r)[ii], c / 4)]) (some (false, .int a)) (some (false, .int c)) (fun pr hp => by
      rcases List.mem_append.mp hp with hp | hp
      · exact h pr hp
      · rw [List.mem_singleton.mp hp]
        exact ⟨(setL_mem r _).mp (List.getElem_mem _), by show c / 4 < many; omega⟩) (by simp; omega)
    refine ⟨row2, y10, y11, q1, by rw [q2]; simp; omega, ?_⟩
    rw [Int.natCast_add, Int.natCast_one] at q3
    simp at h1
    have hz : row.length < 16777216 := by omega
    have e6 : ¬ setL r = [] := by intro e; rw [e] at s0; simp at s0
    rw [rngL_cons, ← q3]
    simp only [Int.natCast_emod, Int.cast_ofNat_Int] at e1 e2
    simp [b_l_machine_L1, h1, e1, e2, e3, e4, e5, e6, hz, pairD]
end
theorem mach_outer {ns : List Int} (hl : ns.length ≤ 63) {at_ f r many : Nat} (hm0 : 0 < many) (hm : many ≤ 64) (hf0 : 0 < f) (hf : f ≤ 2) (hr : r ≤ 2) {y3 y4 : Option T} : ∀ (m a : Nat) (done : Mach) (x8 x9 x10 x11 : Option T), (∀ st ∈ done, st.length = 2 ^ f ∧ ∀ pr ∈ st, pr.1.length = r ∧ pr.2 < many) → done.length + m ≤ 1000 →
    ∃ (done2 : Mach) (y8 y9 y10 y11 : Option T), (∀ st ∈ done2, st.length = 2 ^ f ∧ ∀ pr ∈ st, pr.1.length = r ∧ pr.2 < many) ∧ done2.length = done.length + m ∧
      forL (gN 8) b_l_machine_L2 (rngL a 1 m) [some (false, .scr ns), some (false, .int at_), some (false, .int f), y3, y4, some (false, .int many), some (false, .lst ((setL r).map setD)), some (true, .lst (done.map standD)), x8, x9, x10, x11] =
        .ok .nx [some (false, .scr ns), some (false, .int at_), some (false, .int f), y3, y4, some (false, .int many), some (false, .lst ((setL r).map setD)), some (true, .lst (done2.map standD)), y8, y9, y10, y11] := by
  intro m
  induction m with
  | zero => exact fun a done x8 x9 x10 x11 h _ => ⟨done, x8, x9, x10, x11, h, rfl, rfl⟩
  | succ m ih =>
    intro a done x8 x9 x10 x11 h ha
    have p2 : 2 ^ f ≤ 2 ^ 2 := Nat.pow_le_pow_right (by decide) hf
    obtain ⟨row, z10, z11, r1, r2, r3⟩ := mach_inner hl hm0 hm (at_ := at_) (r := r) (y2 := some (false, .int f)) (y3 := y3) (y4 := y4) (y7 := some (true, .lst (done.map standD))) (k := a) hr (2 ^ f) 0 [] x10 x11 (fun pr hp => by cases hp) (by simp; omega)
    obtain ⟨done2, y8, y9, y10, y11, q1, q2, q3⟩ := ih (a + 1) (done ++ [row]) (some (false, .int a)) (some (true, .lst (row.map pairD))) z10 z11 (fun st hst => by
      rcases List.mem_append.mp hst with hst | hst
      · exact h st hst
      · rw [List.mem_singleton.mp hst]
        exact ⟨by simpa using r2, r1⟩) (by simp; omega)
    refine ⟨done2, y8, y9, y10, y11, q1, by rw [q2]; simp; omega, ?_⟩
    have e8 := settings_of_sp f hf0 (by omega)
    rw [← l_settings_eq] at e8
    have sl := setL_len f
    obtain ⟨L, hL⟩ : ∃ L : Nat, (setL f).length = L := ⟨_, rfl⟩
    have g1 : -4611686018427387904 ≤ (L : Int) := by omega
    have g2 : (L : Int) ≤ 16777216 := by omega
    have g3 : 2 ^ f = L := by omega
    rw [Int.natCast_add, Int.natCast_one] at q3
    rw [g3] at r3
    have hz : done.length < 16777216 := by omega
    rw [rngL_cons, ← q3]
    simp at r3
    simp [b_l_machine_L2, e8, hL, g1, g2, r3, hz, standD]
theorem l_machine_sp (ns : List Int) (hl : ns.length ≤ 63) (at_ f r most : Nat) (hf0 : 0 < f) (hf : f ≤ 2) (hr0 : 0 < r) (hr : r ≤ 2) (h0 : 0 < most) (hm : most ≤ 64) : ∃ m : Mach, MOk f r m ∧ m.length ≤ most ∧
    F_l_machine [(false, .scr ns), (false, .int at_), (false, .int f), (false, .int r), (false, .int most)] = .ok (false, machD m) [some (false, .scr ns), some (false, .int at_), some (false, .int f), some (false, .int r), some (false, .int most)] := by
  have h1 := mixed_sp ns hl at_ most h0
  have l1 := mixed_lt ns at_ most h0
  generalize mixed ns at_ most = c at h1 l1
  obtain ⟨m, y8, y9, y10, y11, q1, q2, q3⟩ := mach_outer hl (at_ := at_) (f := f) (r := r) (many := 1 + c) (by omega) (by omega) hf0 hf hr (y3 := some (false, .int r)) (y4 := some (false, .int most)) (1 + c) 0 [] none none none none (fun st h => by cases h) (by simp; omega)
  have hl2 : m.length = 1 + c := by simpa using q2
  refine ⟨m, ⟨by omega, by omega, fun st h => (q1 st h).1, fun st h pr hp => by rw [hl2]; exact (q1 st h).2 pr hp⟩, by omega, ?_⟩
  have e8 := settings_of_sp r hr0 (by omega)
  rw [← l_settings_eq] at e8
  have g1 : -4611686018427387904 ≤ (1 : Int) + c := by omega
  have g2 : (1 : Int) + c ≤ 16777216 := by omega
  have g3 : ((1 : Int) + c).toNat = 1 + c := by omega
  rw [Int.natCast_add, Int.natCast_one] at q3
  simp at q3
  simp [F_l_machine, b_l_machine, h1, e8, g1, g2, g3, q3, machD]
end Lz
namespace Lz
open PySem PySem.Spec PyProof.Rows L2
def tellD (b : Book) : D := .ob "Teller" [("book", false, b.toD), ("names", false, nmD b.nm), ("pieces", false, says b.pieces)]
section
variable {b : Book} {ρ : Env} {o : Bool}
@[simp] theorem tell_book : fldK "Teller" "book" ρ (some (o, tellD b)) = .ok (.v false b.toD) ρ := by cases o <;> rfl
@[simp] theorem tell_names : fldK "Teller" "names" ρ (some (o, tellD b)) = .ok (.v false (nmD b.nm)) ρ := by cases o <;> rfl
@[simp] theorem tell_pieces : fldK "Teller" "pieces" ρ (some (o, tellD b)) = .ok (.v false (says b.pieces)) ρ := by cases o <;> rfl
@[simp] theorem tell_i1 : isObK "Teller" "holds" (some (o, tellD b)) = true := rfl
@[simp] theorem tell_i2 : isObK "Teller" "past" (some (o, tellD b)) = true := rfl
@[simp] theorem tell_i3 : isObK "Teller" "behind" (some (o, tellD b)) = true := rfl
@[simp] theorem tell_i4 : isObK "Teller" "first" (some (o, tellD b)) = true := rfl
@[simp] theorem tell_i5 : isObK "Teller" "keeps" (some (o, tellD b)) = true := rfl
@[simp] theorem tell_i6 : isObK "Teller" "loss" (some (o, tellD b)) = true := rfl
@[simp] theorem tell_j1 : isOb "Teller" "holds" (.v o (tellD b)) ρ = true := rfl
@[simp] theorem tell_j2 : isOb "Teller" "past" (.v o (tellD b)) ρ = true := rfl
@[simp] theorem tell_j3 : isOb "Teller" "behind" (.v o (tellD b)) ρ = true := rfl
@[simp] theorem tell_j4 : isOb "Teller" "first" (.v o (tellD b)) ρ = true := rfl
@[simp] theorem tell_j5 : isOb "Teller" "keeps" (.v o (tellD b)) ρ = true := rfl
@[simp] theorem tell_j6 : isOb "Teller" "loss" (.v o (tellD b)) ρ = true := rfl
end
def Say.isSf : Say → Bool
  | .un .sf _ => true
  | _ => false
def mem0 (b : Book) : List Bool := b.pieces.map Say.isSf
/-- what holds behind a memory -/
def hM (nm : List Str) (pc : List Say) (mem st : List Bool) : Say → Bool
  | .lamp n => st.getD (iX nm n) false
  | .cst b => b
  | .un .nt s => !hM nm pc mem st s
  | .un .bf s => mem.getD (ixOf (.un .bf s) pc) false
  | .un .on s => hM nm pc mem st s || mem.getD (ixOf (.un .on s) pc) false
  | .un .sf s => hM nm pc mem st s && mem.getD (ixOf (.un .sf s) pc) false
  | .bin .sn s t => hM nm pc mem st t || (hM nm pc mem st s && mem.getD (ixOf (.bin .sn s t) pc) false)
  | .bin .an s t => hM nm pc mem st s && hM nm pc mem st t
  | .bin .or s t => hM nm pc mem st s || hM nm pc mem st t
  | .bin .th s t => hM nm pc mem st t || !hM nm pc mem st s
  | .bin .sm s t => decide (hM nm pc mem st s = hM nm pc mem st t)
/-- all past pieces in a saying are among these -/
def PcIn (pc : List Say) : Say → Prop
  | .lamp _ => True
  | .cst _ => True
  | .un o s => ((Say.un o s).isP = true → Say.un o s ∈ pc) ∧ PcIn pc s
  | .bin o s t => ((Say.bin o s t).isP = true → Say.bin o s t ∈ pc) ∧ PcIn pc s ∧ PcIn pc t
structure MS (b : Book) (mem st : List Bool) : Prop where
  ml : mem.length = b.pieces.length
  sl : st.length = b.nm.length
end Lz
namespace Lz
open PySem PySem.Spec PyProof.Rows L2
section
variable (b : Book) (hb : b.Ok) (mem st : List Bool) (ms : MS b mem st) (o : Bool)
include hb ms
end
end Lz
namespace Lz
open PySem PySem.Spec PyProof.Rows L2
theorem PcIn.mono {pc pc' : List Say} (h : ∀ s ∈ pc, s ∈ pc') : ∀ {s : Say}, PcIn pc s → PcIn pc' s
  | .lamp _, _ => trivial
  | .cst _, _ => trivial
  | .un _ s, q => ⟨fun p => h _ (q.1 p), PcIn.mono h q.2⟩
  | .bin _ s t, q => ⟨fun p => h _ (q.1 p), PcIn.mono h q.2.1, PcIn.mono h q.2.2⟩
def now : Say → Say
  | .un .bf s => s
  | s => s
def nextM (b : Book) (mem st : List Bool) : List Bool := b.pieces.map fun p => hM b.nm b.pieces mem st (now p)
def memP (nm : List Str) (p : List (List Bool)) (k : Nat) (s : Say) : Bool := if k = 0 then s.isSf else tvS nm p (now s) (k - 1)
def memAt (b : Book) (p : List (List Bool)) (k : Nat) : List Bool := b.pieces.map (memP b.nm p k)
theorem PcIn.now {pc : List Say} : ∀ {s : Say}, PcIn pc s → PcIn pc (Lz.now s)
  | .lamp _, h => h
  | .cst _, h => h
  | .un .nt _, h => h
  | .un .on _, h => h
  | .un .sf _, h => h
  | .un .bf _, h => h.2
  | .bin _ _ _, h => h
end Lz
namespace Lz
open PySem PySem.Spec PyProof.Rows L2
end Lz
namespace Lz
open PySem PySem.Spec PyProof.Rows L2
def keepsS (b : Book) (l : List Say) (mem st : List Bool) : Bool := l.all fun s => hM b.nm b.pieces mem st s
def lossS (b : Book) (mem st : List Bool) : Int := ((b.wis.filter fun w => !hM b.nm b.pieces mem st w.2).map fun w => (w.1 : Int)).sum
abbrev AnsM := List Bool × Int × List Bool
def mkA (b : Book) (mem foe fr : List Bool) : AnsM := (fr, lossS b mem (foe ++ fr), nextM b mem (foe ++ fr))
def goodF (b : Book) (mem foe : List Bool) : List (List Bool) := (setL b.fri.length).filter fun fr => keepsS b b.mus mem (foe ++ fr)
def ansS (b : Book) (mem foe : List Bool) : List AnsM := (goodF b mem foe).map (mkA b mem foe)
theorem PlayOk.snoc {n : Nat} {p : List (List Bool)} {st : List Bool} (h : PlayOk n p) (hs : st.length = n) (hl : p.length < 1000) : PlayOk n (p ++ [st]) := ⟨fun x hx => by
  rcases List.mem_append.mp hx with hx | hx
  · exact h.1 x hx
  · rw [List.mem_singleton.mp hx]; exact hs, by simp; omega⟩
end Lz
namespace Lz
open PySem PySem.Spec PyProof.Rows L2
abbrev AnsN := List Bool × Int × Nat
abbrev MvN := List Bool × List AnsN
abbrev NdN := List Bool × List MvN
def ansND (x : AnsN) : D := .tup [setD x.1, .int x.2.1, .int x.2.2]
def offF (b : Book) : List Bool := List.replicate b.fri.length false
structure MsOk (b : Book) (ms : List (List Bool)) : Prop where
  nd : ms.Nodup
  ln : ∀ m ∈ ms, m.length = b.pieces.length
theorem nodup_sub {α : Type} [DecidableEq α] : ∀ {l r : List α}, l.Nodup → (∀ x ∈ l, x ∈ r) → l.length ≤ r.length
  | [], _, _, _ => Nat.zero_le _
  | x :: l, r, h, hs => by
    obtain ⟨h1, h2⟩ := List.nodup_cons.mp h
    have hx := hs x List.mem_cons_self
    have ih := nodup_sub (r := r.erase x) h2 fun y hy => (List.mem_erase_of_ne (fun e => h1 (by rw [← e]; exact hy))).mpr (hs y (List.mem_cons_of_mem _ hy))
    rw [List.length_erase_of_mem hx] at ih
    have := List.length_pos_of_mem hx
    rw [List.length_cons]; omega
theorem MsOk.l16 {b : Book} (hb : b.Ok) {ms : List (List Bool)} (h : MsOk b ms) : ms.length ≤ 16 := by
  have h1 := nodup_sub h.nd fun m hm => (setL_mem _ _).mpr (h.ln m hm)
  rw [setL_len] at h1
  have h2 : 2 ^ b.pieces.length ≤ 2 ^ 4 := Nat.pow_le_pow_right (by decide) hb.pc
  omega
end Lz
namespace Lz
open PySem PySem.Spec PyProof.Rows L2
structure NKD {α : Type} (w : α → D) (nk : α → NestedKey) (n : Nat) : Prop where
  kd : ∀ a, nkD (w a) = some (nk a)
  dep : ∀ a, (nk a).depth ≤ n
  inj : ∀ {a b}, nk a = nk b → a = b
theorem NKD.nat : NKD (fun k : Nat => D.int k) (fun k => .num k) 0 := ⟨fun a => by rw [nkD], fun a => by simp [NestedKey.depth], fun {a b} h => by injection h with h; omega⟩
theorem NKD.bl : NKD D.bl (fun b => .num (if b = true then 1 else 0)) 0 := ⟨fun a => by rw [nkD], fun a => by simp [NestedKey.depth], fun {a b} h => by cases a <;> cases b <;> first | rfl | (simp at h)⟩
theorem NKD.all {α : Type} {w : α → D} {nk : α → NestedKey} {n : Nat} (p : NKD w nk n) : ∀ l : List α, nkDs (l.map w) = some (l.map nk) ∧ NestedKey.depthAll (l.map nk) ≤ n
  | [] => ⟨by simp [nkDs], by simp [NestedKey.depthAll]⟩
  | a :: l => by
    obtain ⟨h1, h2⟩ := p.all l
    refine ⟨?_, ?_⟩
    · rw [List.map_cons, nkDs, h1, p.kd]; rfl
    · rw [List.map_cons, NestedKey.depthAll]
      exact Nat.max_le.mpr ⟨p.dep a, h2⟩
theorem NKD.inj_all {α : Type} {w : α → D} {nk : α → NestedKey} {n : Nat} (p : NKD w nk n) : ∀ {l r : List α}, l.map nk = r.map nk → l = r
  | [], [], _ => rfl
  | [], _ :: _, h => by cases h
  | _ :: _, [], h => by cases h
  | a :: l, b :: r, h => by
    rw [List.map_cons, List.map_cons] at h
    injection h with h1 h2
    rw [p.inj h1, p.inj_all h2]
theorem NKD.tup {α : Type} {w : α → D} {nk : α → NestedKey} {n : Nat} (p : NKD w nk n) : NKD (fun l : List α => D.tup (l.map w)) (fun l => .tup (l.map nk)) (n + 1) :=
  ⟨fun l => by rw [nkD, (p.all l).1]; rfl, fun l => by rw [NestedKey.depth]; have := (p.all l).2; omega, fun {a b} h => by injection h with h; exact p.inj_all h⟩
theorem NKD.mono {α : Type} {w : α → D} {nk : α → NestedKey} {n m : Nat} (p : NKD w nk n) (h : n ≤ m) : NKD w nk m := ⟨p.kd, fun a => Nat.le_trans (p.dep a) h, p.inj⟩
theorem NKD.pair {α β : Type} {w : α → D} {nk : α → NestedKey} {v : β → D} {mk : β → NestedKey} {n : Nat} (p : NKD w nk n) (q : NKD v mk n) : NKD (fun x : α × β => D.tup [w x.1, v x.2]) (fun x => .tup [nk x.1, mk x.2]) (n + 1) :=
  ⟨fun x => by
      rw [nkD, nkDs, nkDs, nkDs, p.kd, q.kd]; rfl,
    fun x => by
      rw [NestedKey.depth, NestedKey.depthAll, NestedKey.depthAll, NestedKey.depthAll]
      have h1 := p.dep x.1
      have h2 := q.dep x.2
      have h3 := Nat.max_le.mpr ⟨h1, Nat.max_le.mpr ⟨h2, Nat.zero_le n⟩⟩
      omega,
    fun {a b} h => by
      injection h with h
      injection h with h1 h
      injection h with h2 h
      exact Prod.ext (p.inj h1) (q.inj h2)⟩
/-- w's data are tuples, keys of a dict -/
structure NK {α : Type} (w : α → D) (nk : α → NestedKey) : Prop where
  key : ∀ a, nkOf (w a) = some (nk a)
  kd : ∀ a, nkD (w a) = some (nk a)
  inj : ∀ {a b}, nk a = nk b → a = b
theorem NKD.key {α : Type} {w : α → D} {nk : α → NestedKey} {n : Nat} (p : NKD w nk n) (hn : n ≤ 8) (ht : ∀ a, ∃ xs, w a = .tup xs) : NK w nk :=
  ⟨fun a => by
    obtain ⟨xs, e⟩ := ht a
    have h := p.kd a
    have hd := p.dep a
    rw [e] at h ⊢
    unfold nkOf
    dsimp only
    rw [h]
    show (if (nk a).depth ≤ 8 then some (nk a) else none) = _
    rw [if_pos (by omega)], p.kd, p.inj⟩
section
variable {α : Type} [DecidableEq α] {w : α → D} {nk : α → NestedKey} {val : Nat → D}
def dctG (w : α → D) (val : Nat → D) : List α → Nat → List (D × D)
  | [], _ => []
  | a :: r, k => (w a, val k) :: dctG w val r (k + 1)
theorem dctG_len : ∀ (l : List α) (k : Nat), (dctG w val l k).length = l.length
  | [], _ => rfl
  | m :: l, k => by rw [dctG, List.length_cons, List.length_cons, dctG_len l]
theorem dctG_app : ∀ (l : List α) (m : α) (k : Nat), dctG w val (l ++ [m]) k = dctG w val l k ++ [(w m, val (k + l.length))]
  | [], m, k => rfl
  | x :: l, m, k => by
    rw [List.cons_append, dctG, dctG_app l m (k + 1), dctG, List.cons_append, List.length_cons]
    have e : k + 1 + l.length = k + (l.length + 1) := by omega
    rw [e]
theorem dGet_G (p : NK w nk) : ∀ (l : List α) (m : α) (k : Nat), dGet (dctG w val l k) (nk m) = if m ∈ l then some (val (k + ixOf m l)) else none
  | [], m, k => by simp [dctG, dGet]
  | x :: l, m, k => by
    rw [dctG, dGet, p.kd]
    by_cases h : x = m
    · subst h
      have e : ixOf x (x :: l) = 0 := by simp [ixOf]
      rw [if_pos rfl, if_pos (by simp), e]
      rfl
    · have hn : ¬ (some (nk x) = some (nk m)) := fun e => h (p.inj (Option.some.inj e))
      rw [if_neg hn, dGet_G p l m (k + 1)]
      by_cases hm : m ∈ l
      · have e : ixOf m (x :: l) = ixOf m l + 1 := by
          simp [ixOf, h]
        rw [if_pos hm, if_pos (by simp [hm]), e]
        congr 2
        omega
      · rw [if_neg hm, if_neg (by simp [hm]; exact fun e => h e.symm)]
theorem put_G (p : NK w nk) {l : List α} {m : α} (h : m ∉ l) : dPut (dctG w val l 0) (w m) (nk m) (val l.length) = dctG w val (l ++ [m]) 0 := by
  unfold dPut
  rw [dGet_G p, if_neg h, if_neg (by simp), dctG_app, Nat.zero_add]
theorem notIn_G (p : NK w nk) (l : List α) (m : α) : opNotInT (w m) (.dct (dctG w val l 0)) = some (false, .bl (!decide (m ∈ l))) := by
  unfold opNotInT
  dsimp only
  rw [p.key]
  show some ((false, D.bl (!(dGet (dctG w val l 0) (nk m)).isSome)) : T) = _
  rw [dGet_G p]
  by_cases h : m ∈ l <;> simp [h]
def addN (l : List α) (a : α) : List α := if a ∈ l then l else l ++ [a]
def firstsF (l : List α) (xs : List α) : List α := xs.foldl addN l
def firsts (xs : List α) : List α := firstsF [] xs
theorem addN_ext (l : List α) (a : α) : ∃ r, addN l a = l ++ r := by
  unfold addN
  by_cases h : a ∈ l
  · rw [if_pos h]; exact ⟨[], by simp⟩
  · rw [if_neg h]; exact ⟨[a], rfl⟩
theorem firstsF_ext : ∀ (xs l : List α), ∃ r, firstsF l xs = l ++ r
  | [], l => ⟨[], by simp [firstsF]⟩
  | x :: xs, l => by
    obtain ⟨r1, h1⟩ := addN_ext l x
    obtain ⟨r2, h2⟩ := firstsF_ext xs (addN l x)
    exact ⟨r1 ++ r2, by show firstsF (addN l x) xs = _; rw [h2, h1, List.append_assoc]⟩
theorem addN_mem {l : List α} {a b : α} : b ∈ addN l a ↔ b ∈ l ∨ b = a := by
  unfold addN
  by_cases h : a ∈ l
  · rw [if_pos h]
    exact ⟨.inl, fun q => q.elim id fun e => e ▸ h⟩
  · rw [if_neg h]; simp
theorem firstsF_mem : ∀ {xs l : List α} {b : α}, b ∈ firstsF l xs ↔ b ∈ l ∨ b ∈ xs
  | [], l, b => by simp [firstsF]
  | x :: xs, l, b => by
    show b ∈ firstsF (addN l x) xs ↔ _
    rw [firstsF_mem, addN_mem, List.mem_cons, or_assoc]
theorem addN_nodup {l : List α} {a : α} (h : l.Nodup) : (addN l a).Nodup := by
  unfold addN
  by_cases q : a ∈ l
  · rw [if_pos q]; exact h
  · rw [if_neg q]
    rw [List.nodup_append]
    exact ⟨h, by simp, fun x hx y hy e => q (by rw [List.mem_singleton] at hy; rw [← hy, ← e]; exact hx)⟩
theorem firstsF_nodup : ∀ {xs l : List α}, l.Nodup → (firstsF l xs).Nodup
  | [], _, h => h
  | x :: xs, l, h => firstsF_nodup (xs := xs) (addN_nodup h)
theorem firsts_nodup (xs : List α) : (firsts xs).Nodup := firstsF_nodup List.nodup_nil
theorem firsts_mem {xs : List α} {b : α} : b ∈ firsts xs ↔ b ∈ xs := by unfold firsts; rw [firstsF_mem]; simp
theorem addN_len (l : List α) (a : α) : (addN l a).length ≤ l.length + 1 := by
  unfold addN; by_cases h : a ∈ l
  · rw [if_pos h]; omega
  · rw [if_neg h]; simp
theorem firstsF_len : ∀ (xs l : List α), (firstsF l xs).length ≤ l.length + xs.length
  | [], l => by simp [firstsF]
  | x :: xs, l => by
    have h1 := firstsF_len xs (addN l x)
    have h2 := addN_len l x
    show (firstsF (addN l x) xs).length ≤ _
    simp only [List.length_cons]; omega
def numOf (xs : List α) : List Nat := xs.map fun a => ixOf a (firsts xs)
theorem ixOf_inj {l : List α} {a b : α} (ha : a ∈ l) (hb : b ∈ l) (h : ixOf a l = ixOf b l) : a = b := by
  have h1 := ixOf_get ha
  have h2 := ixOf_get hb
  rw [h] at h1
  rw [h1] at h2
  exact Option.some.inj h2
theorem numOf_len (xs : List α) : (numOf xs).length = xs.length := by unfold numOf; rw [List.length_map]
theorem numOf_get {xs : List α} {i : Nat} (h : i < xs.length) : (numOf xs).getD i 0 = ixOf xs[i] (firsts xs) := by
  simp [numOf, List.getD_eq_getElem?_getD, List.getElem?_eq_getElem h]
theorem numOf_eq {xs : List α} {i j : Nat} (hi : i < xs.length) (hj : j < xs.length) : (numOf xs).getD i 0 = (numOf xs).getD j 0 ↔ xs[i] = xs[j] := by
  rw [numOf_get hi, numOf_get hj]
  exact ⟨fun h => ixOf_inj (firsts_mem.mpr (List.getElem_mem hi)) (firsts_mem.mpr (List.getElem_mem hj)) h, fun h => by rw [h]⟩
theorem ixOf_range : ∀ {xs : List α} {i : Nat} (h : i < xs.length), xs.Nodup → ixOf xs[i] xs = i
  | x :: xs, 0, h, _ => by simp [ixOf]
  | x :: xs, i + 1, h, hn => by
    have hn' := List.nodup_cons.mp hn
    have hi : i < xs.length := by simpa using h
    have ne : x ≠ xs[i] := fun e => hn'.1 (by rw [e]; exact List.getElem_mem hi)
    have := ixOf_range hi hn'.2
    simp [ixOf, ne, this]
theorem ixOf_snoc {x : α} : ∀ {l : List α}, x ∉ l → ixOf x (l ++ [x]) = l.length
  | [], _ => by simp [ixOf]
  | y :: l, h => by
    have ne : y ≠ x := fun e => h (e ▸ List.mem_cons_self)
    have := ixOf_snoc (l := l) fun q => h (List.mem_cons_of_mem _ q)
    simp [ixOf, ne, this]
theorem numbered_loop {y0 : Option T} (p : NK w nk) : ∀ (xs l : List α) (ns : List Nat) (x3 : Option T), l.length + xs.length ≤ 1000 → ns.length + xs.length ≤ 1000 →
    ∃ y3, forL (gN 3) b_numbered_L1 (xs.map w) [y0, some (true, .dct (dctG w (fun k : Nat => .int k) l 0)), some (true, .lst (ns.map fun k : Nat => D.int k)), x3] =
      .ok .nx [y0, some (true, .dct (dctG w (fun k : Nat => .int k) (firstsF l xs) 0)), some (true, .lst ((ns ++ xs.map fun a => ixOf a (firstsF l xs)).map fun k : Nat => D.int k)), y3]
  | [], l, ns, x3, _, _ => ⟨x3, by simp [firstsF]⟩
  | x :: xs, l, ns, x3, h1, h2 => by
    simp only [List.length_cons] at h1 h2
    have hl2 := addN_len l x
    obtain ⟨y3, q⟩ := numbered_loop p xs (addN l x) (ns ++ [ixOf x (addN l x)]) (some (false, w x)) (by omega) (by simp; omega)
    refine ⟨y3, ?_⟩
    have hk := p.key x
    have hg := dGet_G (val := fun k : Nat => D.int k) p l x 0
    have hl := dctG_len (w := w) (val := fun k : Nat => D.int k) l 0
    have e1 : firstsF l (x :: xs) = firstsF (addN l x) xs := rfl
    obtain ⟨r, er⟩ := firstsF_ext xs (addN l x)
    have hm : x ∈ addN l x := addN_mem.mpr (.inr rfl)
    have e2 : ixOf x (firstsF (addN l x) xs) = ixOf x (addN l x) := by rw [er, ixOf_app hm]
    have e3 : ns ++ (x :: xs).map (fun a => ixOf a (firstsF l (x :: xs))) = ns ++ [ixOf x (addN l x)] ++ xs.map fun a => ixOf a (firstsF (addN l x) xs) := by
      rw [e1, List.map_cons, e2]; simp
    rw [e3, e1, ← q]
    have z1 : l.length < 16777216 := by omega
    have z2 : l.length ≤ 16777216 := by omega
    have z3 : ns.length < 16777216 := by omega
    by_cases hx : x ∈ l
    · have ea : addN l x = l := by unfold addN; rw [if_pos hx]
      rw [if_pos hx] at hg
      rw [ea]
      simp [b_numbered_L1, hk, hg, hl, z1, z2, z3]
    · have ea : addN l x = l ++ [x] := by unfold addN; rw [if_neg hx]
      have hp := put_G (val := fun k : Nat => D.int k) p hx
      rw [if_neg hx] at hg
      have ei := ixOf_snoc hx
      rw [ea, ei]
      simp [b_numbered_L1, hk, hg, hl, z1, z2, z3, hp]
theorem numbered_sp (p : NK w nk) (xs : List α) (o : Bool) (h : xs.length ≤ 1000) :
    F_numbered [(o, .lst (xs.map w))] = .ok (false, .tup [.lst ((numOf xs).map fun k : Nat => D.int k), .int (firsts xs).length]) [some (o, .lst (xs.map w))] := by
  have lp := fun y0 => numbered_loop (y0 := y0) p xs [] [] none (by simp; omega) (by simp; omega)
  have hl := dctG_len (w := w) (val := fun k : Nat => D.int k) (firsts xs) 0
  have hz : (firsts xs).length ≤ 16777216 := by
    have := firstsF_len xs []
    unfold firsts
    simp at this ⊢
    omega
  have e : firstsF [] xs = firsts xs := rfl
  simp only [e, dctG, List.map_nil, List.nil_append] at lp
  cases o with
  | true =>
    obtain ⟨y3, q⟩ := lp none
    simp [F_numbered, b_numbered, q, hl, hz, numOf]
  | false =>
    obtain ⟨y3, q⟩ := lp (some (false, .lst (xs.map w)))
    simp [F_numbered, b_numbered, q, hl, hz, numOf]
end
end Lz
namespace Lz
open PySem PySem.Spec PyProof.Rows L2
def leO : Option Int → Option Int → Prop
  | _, none => True
  | some x, some y => x ≤ y
  | none, some _ => False
@[simp] theorem leO_n {a : Option Int} : leO a none := by cases a <;> exact True.intro
@[simp] theorem leO_ss {x y : Int} : leO (some x) (some y) ↔ x ≤ y := Iff.rfl
@[simp] theorem leO_ns {y : Int} : ¬ leO none (some y) := id
theorem leO.refl : ∀ a : Option Int, leO a a
  | none => leO_n
  | some x => Int.le_refl x
theorem leO.trans : ∀ {a b c : Option Int}, leO a b → leO b c → leO a c
  | _, _, none, _, _ => leO_n
  | some _, some _, some _, h, g => Int.le_trans h g
  | none, some _, some _, h, _ => h.elim
  | _, none, some _, _, g => g.elim
theorem leO.anti : ∀ {a b : Option Int}, leO a b → leO b a → a = b
  | none, none, _, _ => rfl
  | some _, some _, h, g => by rw [Int.le_antisymm h g]
  | none, some _, h, _ => h.elim
  | some _, none, _, g => g.elim
theorem leO.some {a : Option Int} {y : Int} (h : leO a (some y)) : ∃ x, a = some x ∧ x ≤ y := by
  cases a with
  | none => exact h.elim
  | some x => exact ⟨x, rfl, h⟩
theorem leO.none {a : Option Int} (h : leO none a) : a = none := by
  cases a with
  | none => rfl
  | some x => exact h.elim
def plusS (w : Int) : Option Int → Option Int
  | none => none
  | some x => some (w + x)
theorem plusS_mono {w : Int} : ∀ {a b : Option Int}, leO a b → leO (plusS w a) (plusS w b)
  | _, none, _ => leO_n
  | some _, some _, h => Int.add_le_add_left h w
  | none, some _, h => h.elim
def lessS : Option Int → Option Int → Option Int
  | none, b => b
  | some x, some y => if y < x then some y else some x
  | some x, none => some x
theorem less_l : ∀ (a b : Option Int), leO (lessS a b) a
  | none, b => leO_n
  | some x, none => leO.refl _
  | some x, some y => by unfold lessS; by_cases h : y < x <;> simp [h] <;> omega
theorem less_r : ∀ (a b : Option Int), leO (lessS a b) b
  | none, b => leO.refl _
  | some x, none => leO_n
  | some x, some y => by unfold lessS; by_cases h : y < x <;> simp [h] <;> omega
theorem less_or : ∀ (a b : Option Int), lessS a b = a ∨ lessS a b = b
  | none, b => .inr rfl
  | some x, none => .inl rfl
  | some x, some y => by unfold lessS; by_cases h : y < x <;> simp [h]
def minO (l : List (Option Int)) : Option Int := l.foldl lessS none
theorem minF_le : ∀ (l : List (Option Int)) (c : Option Int), leO (l.foldl lessS c) c ∧ ∀ a ∈ l, leO (l.foldl lessS c) a
  | [], c => ⟨leO.refl _, by simp⟩
  | b :: l, c => by
    obtain ⟨h1, h2⟩ := minF_le l (lessS c b)
    refine ⟨h1.trans (less_l c b), fun a ha => ?_⟩
    rcases List.mem_cons.mp ha with rfl | ha
    · exact h1.trans (less_r c a)
    · exact h2 a ha
theorem minF_or : ∀ (l : List (Option Int)) (c : Option Int), l.foldl lessS c = c ∨ l.foldl lessS c ∈ l
  | [], c => .inl rfl
  | b :: l, c => by
    rcases minF_or l (lessS c b) with h | h
    · rcases less_or c b with e | e
      · left; show l.foldl lessS (lessS c b) = c; rw [h, e]
      · right; show l.foldl lessS (lessS c b) ∈ _; rw [h, e]; exact List.mem_cons_self
    · right; exact List.mem_cons_of_mem _ h
theorem minO_le {l : List (Option Int)} {a : Option Int} (h : a ∈ l) : leO (minO l) a := (minF_le l none).2 a h
theorem minO_ge {l : List (Option Int)} {c : Option Int} (h : ∀ a ∈ l, leO c a) : leO c (minO l) := by
  rcases minF_or l none with e | e
  · show leO c (l.foldl lessS none); rw [e]; exact leO_n
  · exact h _ e
abbrev Opt := Option (Int × Nat)
def vO (N : Nat → Option Int) : Opt → Option Int
  | none => some 0
  | some p => plusS p.1 (N p.2)
def vLo (O : Nat → List Opt) (N : Nat → Option Int) (k : Nat) : Option Int := minO ((O k).map (vO N))
theorem vO_mono {N M : Nat → Option Int} (h : ∀ k, leO (N k) (M k)) : ∀ o : Opt, leO (vO N o) (vO M o)
  | none => Int.le_refl 0
  | some p => plusS_mono (h p.2)
theorem vL_mono {O : Nat → List Opt} {N M : Nat → Option Int} (h : ∀ k, leO (N k) (M k)) (k : Nat) : leO (vLo O N k) (vLo O M k) := by
  refine minO_ge fun a ha => ?_
  obtain ⟨o, ho, rfl⟩ := List.mem_map.mp ha
  exact (minO_le (List.mem_map.mpr ⟨o, ho, rfl⟩)).trans (vO_mono h o)
def upF (N : Nat → Option Int) (k : Nat) (x : Option Int) : Nat → Option Int := fun j => if j = k then x else N j
def swF (O : Nat → List Opt) : List Nat → (Nat → Option Int) → (Nat → Option Int)
  | [], N => N
  | k :: ks, N => swF O ks (upF N k (vLo O N k))
def Sub (O : Nat → List Opt) (n : Nat) (L : Nat → Option Int) : Prop := ∀ k, k < n → leO (L k) (vLo O L k)
def Sup (O : Nat → List Opt) (n : Nat) (N : Nat → Option Int) : Prop := ∀ k, k < n → leO (vLo O N k) (N k)
section
variable {O : Nat → List Opt} {n : Nat}
theorem upF_ge {L N : Nat → Option Int} (hL : Sub O n L) (h : ∀ k, leO (L k) (N k)) {k : Nat} (hk : k < n) (j : Nat) : leO (L j) (upF N k (vLo O N k) j) := by
  unfold upF
  by_cases e : j = k
  · subst e; rw [if_pos rfl]; exact (hL j hk).trans (vL_mono h j)
  · rw [if_neg e]; exact h j
theorem swF_ge {L : Nat → Option Int} (hL : Sub O n L) : ∀ (ks : List Nat) (N : Nat → Option Int), (∀ k ∈ ks, k < n) → (∀ k, leO (L k) (N k)) → ∀ k, leO (L k) (swF O ks N k)
  | [], N, _, h => h
  | k :: ks, N, hk, h => swF_ge hL ks _ (fun j hj => hk j (List.mem_cons_of_mem _ hj)) (upF_ge hL h (hk k List.mem_cons_self))
theorem upF_le {N : Nat → Option Int} (hN : Sup O n N) {k : Nat} (hk : k < n) (j : Nat) : leO (upF N k (vLo O N k) j) (N j) := by
  unfold upF
  by_cases e : j = k
  · subst e; rw [if_pos rfl]; exact hN j hk
  · rw [if_neg e]; exact leO.refl _
theorem upF_sup {N : Nat → Option Int} (hN : Sup O n N) {k : Nat} (hk : k < n) : Sup O n (upF N k (vLo O N k)) := fun j hj => by
  have h := vL_mono (O := O) (upF_le hN hk) j
  refine h.trans ?_
  unfold upF
  by_cases e : j = k
  · subst e; rw [if_pos rfl]; exact leO.refl _
  · rw [if_neg e]; exact hN j hj
theorem swF_le : ∀ (ks : List Nat) (N : Nat → Option Int), (∀ k ∈ ks, k < n) → Sup O n N → (∀ k, leO (swF O ks N k) (N k)) ∧ Sup O n (swF O ks N)
  | [], N, _, h => ⟨fun _ => leO.refl _, h⟩
  | k :: ks, N, hk, h => by
    have hk0 := hk k List.mem_cons_self
    obtain ⟨h1, h2⟩ := swF_le ks (upF N k (vLo O N k)) (fun j hj => hk j (List.mem_cons_of_mem _ hj)) (upF_sup h hk0)
    exact ⟨fun j => (h1 j).trans (upF_le h hk0 j), h2⟩
theorem swF_fix : ∀ (ks : List Nat) (N : Nat → Option Int), (∀ k ∈ ks, k < n) → Sup O n N → swF O ks N = N → ∀ k ∈ ks, N k = vLo O N k
  | [], _, _, _, _, k, hk => by cases hk
  | k :: ks, N, hk, h, e, j, hj => by
    have hk0 := hk k List.mem_cons_self
    have hks : ∀ j ∈ ks, j < n := fun j hj => hk j (List.mem_cons_of_mem _ hj)
    obtain ⟨h1, _⟩ := swF_le ks (upF N k (vLo O N k)) hks (upF_sup h hk0)
    have e' : swF O ks (upF N k (vLo O N k)) = N := e
    have eu : upF N k (vLo O N k) = N := funext fun j => (upF_le h hk0 j).anti (by have := h1 j; rw [e'] at this; exact this)
    rcases List.mem_cons.mp hj with rfl | hj
    · have := congrFun eu j
      unfold upF at this
      rw [if_pos rfl] at this
      exact this.symm
    · rw [eu] at e'
      exact swF_fix ks N hks h e' j hj
end
/-- lists of numbers -/
def nt (N : List (Option Int)) (k : Nat) : Option Int := N.getD k none
theorem nt_set {N : List (Option Int)} {k : Nat} (h : k < N.length) (x : Option Int) : nt (N.set k x) = upF (nt N) k x := by
  funext j
  unfold nt upF
  simp only [List.getD_eq_getElem?_getD]
  by_cases e : j = k
  · subst e; rw [if_pos rfl, List.getElem?_set_self h]; rfl
  · rw [if_neg e, List.getElem?_set_ne (Ne.symm e)]
def swL (O : Nat → List Opt) : List Nat → List (Option Int) → List (Option Int)
  | [], N => N
  | k :: ks, N => swL O ks (N.set k (vLo O (nt N) k))
theorem swL_len (O : Nat → List Opt) : ∀ (ks : List Nat) (N : List (Option Int)), (swL O ks N).length = N.length
  | [], _ => rfl
  | k :: ks, N => by rw [swL, swL_len O ks, List.length_set]
theorem nt_swL (O : Nat → List Opt) : ∀ (ks : List Nat) (N : List (Option Int)), (∀ k ∈ ks, k < N.length) → nt (swL O ks N) = swF O ks (nt N)
  | [], _, _ => rfl
  | k :: ks, N, h => by
    rw [swL, swF, nt_swL O ks _ (fun j hj => by rw [List.length_set]; exact h j (List.mem_cons_of_mem _ hj)), nt_set (h k List.mem_cons_self)]
/-- sweeps until nothing changes -/
inductive Lim (sw : List (Option Int) → List (Option Int)) : List (Option Int) → List (Option Int) → Prop
  | stop {N : List (Option Int)} : sw N = N → Lim sw N N
  | step {N M : List (Option Int)} : sw N ≠ N → Lim sw (sw N) M → Lim sw N M
def swN (O : Nat → List Opt) (n : Nat) : List (Option Int) → List (Option Int) := swL O (List.range n)
section
variable {O : Nat → List Opt} {n : Nat}
structure Good (O : Nat → List Opt) (n : Nat) (N : List (Option Int)) : Prop where
  len : N.length = n
  sup : Sup O n (nt N)
theorem Good.sw {N : List (Option Int)} (g : Good O n N) : Good O n (swN O n N) ∧ ∀ k, leO (nt (swN O n N) k) (nt N k) := by
  have hr : ∀ k ∈ List.range n, k < n := fun k hk => List.mem_range.mp hk
  have e := nt_swL O (List.range n) N (fun k hk => by rw [g.len]; exact hr k hk)
  obtain ⟨h1, h2⟩ := swF_le (List.range n) (nt N) hr g.sup
  refine ⟨⟨by unfold swN; rw [swL_len, g.len], by unfold swN; rw [e]; exact h2⟩, fun k => ?_⟩
  unfold swN
  rw [e]
  exact h1 k
theorem Lim.ok {N M : List (Option Int)} (h : Lim (swN O n) N M) (g : Good O n N) : Good O n M ∧ (∀ k, k < n → nt M k = vLo O (nt M) k) ∧ ∀ L : Nat → Option Int, Sub O n L → (∀ k, leO (L k) (nt N k)) → ∀ k, leO (L k) (nt M k) := by
  have hr : ∀ k ∈ List.range n, k < n := fun k hk => List.mem_range.mp hk
  induction h with
  | @stop N e =>
    refine ⟨g, fun k hk => ?_, fun L _ hb => hb⟩
    have q := nt_swL O (List.range n) N (fun k hk => by rw [g.len]; exact hr k hk)
    have e' : swF O (List.range n) (nt N) = nt N := by
      rw [← q]
      have e2 : swL O (List.range n) N = N := e
      rw [e2]
    exact swF_fix (List.range n) (nt N) hr g.sup e' k (List.mem_range.mpr hk)
  | @step N M ne _ ih =>
    obtain ⟨g1, h1⟩ := g.sw
    obtain ⟨i1, i2, i3⟩ := ih g1
    refine ⟨i1, i2, fun L hL hb => i3 L hL fun k => ?_⟩
    unfold swN
    rw [nt_swL O (List.range n) N (fun k hk => by rw [g.len]; exact hr k hk)]
    exact swF_ge hL (List.range n) (nt N) hr hb k
end
end Lz
namespace Lz
open PySem PySem.Spec PyProof.Rows L2
theorem bnd_l {α : Type} (f : α → Int) : ∀ l : List α, ∃ M : Int, ∀ a ∈ l, f a ≤ M
  | [] => ⟨0, by simp⟩
  | a :: l => by
    obtain ⟨M, h⟩ := bnd_l f l
    refine ⟨max (f a) M, fun b hb => ?_⟩
    rcases List.mem_cons.mp hb with rfl | hb
    · omega
    · have := h b hb; omega
theorem bnd_n (f : Nat → Int) (n : Nat) : ∃ M : Int, ∀ k, k < n → f k ≤ M := by
  obtain ⟨M, h⟩ := bnd_l f (List.range n)
  exact ⟨M, fun k hk => h k (List.mem_range.mpr hk)⟩
structure Cert (O : Nat → List Opt) (n : Nat) (s : Int) (psi : Nat → Int) : Prop where
  pos : 0 < s
  lt : ∀ k w t, k < n → some (w, t) ∈ O k → psi k < s * w + psi t
def InR (O : Nat → List Opt) (n : Nat) : Prop := ∀ k w t, k < n → some (w, t) ∈ O k → t < n
section
variable {O O' : Nat → List Opt} {n : Nat} {s : Int} {psi : Nat → Int}
theorem Cert.sub (c : Cert O n s psi) (r : InR O n) : ∃ L : Nat → Int, Sub O n (fun k => some (L k)) ∧ ∀ k, k < n → L k ≤ 0 := by
  obtain ⟨M, hM⟩ := bnd_n psi n
  have h0 : ∀ k, k < n → (psi k - M) / s ≤ 0 := fun k hk => by
    have := hM k hk
    have q : (psi k - M) / s ≤ 0 / s := Int.ediv_le_ediv c.pos (by omega)
    rwa [Int.zero_ediv] at q
  refine ⟨fun k => (psi k - M) / s, fun k hk => minO_ge fun a ha => ?_, h0⟩
  obtain ⟨o, ho, rfl⟩ := List.mem_map.mp ha
  cases o with
  | none => exact h0 k hk
  | some p =>
    obtain ⟨w, t⟩ := p
    show (psi k - M) / s ≤ w + (psi t - M) / s
    have h := c.lt k w t hk ho
    have e : (psi t - M + s * w) / s = (psi t - M) / s + w := Int.add_mul_ediv_left _ _ (Int.ne_of_gt c.pos)
    have q : (psi k - M) / s ≤ (psi t - M + s * w) / s := Int.ediv_le_ediv c.pos (by omega)
    omega
end
abbrev Edg := Int × Nat
abbrev Are := List (List (List Edg))
def mvA (A : Are) (k : Nat) : List (List Edg) := A.getD k []
def edA (A : Are) (k m : Nat) : List Edg := (mvA A k).getD m []
structure ArOk (A : Are) : Prop where
  ne : ∀ k, k < A.length → mvA A k ≠ []
  ne2 : ∀ k, k < A.length → ∀ m ∈ mvA A k, m ≠ []
  ix : ∀ k, k < A.length → ∀ m ∈ mvA A k, ∀ e ∈ m, e.2 < A.length
abbrev PkF := List (List (Option Nat))
def pkR (p : PkF) (k m : Nat) : Option Nat := (p.getD k []).getD m none
def edJ (A : Are) (k m j : Nat) : Edg := (edA A k m).getD j (0, 0)
section
variable (A : Are) (up down : Int)
def wF (e : Edg) : Int := up - down * e.1
def frM (p : PkF) (k m : Nat) : Opt := match pkR p k m with
  | none => none
  | some j => some (wF up down (edJ A k m j), (edJ A k m j).2)
def frO (p : PkF) (k : Nat) : List Opt := (List.range (mvA A k).length).map (frM A up down p k)
end
structure PkOk (A : Are) (p : PkF) : Prop where
  len : p.length = A.length
  row : ∀ k, k < A.length → (p.getD k []).length = (mvA A k).length
  lt : ∀ k m j, k < A.length → m < (mvA A k).length → pkR p k m = some j → j < (edA A k m).length
section
variable {A : Are} {up down : Int} {p : PkF} {N : Nat → Option Int}
end
end Lz
namespace Lz
open PySem PySem.Spec PyProof.Rows L2
inductive Imp {α : Type} (st : α → α) : α → α → Prop
  | stop {p : α} : st p = p → Imp st p p
  | step {p q : α} : st p ≠ p → Imp st (st p) q → Imp st p q
open Classical in
noncomputable def limOf (sw : List (Option Int) → List (Option Int)) (N : List (Option Int)) : List (Option Int) := if h : ∃ M, Lim sw N M then Classical.choose h else []
section
variable (A : Are) (up down : Int)
def frN0 : List (Option Int) := List.replicate A.length none
noncomputable def frNu (p : PkF) : List (Option Int) := limOf (swN (frO A up down p) A.length) (frN0 A)
noncomputable def frV (p : PkF) (k m : Nat) : Option Int := vO (nt (frNu A up down p)) (frM A up down p k m)
structure FrI (p : PkF) : Prop where
  pk : PkOk A p
  cert : ∃ s psi, Cert (frO A up down p) A.length s psi
  nn : ∀ k m, k < A.length → m < (mvA A k).length → leO (some 0) (frV A up down p k m)
end
section
variable {A : Are} {up down : Int} {p : PkF}
end
abbrev PkE := List (Option Nat)
section
variable (A : Are) (up down : Int)
def wE (e : Edg) : Int := down * e.1 - up
def foO (p : PkE) (k : Nat) : List Opt := match p.getD k none with
  | none => [none]
  | some a => (edA A k a).map fun e => some (wE up down e, e.2)
structure PeOk (p : PkE) : Prop where
  len : p.length = A.length
  lt : ∀ k a, k < A.length → p.getD k none = some a → a < (mvA A k).length
end
section
variable {A : Are} {up down : Int} {p : PkE} {N : Nat → Option Int}
theorem foV_none {k : Nat} (h : p.getD k none = none) : vLo (foO A up down p) N k = some 0 := by
  unfold vLo foO
  rw [h]
  rfl
end
section
variable (A : Are) (up down : Int)
def foN0 (p : PkE) : List (Option Int) := p.map fun x => match x with
  | none => some 0
  | some _ => none
noncomputable def foNu (p : PkE) : List (Option Int) := limOf (swN (foO A up down p) A.length) (foN0 p)
structure FoI (p : PkE) : Prop where
  pk : PeOk A p
  cert : ∃ s psi, Cert (foO A up down p) A.length s psi
  nn : ∀ k, k < A.length → leO (some 0) (nt (foNu A up down p) k)
end
section
variable {A : Are} {up down : Int} {p : PkE}
end
end Lz
namespace Lz
open PySem PySem.Spec PyProof.Rows L2
theorem nd_sub_len {α : Type} [DecidableEq α] : ∀ {l r : List α}, l.Nodup → (∀ a ∈ l, a ∈ r) → l.length ≤ r.length
  | [], _, _, _ => Nat.zero_le _
  | a :: l, r, n, h => by
    obtain ⟨n1, n2⟩ := List.nodup_cons.mp n
    have ha := h a List.mem_cons_self
    have := nd_sub_len (l := l) (r := r.erase a) n2 fun b hb => (List.mem_erase_of_ne (fun e : b = a => n1 (by rw [← e]; exact hb))).mpr (h b (List.mem_cons_of_mem _ hb))
    rw [List.length_erase_of_mem ha] at this
    have := List.length_pos_of_mem ha
    simp only [List.length_cons]
    omega
def met (G : Nat → List Edg) : Nat → List Nat → Nat → List Nat
  | 0, row, _ => row
  | f + 1, row, a => match row[a]? with
    | none => row
    | some k => met G f (firstsF row ((G k).map (·.2))) (a + 1)
structure MetOk (G : Nat → List Edg) (n : Nat) (row : List Nat) (a : Nat) : Prop where
  nd : row.Nodup
  lt : ∀ x ∈ row, x < n
  zero : row[0]? = some 0
  al : a ≤ row.length
  cl : ∀ i k, i < a → row[i]? = some k → ∀ e ∈ G k, e.2 ∈ row
  pre : ∀ i k, row[i]? = some k → 0 < i → ∃ j k', j < i ∧ row[j]? = some k' ∧ ∃ e ∈ G k', e.2 = k
section
variable {G : Nat → List Edg} {n : Nat}
end
section
variable {G : Nat → List Edg} {n : Nat}
end
end Lz
namespace Lz
open PySem PySem.Spec PyProof.Rows L2
section
variable {α β : Type} [DecidableEq α] [DecidableEq β]
theorem firstsF_all : ∀ {xs acc : List α}, (firstsF acc xs).length = acc.length + xs.length → xs.Nodup ∧ ∀ x ∈ xs, x ∉ acc
  | [], _, _ => ⟨List.nodup_nil, fun x h => by cases h⟩
  | x :: xs, acc, h => by
    have e : firstsF acc (x :: xs) = firstsF (addN acc x) xs := rfl
    rw [e, List.length_cons] at h
    have h1 := firstsF_len xs (addN acc x)
    by_cases q : x ∈ acc
    · have ea : addN acc x = acc := if_pos q
      rw [ea] at h h1
      omega
    · have ea : addN acc x = acc ++ [x] := if_neg q
      rw [ea] at h
      have h' : (firstsF (acc ++ [x]) xs).length = (acc ++ [x]).length + xs.length := by rw [h, List.length_append]; simp; omega
      obtain ⟨g1, g2⟩ := firstsF_all h'
      refine ⟨List.nodup_cons.mpr ⟨fun hx => g2 x hx (by simp), g1⟩, fun y hy => ?_⟩
      rcases List.mem_cons.mp hy with rfl | hy
      · exact q
      · exact fun ha => g2 y hy (by simp [ha])
theorem cover_nodup {l l' : List α} (h : l'.Nodup) (hs : ∀ a ∈ l', a ∈ l) (hl : l.length ≤ l'.length) : l.Nodup := by
  have h1 : l'.length ≤ (firsts l).length := nd_sub_len h fun a ha => firsts_mem.mpr (hs a ha)
  have h2 := firstsF_len l []
  have h3 : (firsts l).length = ([] : List α).length + l.length := by
    unfold firsts at h1 ⊢
    simp at h2 ⊢
    omega
  exact (firstsF_all h3).1
/-- how many are told apart -/
def dC (xs : List α) : Nat := (firsts xs).length
theorem dC_map {f : α → β} {xs : List α} (inj : ∀ a ∈ xs, ∀ b ∈ xs, f a = f b → a = b) : dC (xs.map f) = dC xs := by
  unfold dC
  apply Nat.le_antisymm
  · have : (firsts (xs.map f)).length ≤ ((firsts xs).map f).length := nd_sub_len (firsts_nodup _) fun b hb => by
      obtain ⟨a, ha, rfl⟩ := List.mem_map.mp (firsts_mem.mp hb)
      exact List.mem_map.mpr ⟨a, firsts_mem.mpr ha, rfl⟩
    rw [List.length_map] at this
    exact this
  · have nd : ((firsts xs).map f).Nodup := by
      have h := firsts_nodup xs
      have hm : ∀ a ∈ firsts xs, a ∈ xs := fun a h => firsts_mem.mp h
      generalize firsts xs = l at h hm
      induction l with
      | nil => simp
      | cons a l ih =>
        obtain ⟨n1, n2⟩ := List.nodup_cons.mp h
        rw [List.map_cons, List.nodup_cons]
        refine ⟨fun hx => ?_, ih n2 fun b hb => hm b (List.mem_cons_of_mem _ hb)⟩
        obtain ⟨b, hb, e⟩ := List.mem_map.mp hx
        have := inj b (hm b (List.mem_cons_of_mem _ hb)) a (hm a List.mem_cons_self) e
        subst this
        exact n1 hb
    have : ((firsts xs).map f).length ≤ (firsts (xs.map f)).length := nd_sub_len nd fun b hb => by
      obtain ⟨a, ha, rfl⟩ := List.mem_map.mp hb
      exact firsts_mem.mpr (List.mem_map.mpr ⟨a, firsts_mem.mp ha, rfl⟩)
    rw [List.length_map] at this
    exact this
theorem dC_num (xs : List α) : dC (numOf xs) = dC xs := by
  unfold numOf
  exact dC_map fun a ha b hb e => ixOf_inj (firsts_mem.mpr ha) (firsts_mem.mpr hb) e
theorem dC_le (xs : List α) : dC xs ≤ xs.length := by
  have := firstsF_len xs []
  unfold dC firsts
  simp at this ⊢
  omega
/-- the finer row has no less -/
theorem dC_fst (xs : List (α × β)) : dC (xs.map (·.1)) ≤ dC xs := by
  unfold dC
  have : (firsts (xs.map (·.1))).length ≤ ((firsts xs).map (·.1)).length := nd_sub_len (firsts_nodup _) fun b hb => by
    obtain ⟨a, ha, rfl⟩ := List.mem_map.mp (firsts_mem.mp hb)
    exact List.mem_map.mpr ⟨a, firsts_mem.mpr ha, rfl⟩
  rw [List.length_map] at this
  exact this
/-- where it has no more, the first part tells all -/
theorem dC_stable {xs : List (α × β)} (h : dC xs = dC (xs.map (·.1))) {p q : α × β} (hp : p ∈ xs) (hq : q ∈ xs) (e : p.1 = q.1) : p = q := by
  have nd : ((firsts xs).map (·.1)).Nodup := by
    refine cover_nodup (l' := firsts (xs.map (·.1))) (firsts_nodup _) (fun b hb => ?_) ?_
    · obtain ⟨a, ha, rfl⟩ := List.mem_map.mp (firsts_mem.mp hb)
      exact List.mem_map.mpr ⟨a, firsts_mem.mpr ha, rfl⟩
    · rw [List.length_map]
      unfold dC at h
      omega
  have hp := firsts_mem.mpr hp
  have hq := firsts_mem.mpr hq
  generalize firsts xs = l at nd hp hq
  induction l with
  | nil => cases hp
  | cons a l ih =>
    rw [List.map_cons] at nd
    obtain ⟨n1, n2⟩ := List.nodup_cons.mp nd
    rcases List.mem_cons.mp hp with hpa | hpl
    · rcases List.mem_cons.mp hq with hqa | hql
      · rw [hpa, hqa]
      · rw [← hpa, e] at n1
        exact absurd (List.mem_map_of_mem hql) n1
    · rcases List.mem_cons.mp hq with hqa | hql
      · rw [← hqa, ← e] at n1
        exact absurd (List.mem_map_of_mem hpl) n1
      · exact ih n2 hpl hql
end
def rowM (M : Mach) (k : Nat) : List (List Bool × Nat) := M.getD k []
def outM (M : Mach) (k : Nat) : List (List Bool) := (rowM M k).map (·.1)
def toM (M : Mach) (k : Nat) : List Nat := (rowM M k).map (·.2)
def clA (c : List Nat) (k : Nat) : Nat := c.getD k 0
/-- stands that are never told apart -/
structure Bis (M : Mach) (B : Nat → Nat → Prop) : Prop where
  lt : ∀ k k', B k k' → k < M.length ∧ k' < M.length
  out : ∀ k k', B k k' → outM M k = outM M k'
  nx : ∀ k k', B k k' → ∀ j, j < (toM M k).length → B ((toM M k).getD j 0) ((toM M k').getD j 0)
def keyL (M : Mach) (c : List Nat) : List (Nat × List Nat) := (List.range M.length).map fun k => (clA c k, (toM M k).map (clA c))
def refS (M : Mach) (c : List Nat) : List Nat := numOf (keyL M c)
/-- classes on the way -/
structure ClsI (M : Mach) (c : List Nat) : Prop where
  len : c.length = M.length
  out : ∀ k k', k < M.length → k' < M.length → clA c k = clA c k' → outM M k = outM M k'
  coarse : ∀ B, Bis M B → ∀ k k', B k k' → clA c k = clA c k'
/-- classes at the end -/
structure Cls (M : Mach) (c : List Nat) : Prop extends ClsI M c where
  st : ∀ k k', k < M.length → k' < M.length → clA c k = clA c k' → (toM M k).map (clA c) = (toM M k').map (clA c)
theorem keyL_len (M : Mach) (c : List Nat) : (keyL M c).length = M.length := by simp [keyL]
theorem keyL_at {M : Mach} {c : List Nat} {k : Nat} (h : k < M.length) : (keyL M c)[k]'(by rw [keyL_len]; exact h) = (clA c k, (toM M k).map (clA c)) := by simp [keyL]
theorem ref_eq {M : Mach} {c : List Nat} {k k' : Nat} (h : k < M.length) (h' : k' < M.length) : clA (refS M c) k = clA (refS M c) k' ↔ (clA c k = clA c k' ∧ (toM M k).map (clA c) = (toM M k').map (clA c)) := by
  unfold refS clA
  rw [numOf_eq (by rw [keyL_len]; exact h) (by rw [keyL_len]; exact h'), keyL_at h, keyL_at h']
  exact Prod.mk.injEq _ _ _ _ ▸ Iff.rfl
def cls0 (M : Mach) : List Nat := numOf (M.map fun st => st.map (·.1))
theorem cls0_ok (M : Mach) : ClsI M (cls0 M) := by
  have e : ∀ k, k < M.length → ∀ k', k' < M.length → (clA (cls0 M) k = clA (cls0 M) k' ↔ outM M k = outM M k') := fun k h k' h' => by
    unfold cls0 clA
    rw [numOf_eq (by simpa using h) (by simpa using h')]
    simp [outM, rowM, List.getD_eq_getElem?_getD, List.getElem?_eq_getElem h, List.getElem?_eq_getElem h']
  refine ⟨by unfold cls0; rw [numOf_len]; simp, fun k k' h h' q => (e k h k' h').mp q, fun B hB k k' q => ?_⟩
  obtain ⟨h, h'⟩ := hB.lt k k' q
  exact (e k h k' h').mpr (hB.out k k' q)
theorem map_getD {l : List Nat} {f : Nat → Nat} {j : Nat} (h : j < l.length) : (l.map f).getD j 0 = f (l.getD j 0) := by
  simp [List.getD_eq_getElem?_getD, List.getElem?_eq_getElem h]
theorem to_len {M : Mach} {k k' : Nat} (h : outM M k = outM M k') : (toM M k).length = (toM M k').length := by
  have := congrArg List.length h
  simpa [outM, toM] using this
theorem ref_ok {M : Mach} {c : List Nat} (i : ClsI M c) : ClsI M (refS M c) := by
  refine ⟨by unfold refS; rw [numOf_len, keyL_len], fun k k' h h' q => i.out k k' h h' ((ref_eq h h').mp q).1, fun B hB k k' q => ?_⟩
  obtain ⟨h, h'⟩ := hB.lt k k' q
  refine (ref_eq h h').mpr ⟨i.coarse B hB k k' q, ?_⟩
  have hl := to_len (hB.out k k' q)
  apply List.ext_getElem (by simpa using hl)
  intro j h1 h2
  simp only [List.length_map] at h1 h2
  have := i.coarse B hB _ _ (hB.nx k k' q j h1)
  simp only [List.getElem_map]
  simp only [List.getD_eq_getElem?_getD, List.getElem?_eq_getElem h1, List.getElem?_eq_getElem h2, Option.getD_some] at this
  exact this
theorem key_fst {M : Mach} {c : List Nat} (hc : c.length = M.length) : (keyL M c).map (·.1) = c := by
  unfold keyL
  rw [List.map_map]
  apply List.ext_getElem (by simp [hc])
  intro k h1 h2
  simp [clA, List.getD_eq_getElem?_getD, List.getElem?_eq_getElem h2]
theorem ref_more {M : Mach} {c : List Nat} (hc : c.length = M.length) : dC c ≤ dC (keyL M c) := by
  have := dC_fst (keyL M c)
  rw [key_fst hc] at this
  exact this
theorem ref_cls {M : Mach} {c : List Nat} (hT : ∀ k, k < M.length → ∀ t ∈ toM M k, t < M.length) (i : ClsI M c) (h : dC (keyL M c) = dC c) : Cls M (refS M c) := by
  have hs : dC (keyL M c) = dC ((keyL M c).map (·.1)) := by rw [key_fst i.len, h]
  have key : ∀ k k', k < M.length → k' < M.length → clA c k = clA c k' → clA (refS M c) k = clA (refS M c) k' := fun k k' h1 h2 e => by
    have := dC_stable hs (p := (keyL M c)[k]'(by rw [keyL_len]; exact h1)) (q := (keyL M c)[k']'(by rw [keyL_len]; exact h2)) (List.getElem_mem _) (List.getElem_mem _) (by rw [keyL_at h1, keyL_at h2]; exact e)
    rw [keyL_at h1, keyL_at h2] at this
    injection this with a1 a2
    exact (ref_eq h1 h2).mpr ⟨a1, a2⟩
  refine ⟨ref_ok i, fun k k' h1 h2 e => ?_⟩
  have e2 := ((ref_eq h1 h2).mp e).2
  have hl : (toM M k).length = (toM M k').length := by simpa using congrArg List.length e2
  apply List.ext_getElem (by simpa using hl)
  intro j g1 g2
  simp only [List.length_map] at g1 g2
  have g3 : ((toM M k).map (clA c))[j]'(by simpa using g1) = ((toM M k').map (clA c))[j]'(by simpa using g2) := List.getElem_of_eq e2 _
  simp only [List.getElem_map] at g3 ⊢
  exact key _ _ (hT k h1 _ (List.getElem_mem g1)) (hT k' h2 _ (List.getElem_mem g2)) g3
end Lz
namespace Lz
open PySem PySem.Spec PyProof.Rows L2
section
variable (c : List Nat) (M : Mach)
def addR (S : List Nat) (t : Nat) : List Nat := if clA c t ∈ S.map (clA c) then S else S ++ [t]
def feed (S ts : List Nat) : List Nat := ts.foldl (addR c) S
def stg : Nat → List Nat
  | 0 => [0]
  | i + 1 => if i < (stg i).length then feed c (stg i) (toM M ((stg i).getD i 0)) else stg i
end
section
variable {c : List Nat} {M : Mach}
theorem addR_pre (S : List Nat) (t : Nat) : S <+: addR c S t := by
  unfold addR
  split
  · exact List.prefix_refl _
  · exact List.prefix_append _ _
theorem feed_pre : ∀ (ts S : List Nat), S <+: feed c S ts
  | [], S => List.prefix_refl _
  | t :: ts, S => (addR_pre S t).trans (feed_pre ts (addR c S t))
theorem addR_mem (S : List Nat) (t : Nat) : clA c t ∈ (addR c S t).map (clA c) := by
  unfold addR
  split
  · assumption
  · simp
theorem pre_mem {S S' : List Nat} (h : S <+: S') {x : Nat} (hx : x ∈ S.map (clA c)) : x ∈ S'.map (clA c) := by
  obtain ⟨r, rfl⟩ := h
  rw [List.map_append]
  exact List.mem_append_left _ hx
theorem feed_mem : ∀ (ts S : List Nat), ∀ t ∈ ts, clA c t ∈ (feed c S ts).map (clA c)
  | [], _, _, h => by cases h
  | u :: ts, S, t, h => by
    rcases List.mem_cons.mp h with rfl | h
    · exact pre_mem (feed_pre ts _) (addR_mem S t)
    · exact feed_mem ts _ t h
theorem ixOf_pre {S S' : List Nat} (h : S <+: S') {x : Nat} (hx : x ∈ S.map (clA c)) : ixOf x (S.map (clA c)) = ixOf x (S'.map (clA c)) := by
  obtain ⟨r, rfl⟩ := h
  rw [List.map_append]
  generalize S.map (clA c) = l at hx
  induction l with
  | nil => cases hx
  | cons y l ih =>
    rw [List.cons_append, ixOf, ixOf]
    by_cases q : y = x
    · rw [if_pos q, if_pos q]
    · rw [if_neg q, if_neg q]
      rcases List.mem_cons.mp hx with e | e
      · exact absurd e.symm q
      · rw [ih e]
structure StgOk (c : List Nat) (n : Nat) (S : List Nat) : Prop where
  z : ∃ r, S = 0 :: r
  lt : ∀ s ∈ S, s < n
  nd : (S.map (clA c)).Nodup
theorem addR_ok {n : Nat} {S : List Nat} (h : StgOk c n S) {t : Nat} (ht : t < n) : StgOk c n (addR c S t) := by
  unfold addR
  split
  · exact h
  · rename_i q
    obtain ⟨r, e⟩ := h.z
    refine ⟨⟨r ++ [t], by rw [e]; rfl⟩, fun s hs => ?_, ?_⟩
    · rcases List.mem_append.mp hs with hs | hs
      · exact h.lt s hs
      · rw [List.mem_singleton.mp hs]; exact ht
    · rw [List.map_append]
      refine List.nodup_append.mpr ⟨h.nd, by simp, fun a ha b hb e => ?_⟩
      simp only [List.map_cons, List.map_nil, List.mem_singleton] at hb
      rw [e, hb] at ha
      exact q ha
theorem feed_ok {n : Nat} : ∀ (ts S : List Nat), StgOk c n S → (∀ t ∈ ts, t < n) → StgOk c n (feed c S ts)
  | [], _, h, _ => h
  | t :: ts, S, h, ht => feed_ok ts _ (addR_ok h (ht t List.mem_cons_self)) fun u hu => ht u (List.mem_cons_of_mem _ hu)
theorem nodup_of_map {f : Nat → Nat} : ∀ {l : List Nat}, (l.map f).Nodup → l.Nodup
  | [], _ => List.nodup_nil
  | x :: l, h => by
    rw [List.map_cons] at h
    obtain ⟨h1, h2⟩ := List.nodup_cons.mp h
    exact List.nodup_cons.mpr ⟨fun hx => h1 (List.mem_map_of_mem hx), nodup_of_map h2⟩
theorem StgOk.len {n : Nat} {S : List Nat} (h : StgOk c n S) : S.length ≤ n := by
  have := nd_sub_len (nodup_of_map h.nd) (r := List.range n) fun s hs => List.mem_range.mpr (h.lt s hs)
  simpa using this
variable (hn : 0 < M.length) (hT : ∀ k, k < M.length → ∀ t ∈ toM M k, t < M.length)
include hn hT
theorem stg_ok : ∀ i, StgOk c M.length (stg c M i)
  | 0 => ⟨⟨[], rfl⟩, fun s hs => by rw [show stg c M 0 = [0] from rfl] at hs; rw [List.mem_singleton.mp hs]; exact hn, by show ([clA c 0]).Nodup; simp⟩
  | i + 1 => by
    have ih := stg_ok i
    unfold stg
    split
    · rename_i h
      refine feed_ok _ _ ih (hT _ (ih.lt _ ?_))
      rw [List.getD_eq_getElem?_getD, List.getElem?_eq_getElem h]
      exact List.getElem_mem h
    · exact ih
omit hn hT in
theorem stg_pre1 (i : Nat) : stg c M i <+: stg c M (i + 1) := by
  show _ <+: (if i < (stg c M i).length then feed c (stg c M i) (toM M ((stg c M i).getD i 0)) else stg c M i)
  split
  · exact feed_pre _ _
  · exact List.prefix_refl _
omit hn hT in
theorem stg_pre (i : Nat) : ∀ d, stg c M i <+: stg c M (i + d)
  | 0 => List.prefix_refl _
  | d + 1 => (stg_pre i d).trans (stg_pre1 (i + d))
/-- when all are met -/
theorem stg_end : ∃ m, 0 < m ∧ (stg c M m).length = m ∧ ∀ i, i < m → i < (stg c M i).length := by
  have ex : ∃ i, (stg c M i).length ≤ i := ⟨M.length, (stg_ok hn hT M.length).len⟩
  have least : ∀ k, (∃ i, i ≤ k ∧ (stg c M i).length ≤ i) → ∃ m, (stg c M m).length ≤ m ∧ ∀ i, i < m → ¬ (stg c M i).length ≤ i := by
    intro k
    induction k with
    | zero => rintro ⟨i, h1, h2⟩; exact ⟨i, h2, fun j hj => by omega⟩
    | succ k ih =>
      rintro ⟨i, h1, h2⟩
      by_cases q : ∃ i, i ≤ k ∧ (stg c M i).length ≤ i
      · exact ih q
      · exact ⟨i, h2, fun j hj hj2 => q ⟨j, by omega, hj2⟩⟩
  obtain ⟨i, hi⟩ := ex
  obtain ⟨m, h1, h2⟩ := least i ⟨i, Nat.le_refl _, hi⟩
  have h0 : (stg c M 0).length = 1 := rfl
  have hm : 0 < m := by
    rcases Nat.eq_zero_or_pos m with e | e
    · subst e; omega
    · exact e
  refine ⟨m, hm, ?_, fun i hi => by have := h2 i hi; omega⟩
  have h3 := h2 (m - 1) (by omega)
  have h4 := (stg_pre1 (c := c) (M := M) (m - 1)).length_le
  rw [show m - 1 + 1 = m by omega] at h4
  omega
end
/-- the least machine -/
def lesM (c : List Nat) (M : Mach) (S : List Nat) : Mach := S.map fun s => (rowM M s).map fun pr => (pr.1, ixOf (clA c pr.2) (S.map (clA c)))
structure Fin (c : List Nat) (M : Mach) (m : Nat) (S : List Nat) : Prop where
  ok : StgOk c M.length S
  len : S.length = m
  e : S = stg c M m
  up : ∀ i, i < m → i < (stg c M i).length
  pre : ∀ i, i ≤ m → stg c M i <+: S
  at_ : ∀ i, i < m → (stg c M i).getD i 0 = S.getD i 0
  cl : ∀ i, i < m → ∀ t ∈ toM M (S.getD i 0), clA c t ∈ S.map (clA c)
  m0 : 0 < m
theorem fin_ex {c : List Nat} {M : Mach} (hn : 0 < M.length) (hT : ∀ k, k < M.length → ∀ t ∈ toM M k, t < M.length) : ∃ m S, Fin c M m S := by
  obtain ⟨m, h0, h1, h2⟩ := stg_end (c := c) hn hT
  have pre : ∀ i, i ≤ m → stg c M i <+: stg c M m := fun i hi => by
    have := stg_pre (c := c) (M := M) i (m - i)
    rw [show i + (m - i) = m by omega] at this
    exact this
  have at_ : ∀ i, i < m → (stg c M i).getD i 0 = (stg c M m).getD i 0 := fun i hi => by
    obtain ⟨r, e⟩ := pre i (Nat.le_of_lt hi)
    rw [← e, List.getD_eq_getElem?_getD, List.getD_eq_getElem?_getD, List.getElem?_append_left (h2 i hi)]
  refine ⟨m, stg c M m, stg_ok hn hT m, h1, rfl, h2, pre, at_, fun i hi t ht => ?_, h0⟩
  rw [← at_ i hi] at ht
  have h3 := feed_mem (c := c) (toM M ((stg c M i).getD i 0)) (stg c M i) t ht
  have e : stg c M (i + 1) = feed c (stg c M i) (toM M ((stg c M i).getD i 0)) := by
    show (if i < (stg c M i).length then _ else _) = _
    rw [if_pos (h2 i hi)]
  rw [← e] at h3
  exact pre_mem (pre (i + 1) hi) h3
end Lz
namespace Lz
open PySem PySem.Spec PyProof.Rows L2
theorem ixOf_nd {l : List Nat} (h : l.Nodup) {i : Nat} (hi : i < l.length) : ixOf (l.getD i 0) l = i := by
  rw [List.getD_eq_getElem?_getD, List.getElem?_eq_getElem hi]
  exact ixOf_range hi h
theorem ixOf_gg {l : List Nat} {x : Nat} (h : x ∈ l) : l.getD (ixOf x l) 0 = x := by
  induction l with
  | nil => cases h
  | cons y l ih =>
    rw [ixOf]
    by_cases q : y = x
    · rw [if_pos q]; simpa using q
    · rw [if_neg q]
      rcases List.mem_cons.mp h with e | e
      · exact absurd e.symm q
      · rw [List.getD_cons_succ]; exact ih e
section
variable {c : List Nat} {M : Mach} {m : Nat} {S : List Nat} (hC : Cls M c) (hF : Fin c M m S) (hT : ∀ k, k < M.length → ∀ t ∈ toM M k, t < M.length)
/-- the stand of the least machine that k goes to -/
def hm (c : List Nat) (S : List Nat) (k : Nat) : Nat := ixOf (clA c k) (S.map (clA c))
include hF
theorem S_at {i : Nat} (hi : i < m) : S.getD i 0 < M.length ∧ S.getD i 0 ∈ S := by
  have h : i < S.length := by rw [hF.len]; exact hi
  have e : S.getD i 0 = S[i] := by rw [List.getD_eq_getElem?_getD, List.getElem?_eq_getElem h]; rfl
  rw [e]
  exact ⟨hF.ok.lt _ (List.getElem_mem h), List.getElem_mem h⟩
theorem hm_S {i : Nat} (hi : i < m) : hm c S (S.getD i 0) = i := by
  have h : i < (S.map (clA c)).length := by rw [List.length_map, hF.len]; exact hi
  have := ixOf_nd hF.ok.nd h
  unfold hm
  rw [map_getD (by rw [hF.len]; exact hi)] at this
  exact this
theorem hm_lt {k : Nat} (h : clA c k ∈ S.map (clA c)) : hm c S k < m := by
  have := ixOf_lt h
  rw [List.length_map, hF.len] at this
  exact this
theorem hm_cl {k : Nat} (h : clA c k ∈ S.map (clA c)) : clA c (S.getD (hm c S k) 0) = clA c k := by
  have e : (S.map (clA c)).getD (hm c S k) 0 = clA c k := ixOf_gg h
  have hl := hm_lt hF h
  rw [map_getD (by rw [hF.len]; exact hl)] at e
  exact e
theorem les_len : (lesM c M S).length = m := by unfold lesM; rw [List.length_map, hF.len]
theorem les_row {i : Nat} (hi : i < m) : rowM (lesM c M S) i = (rowM M (S.getD i 0)).map fun pr => (pr.1, hm c S pr.2) := by
  have h : i < S.length := by rw [hF.len]; exact hi
  unfold lesM rowM
  rw [List.getD_eq_getElem?_getD, List.getElem?_map, List.getElem?_eq_getElem h, List.getD_eq_getElem?_getD (l := S), List.getElem?_eq_getElem h]
  rfl
theorem les_out {i : Nat} (hi : i < m) : outM (lesM c M S) i = outM M (S.getD i 0) := by
  unfold outM
  rw [les_row hF hi, List.map_map]
  rfl
theorem les_to {i : Nat} (hi : i < m) : toM (lesM c M S) i = (toM M (S.getD i 0)).map (hm c S) := by
  unfold toM
  rw [les_row hF hi, List.map_map, List.map_map]
  rfl
theorem les_lt {i : Nat} (hi : i < m) : ∀ t ∈ toM (lesM c M S) i, t < m := fun t ht => by
  rw [les_to hF hi] at ht
  obtain ⟨u, hu, rfl⟩ := List.mem_map.mp ht
  exact hm_lt hF (hF.cl i hi u hu)
include hC
/-- k and the stand it goes to are alike -/
theorem les_same {k : Nat} (hk : k < M.length) (h : clA c k ∈ S.map (clA c)) : outM (lesM c M S) (hm c S k) = outM M k ∧ toM (lesM c M S) (hm c S k) = (toM M k).map (hm c S) ∧ ∀ t ∈ toM M k, clA c t ∈ S.map (clA c) := by
  have hl := hm_lt hF h
  have he := hm_cl hF h
  obtain ⟨s1, s2⟩ := S_at hF hl
  have st := hC.st _ _ s1 hk he
  refine ⟨by rw [les_out hF hl]; exact hC.out _ _ s1 hk he, ?_, fun t ht => ?_⟩
  · rw [les_to hF hl]
    have e : ∀ l : List Nat, l.map (hm c S) = (l.map (clA c)).map fun x => ixOf x (S.map (clA c)) := fun l => by rw [List.map_map]; rfl
    rw [e, e, st]
  · have h1 : clA c t ∈ (toM M (S.getD (hm c S k) 0)).map (clA c) := by rw [st]; exact List.mem_map_of_mem ht
    obtain ⟨u, hu, e⟩ := List.mem_map.mp h1
    rw [← e]
    exact hF.cl _ hl u hu
include hT
/-- no two stands of the least machine are alike -/
theorem les_bis {B : Nat → Nat → Prop} (hB : Bis (lesM c M S) B) {i i' : Nat} (h : B i i') : i = i' := by
  obtain ⟨l1, l2⟩ := hB.lt i i' h
  rw [les_len hF] at l1 l2
  have bis : Bis M fun k k' => k < M.length ∧ k' < M.length ∧ clA c k ∈ S.map (clA c) ∧ clA c k' ∈ S.map (clA c) ∧ B (hm c S k) (hm c S k') := by
    refine ⟨fun k k' q => ⟨q.1, q.2.1⟩, fun k k' ⟨h1, h2, h3, h4, h5⟩ => ?_, fun k k' ⟨h1, h2, h3, h4, h5⟩ j hj => ?_⟩
    · rw [← (les_same hC hF h1 h3).1, ← (les_same hC hF h2 h4).1]
      exact hB.out _ _ h5
    · obtain ⟨a1, a2, a3⟩ := les_same hC hF h1 h3
      obtain ⟨b1, b2, b3⟩ := les_same hC hF h2 h4
      have hb := hB.nx _ _ h5 j (by rw [a2, List.length_map]; exact hj)
      have hl : (toM M k).length = (toM M k').length := by
        have := to_len (hB.out _ _ h5)
        rw [a2, b2, List.length_map, List.length_map] at this
        exact this
      rw [a2, b2, map_getD hj, map_getD (by omega)] at hb
      have m1 : (toM M k).getD j 0 ∈ toM M k := by rw [List.getD_eq_getElem?_getD, List.getElem?_eq_getElem hj]; exact List.getElem_mem hj
      have m2 : (toM M k').getD j 0 ∈ toM M k' := by rw [List.getD_eq_getElem?_getD, List.getElem?_eq_getElem (by omega)]; exact List.getElem_mem (by omega)
      exact ⟨hT k h1 _ m1, hT k' h2 _ m2, a3 _ m1, b3 _ m2, hb⟩
  obtain ⟨s1, s2⟩ := S_at hF l1
  obtain ⟨s3, s4⟩ := S_at hF l2
  have := hC.coarse _ bis (S.getD i 0) (S.getD i' 0) ⟨s1, s3, List.mem_map_of_mem s2, List.mem_map_of_mem s4, by rw [hm_S hF l1, hm_S hF l2]; exact h⟩
  have e1 := hm_S hF l1
  have e2 := hm_S hF l2
  unfold hm at e1 e2
  rw [this] at e1
  omega
omit hC hT in
/-- as the least machine is walked, its stands come in order -/
theorem feed_hm : ∀ (ts cur : List Nat), cur <+: S → feed c cur ts <+: S → (∀ t ∈ ts, clA c t ∈ S.map (clA c)) →
    (ts.map (hm c S)).foldl (fun r t => if t ∈ r then r else r ++ [t]) (List.range cur.length) = List.range (feed c cur ts).length
  | [], cur, _, _, _ => rfl
  | t :: ts, cur, h1, h2, h3 => by
    have p1 : addR c cur t <+: S := (feed_pre ts _).trans h2
    have ih := feed_hm ts (addR c cur t) p1 h2 fun u hu => h3 u (List.mem_cons_of_mem _ hu)
    rw [List.map_cons, List.foldl_cons]
    have ht := h3 t List.mem_cons_self
    have key : (if hm c S t ∈ List.range cur.length then List.range cur.length else List.range cur.length ++ [hm c S t]) = List.range (addR c cur t).length := by
      by_cases q : clA c t ∈ cur.map (clA c)
      · have e := ixOf_pre h1 q
        have : hm c S t < cur.length := by
          unfold hm
          rw [← e]
          have := ixOf_lt q
          rwa [List.length_map] at this
        have ea : addR c cur t = cur := if_pos q
        rw [if_pos (List.mem_range.mpr this), ea]
      · have ea : addR c cur t = cur ++ [t] := if_neg q
        have e : hm c S t = cur.length := by
          unfold hm
          rw [ea] at p1
          rw [← ixOf_pre p1 (by simp)]
          rw [List.map_append, List.map_singleton, ixOf_snoc q, List.length_map]
        rw [if_neg (by rw [e]; simp), ea, e, List.length_append]
        exact List.range_succ.symm
    rw [key]
    exact ih
end
end Lz
namespace Lz
open PySem PySem.Spec PyProof.Rows L2
section
variable {c : List Nat} {M : Mach} {m : Nat} {S : List Nat} (hC : Cls M c) (hF : Fin c M m S) (hT : ∀ k, k < M.length → ∀ t ∈ toM M k, t < M.length)
include hC hF hT
theorem lesT : ∀ k, k < (lesM c M S).length → ∀ t ∈ toM (lesM c M S) k, t < (lesM c M S).length := by
  intro k hk t ht
  rw [les_len hF] at hk ⊢
  exact les_lt hF hk t ht
/-- the least machine's own classes tell all its stands apart -/
theorem les_inj {d : List Nat} (hD : Cls (lesM c M S) d) {i i' : Nat} (hi : i < m) (hi' : i' < m) (e : clA d i = clA d i') : i = i' := by
  have hl := les_len hF
  have hT2 := lesT hC hF hT
  refine les_bis hC hF hT (B := fun a b => a < m ∧ b < m ∧ clA d a = clA d b) ⟨fun a b h => by rw [hl]; exact ⟨h.1, h.2.1⟩, fun a b h => ?_, fun a b ⟨h1, h2, h3⟩ j hj => ?_⟩ ⟨hi, hi', e⟩
  · exact hD.out a b (by rw [hl]; exact h.1) (by rw [hl]; exact h.2.1) h.2.2
  · have ho := hD.out a b (by rw [hl]; exact h1) (by rw [hl]; exact h2) h3
    have hs := hD.st a b (by rw [hl]; exact h1) (by rw [hl]; exact h2) h3
    have hlen := to_len ho
    have m1 : (toM (lesM c M S) a).getD j 0 ∈ toM (lesM c M S) a := by rw [List.getD_eq_getElem?_getD, List.getElem?_eq_getElem hj]; exact List.getElem_mem hj
    have m2 : (toM (lesM c M S) b).getD j 0 ∈ toM (lesM c M S) b := by rw [List.getD_eq_getElem?_getD, List.getElem?_eq_getElem (by omega)]; exact List.getElem_mem (by omega)
    have b1 := hT2 a (by rw [hl]; exact h1) _ m1
    have b2 := hT2 b (by rw [hl]; exact h2) _ m2
    rw [hl] at b1 b2
    refine ⟨b1, b2, ?_⟩
    have : ((toM (lesM c M S) a).map (clA d)).getD j 0 = ((toM (lesM c M S) b).map (clA d)).getD j 0 := by rw [hs]
    rw [map_getD hj, map_getD (by omega)] at this
    exact this
theorem feed_inj {d : List Nat} (inj : ∀ i, i < m → ∀ i', i' < m → clA d i = clA d i' → i = i') : ∀ (ts R : List Nat), (∀ t ∈ ts, t < m) → (∀ t ∈ R, t < m) → feed d R ts = ts.foldl (fun r t => if t ∈ r then r else r ++ [t]) R
  | [], _, _, _ => rfl
  | t :: ts, R, h1, h2 => by
    have ht := h1 t List.mem_cons_self
    have e : addR d R t = if t ∈ R then R else R ++ [t] := by
      unfold addR
      by_cases q : t ∈ R
      · rw [if_pos q, if_pos (List.mem_map_of_mem q)]
      · rw [if_neg q, if_neg fun hx => ?_]
        obtain ⟨u, hu, eu⟩ := List.mem_map.mp hx
        have := inj u (h2 u hu) t ht eu
        subst this
        exact q hu
    show feed d (addR d R t) ts = _
    rw [List.foldl_cons, ← e]
    refine feed_inj inj ts _ (fun u hu => h1 u (List.mem_cons_of_mem _ hu)) fun u hu => ?_
    rw [e] at hu
    by_cases q : t ∈ R
    · rw [if_pos q] at hu; exact h2 u hu
    · rw [if_neg q] at hu
      rcases List.mem_append.mp hu with hu | hu
      · exact h2 u hu
      · rw [List.mem_singleton.mp hu]; exact ht
theorem stg_les {d : List Nat} (inj : ∀ i, i < m → ∀ i', i' < m → clA d i = clA d i' → i = i') : ∀ i, i ≤ m → stg d (lesM c M S) i = List.range (stg c M i).length
  | 0, _ => rfl
  | i + 1, hi => by
    have ih := stg_les inj i (by omega)
    have hi' : i < m := hi
    have hu := hF.up i hi'
    have e1 : stg c M (i + 1) = feed c (stg c M i) (toM M ((stg c M i).getD i 0)) := by
      show (if i < (stg c M i).length then _ else _) = _
      rw [if_pos hu]
    have e2 : stg d (lesM c M S) (i + 1) = feed d (List.range (stg c M i).length) (toM (lesM c M S) i) := by
      show (if i < (stg d (lesM c M S) i).length then feed d (stg d (lesM c M S) i) (toM (lesM c M S) ((stg d (lesM c M S) i).getD i 0)) else _) = _
      rw [ih, if_pos (by simpa using hu)]
      have : (List.range (stg c M i).length).getD i 0 = i := by simp [List.getD_eq_getElem?_getD, hu]
      rw [this]
    have lc := (hF.pre i (by omega)).length_le
    rw [hF.len] at lc
    rw [e1, e2, hF.at_ i hi', feed_inj hC hF hT inj _ _ (les_lt hF hi') (fun t ht => by have := List.mem_range.mp ht; omega), les_to hF hi']
    refine feed_hm hF _ _ (hF.pre i (by omega)) ?_ (hF.cl i hi')
    have := hF.pre (i + 1) hi
    rw [e1, hF.at_ i hi'] at this
    exact this
theorem les_les {d : List Nat} (hD : Cls (lesM c M S) d) {m' : Nat} {S' : List Nat} (hF' : Fin d (lesM c M S) m' S') : lesM d (lesM c M S) S' = lesM c M S := by
  have inj : ∀ i, i < m → ∀ i', i' < m → clA d i = clA d i' → i = i' := fun i hi i' hi' e => les_inj hC hF hT hD hi hi' e
  have hl := les_len hF
  have sg := stg_les hC hF hT inj
  have hm' : m' = m := by
    rcases Nat.lt_trichotomy m' m with q | q | q
    · have h1 := sg m' (by omega)
      rw [← hF'.e] at h1
      have h2 := hF'.len
      rw [h1, List.length_range] at h2
      have := hF.up m' q
      omega
    · exact q
    · have h1 := hF'.up m q
      rw [sg m (Nat.le_refl _), List.length_range, ← hF.e, hF.len] at h1
      omega
  subst hm'
  have hS : S' = List.range m' := by
    rw [hF'.e, sg m' (Nat.le_refl _), ← hF.e, hF.len]
  have nd : ((List.range m').map (clA d)).Nodup := by rw [← hS]; exact hF'.ok.nd
  have ix : ∀ t, t < m' → ixOf (clA d t) ((List.range m').map (clA d)) = t := fun t ht => by
    have h : t < ((List.range m').map (clA d)).length := by simpa using ht
    have := ixOf_nd nd h
    have e : ((List.range m').map (clA d)).getD t 0 = clA d t := by simp [List.getD_eq_getElem?_getD, ht]
    rw [e] at this
    exact this
  have e0 : lesM d (lesM c M S) S' = (List.range m').map fun s => (rowM (lesM c M S) s).map fun pr => (pr.1, ixOf (clA d pr.2) ((List.range m').map (clA d))) := by rw [hS]; rfl
  rw [e0]
  apply List.ext_getElem (by rw [List.length_map, List.length_range, hl])
  intro i h1 h2
  rw [List.length_map, List.length_range] at h1
  rw [List.getElem_map, List.getElem_range]
  have er : (lesM c M S)[i] = rowM (lesM c M S) i := by unfold rowM; rw [List.getD_eq_getElem?_getD, List.getElem?_eq_getElem h2]; rfl
  rw [er]
  have : ∀ pr ∈ rowM (lesM c M S) i, pr.2 < m' := fun pr hp => les_lt hF h1 pr.2 (List.mem_map.mpr ⟨pr, hp, rfl⟩)
  generalize rowM (lesM c M S) i = l at this
  induction l with
  | nil => rfl
  | cons pr l ih =>
    rw [List.map_cons, ih fun p hp => this p (List.mem_cons_of_mem _ hp), ix pr.2 (this pr List.mem_cons_self)]
theorem les_mok {f r : Nat} (h : MOk f r M) : MOk f r (lesM c M S) := by
  have hl := les_len hF
  have lm := hF.ok.len
  rw [hF.len] at lm
  have m64 := h.m64
  have row : ∀ st ∈ lesM c M S, ∃ s, s < M.length ∧ ∃ i, i < m ∧ st = rowM (lesM c M S) i ∧ s = S.getD i 0 := fun st hs => by
    obtain ⟨i, hi, e⟩ := List.mem_iff_getElem.mp hs
    have hi' : i < m := by rw [← hl]; exact hi
    refine ⟨_, (S_at hF hi').1, i, hi', ?_, rfl⟩
    unfold rowM
    rw [List.getD_eq_getElem?_getD, List.getElem?_eq_getElem hi]
    exact e.symm
  have inM : ∀ {s : Nat}, s < M.length → rowM M s ∈ M := fun {s} hs => by
    unfold rowM
    rw [List.getD_eq_getElem?_getD, List.getElem?_eq_getElem hs]
    exact List.getElem_mem hs
  refine ⟨by rw [hl]; exact hF.m0, by omega, fun st hs => ?_, fun st hs pr hp => ?_⟩
  · obtain ⟨s, h1, i, hi, e, es⟩ := row st hs
    rw [e, les_row hF hi, List.length_map, ← es]
    exact h.sl _ (inM h1)
  · obtain ⟨s, h1, i, hi, e, es⟩ := row st hs
    have hp2 := hp
    rw [e] at hp2
    refine ⟨?_, by rw [hl]; exact les_lt hF hi pr.2 (List.mem_map.mpr ⟨pr, hp2, rfl⟩)⟩
    rw [les_row hF hi, ← es] at hp2
    obtain ⟨q, hq, rfl⟩ := List.mem_map.mp hp2
    exact (h.pl _ (inM h1) q hq).1
end
end Lz
namespace Lz
open PySem PySem.Spec PyProof.Rows L2
theorem natQ (x y : Nat) : eqD (.int x) (.int y) = some (decide (x = y)) := PT.nat.eqD (by decide) x y
def intL (c : List Nat) : D := .lst (c.map fun k : Nat => D.int k)
theorem intL_at {c : List Nat} {k : Nat} (h : k < c.length) : opIx (intL c) (.int k) = some (false, .int (clA c k : Nat)) := by
  unfold intL clA
  rw [opIx_lst, atI_lt (by simpa using h)]
  simp [List.getD_eq_getElem?_getD, h]
theorem mach_at {M : Mach} {k : Nat} (h : k < M.length) : opIx (machD M) (.int k) = some (false, standD (rowM M k)) := by
  unfold machD rowM
  rw [opIx_tup, atI_lt (by simpa using h)]
  simp [List.getD_eq_getElem?_getD, h]
def key0D (l : List (List Bool)) : D := .tup (l.map fun s => D.tup (s.map D.bl))
theorem key0_NK : NK key0D (fun l => .tup (l.map fun s => .tup (s.map fun b => .num (if b = true then 1 else 0)))) := (NKD.bl.tup.tup).key (by decide) fun a => ⟨_, rfl⟩
def keyD (k : Nat × List Nat) : D := .tup [.int k.1, .tup (k.2.map fun x : Nat => D.int x)]
theorem key_NK : NK keyD (fun x => .tup [.num x.1, .tup (x.2.map fun k : Nat => .num k)]) := ((NKD.nat.mono (by decide : 0 ≤ 1)).pair NKD.nat.tup).key (by decide) fun a => ⟨_, rfl⟩
section
variable {M : Mach} {o : Bool}
theorem lo_keys {y1 y2 y5 y6 y7 y8 y9 y10 y11 y12 y13 : Option T} : compL [3] (gN 3) cT b_lesser_of_C1 (M.map standD) [some (o, machD M), y1, y2, none, none, y5, y6, y7, y8, y9, y10, y11, y12, y13] =
    .ok ((M.map fun st => st.map (·.1)).map key0D) [some (o, machD M), y1, y2, none, none, y5, y6, y7, y8, y9, y10, y11, y12, y13] := by
  rw [List.map_map]
  exact compL_m fun st hs => by
    have hc : compL [4] (gN 4) cT (sBin opIx (sVar 4) (sC (.int 0))) (st.map pairD) [some (o, machD M), y1, y2, some (false, standD st), none, y5, y6, y7, y8, y9, y10, y11, y12, y13] =
        .ok (st.map fun pr => D.tup (pr.1.map D.bl)) [some (o, machD M), y1, y2, some (false, standD st), none, y5, y6, y7, y8, y9, y10, y11, y12, y13] :=
      compL_m fun pr hp => by
        have s1 : opIx (pairD pr) (.int 0) = some (false, setD pr.1) := rfl
        exact ⟨_, false, rfl, rfl, by simp [s1, setD]⟩
    have e : key0D (st.map (·.1)) = .tup (st.map fun pr => D.tup (pr.1.map D.bl)) := by unfold key0D; rw [List.map_map]; rfl
    refine ⟨_, false, rfl, rfl, ?_⟩
    show _ = R.ok (XV.v false (key0D (st.map (·.1)))) _
    rw [e]
    have es : standD st = .tup (st.map pairD) := rfl
    rw [es] at hc ⊢
    generalize (st.map fun pr => D.tup (pr.1.map D.bl)) = OL at *
    generalize st.map pairD = PL at *
    simp [b_lesser_of_C1, hc]
variable (hT : ∀ k, k < M.length → ∀ t ∈ toM M k, t < M.length) (hs : M.length ≤ 1000)
include hT hs
theorem lo_inner {c : List Nat} (hc : c.length = M.length) {y2 y5 y8 y9 y10 y11 y12 y13 : Option T} : ∀ (n a : Nat) (acc : List (Nat × List Nat)) (x7 : Option T), a + n = M.length → acc.length = a →
    ∃ y7, forL (gN 7) b_lesser_of_L1 (rngL a 1 n) [some (o, machD M), some (false, intL c), y2, none, none, y5, some (true, .lst (acc.map keyD)), x7, y8, y9, y10, y11, y12, y13] =
      .ok .nx [some (o, machD M), some (false, intL c), y2, none, none, y5, some (true, .lst ((acc ++ (List.range' a n).map fun k => (clA c k, (toM M k).map (clA c))).map keyD)), y7, y8, y9, y10, y11, y12, y13]
  | 0, a, acc, x7, _, _ => ⟨x7, by simp [rngL]⟩
  | n + 1, a, acc, x7, ha, hl => by
    obtain ⟨y7, q⟩ := lo_inner hc (y2 := y2) (y5 := y5) (y8 := y8) (y9 := y9) (y10 := y10) (y11 := y11) (y12 := y12) (y13 := y13) n (a + 1) (acc ++ [(clA c a, (toM M a).map (clA c))]) (some (false, .int a)) (by omega) (by rw [List.length_append]; simp; omega)
    refine ⟨y7, ?_⟩
    have ek : a < M.length := by omega
    have h1 := intL_at (c := c) (k := a) (by omega)
    have h2 := mach_at ek
    have hc2 : compL [4] (gN 4) cT (sBin opIx (sVar 1) (sBin opIx (sVar 4) (sC (.int 1)))) ((rowM M a).map pairD) [some (o, machD M), some (false, intL c), y2, none, none, y5, some (true, .lst (acc.map keyD)), some (false, .int a), y8, y9, y10, y11, y12, y13] =
        .ok ((rowM M a).map fun pr => D.int (clA c pr.2 : Nat)) [some (o, machD M), some (false, intL c), y2, none, none, y5, some (true, .lst (acc.map keyD)), some (false, .int a), y8, y9, y10, y11, y12, y13] :=
      compL_m fun pr hp => by
        have s1 : opIx (pairD pr) (.int 1) = some (false, .int pr.2) := rfl
        have s2 := intL_at (c := c) (k := pr.2) (by rw [hc]; exact hT a ek pr.2 (List.mem_map.mpr ⟨pr, hp, rfl⟩))
        exact ⟨_, false, rfl, rfl, by simp [s1, s2]⟩
    have e1 : acc ++ (List.range' a (n + 1)).map (fun k => (clA c k, (toM M k).map (clA c))) = acc ++ [(clA c a, (toM M a).map (clA c))] ++ (List.range' (a + 1) n).map fun k => (clA c k, (toM M k).map (clA c)) := by
      rw [List.range'_succ, List.map_cons, List.append_assoc]; rfl
    rw [e1, ← q, rngL_cons, Int.natCast_add, Int.natCast_one]
    have hz : acc.length < 16777216 := by omega
    have e2 : keyD (clA c a, (toM M a).map (clA c)) = .tup [.int (clA c a : Nat), .tup ((rowM M a).map fun pr => D.int (clA c pr.2 : Nat))] := by
      unfold keyD toM
      rw [List.map_map, List.map_map]
      rfl
    have e3 : (acc ++ [(clA c a, (toM M a).map (clA c))]).map keyD = acc.map keyD ++ [.tup [.int (clA c a : Nat), .tup ((rowM M a).map fun pr => D.int (clA c pr.2 : Nat))]] := by rw [List.map_append, List.map_singleton, e2]
    rw [e3]
    have es : standD (rowM M a) = .tup ((rowM M a).map pairD) := rfl
    rw [es] at h2
    have la : (acc.map keyD).length = acc.length := List.length_map _
    generalize acc.map keyD = AK at *
    generalize ((rowM M a).map fun pr => D.int (clA c pr.2 : Nat)) = OL at *
    generalize (rowM M a).map pairD = PL at *
    generalize machD M = MD at *
    generalize intL c = IL at *
    cases o <;> simp [b_lesser_of_L1, h1, h2, hc2, la, hz]
theorem lo_step {c : List Nat} (hc : c.length = M.length) (b : Nat) (x6 x7 : Option T) {y8 y9 y10 y11 y12 y13 : Option T} : ∃ y6 y7,
    b_lesser_of_L2 [some (o, machD M), some (false, intL c), some (false, .int (dC c : Nat)), none, none, some (false, .int b), x6, x7, y8, y9, y10, y11, y12, y13] =
      .ok .nx [some (o, machD M), some (false, intL (refS M c)), some (false, .int (dC (refS M c) : Nat)), none, none, some (false, .int (dC c : Nat)), y6, y7, y8, y9, y10, y11, y12, y13] := by
  obtain ⟨y7, q⟩ := lo_inner hT hs (o := o) hc (y2 := some (false, .int (dC c : Nat))) (y5 := some (false, .int (dC c : Nat))) (y8 := y8) (y9 := y9) (y10 := y10) (y11 := y11) (y12 := y12) (y13 := y13) M.length 0 [] x7 (by omega) rfl
  have e0 : ([] : List (Nat × List Nat)) ++ (List.range' 0 M.length).map (fun k => (clA c k, (toM M k).map (clA c))) = keyL M c := by
    rw [List.nil_append, ← List.range_eq_range']; rfl
  rw [e0] at q
  have h1 := numbered_sp key_NK (keyL M c) true (by rw [keyL_len]; omega)
  have e1 : (firsts (keyL M c)).length = dC (refS M c) := (dC_num (keyL M c)).symm
  have e2 : D.lst ((numOf (keyL M c)).map fun k : Nat => D.int k) = intL (refS M c) := rfl
  rw [e1, e2] at h1
  refine ⟨some (true, .lst ((keyL M c).map keyD)), y7, ?_⟩
  have hlen : cfLen [machD M] = some (false, .int M.length) := by unfold machD; simp
  have r1 : (M.length : Int) ≤ 16777216 := by omega
  have z0 : ((0 : Nat) : Int) = 0 := rfl
  rw [z0] at q
  simp only [List.map_nil] at q
  generalize (keyL M c).map keyD = KL at *
  generalize machD M = MD at *
  generalize intL c = IL at *
  generalize intL (refS M c) = IR at *
  cases o <;> simp [b_lesser_of_L2, hlen, r1, q, h1]
theorem lo_ref : ∀ (d : Nat) (c : List Nat) (b : Nat) (x6 x7 : Option T) {y8 y9 y10 y11 y12 y13 : Option T}, ClsI M c → M.length ≤ dC c + d → b ≠ dC c → ∃ c' y5 y6 y7, Cls M c' ∧
    xWU (sB (sBin opNe (sVar 5) (sVar 2))) b_lesser_of_L2 [some (o, machD M), some (false, intL c), some (false, .int (dC c : Nat)), none, none, some (false, .int b), x6, x7, y8, y9, y10, y11, y12, y13] =
      .ok .nx [some (o, machD M), some (false, intL c'), some (false, .int (dC c' : Nat)), none, none, y5, y6, y7, y8, y9, y10, y11, y12, y13] := by
  intro d
  induction d with
  | zero =>
    intro c b x6 x7 y8 y9 y10 y11 y12 y13 i hd hb
    obtain ⟨y6, y7, q⟩ := lo_step hT hs (o := o) i.len b x6 x7 (y8 := y8) (y9 := y9) (y10 := y10) (y11 := y11) (y12 := y12) (y13 := y13)
    have e1 := dC_num (keyL M c)
    have h1 := ref_more (M := M) i.len
    have h2 := dC_le (keyL M c)
    rw [keyL_len] at h2
    have eq : dC (keyL M c) = dC c := by omega
    have en := natQ b (dC c)
    rw [decide_eq_false hb] at en
    have er : dC (refS M c) = dC c := by rw [← eq]; exact e1
    have en2 := natQ (dC c) (dC (refS M c))
    rw [decide_eq_true er.symm] at en2
    refine ⟨refS M c, some (false, .int (dC c : Nat)), y6, y7, ref_cls hT i eq, ?_⟩
    rw [xWU_nx (by cases o <;> simp [en]) q]
    exact xWU_stop (by cases o <;> simp [en2])
  | succ d ih =>
    intro c b x6 x7 y8 y9 y10 y11 y12 y13 i hd hb
    obtain ⟨y6, y7, q⟩ := lo_step hT hs (o := o) i.len b x6 x7 (y8 := y8) (y9 := y9) (y10 := y10) (y11 := y11) (y12 := y12) (y13 := y13)
    have e1 : dC (refS M c) = dC (keyL M c) := dC_num (keyL M c)
    have h1 := ref_more (M := M) i.len
    have en := natQ b (dC c)
    rw [decide_eq_false hb] at en
    by_cases eq : dC (keyL M c) = dC c
    · have er : dC (refS M c) = dC c := by rw [e1, eq]
      have en2 := natQ (dC c) (dC (refS M c))
      rw [decide_eq_true er.symm] at en2
      refine ⟨refS M c, some (false, .int (dC c : Nat)), y6, y7, ref_cls hT i eq, ?_⟩
      rw [xWU_nx (by cases o <;> simp [en]) q]
      exact xWU_stop (by cases o <;> simp [en2])
    · obtain ⟨c', y5, z6, z7, g1, g2⟩ := ih (refS M c) (dC c) y6 y7 (y8 := y8) (y9 := y9) (y10 := y10) (y11 := y11) (y12 := y12) (y13 := y13) (ref_ok i) (by omega) (by omega)
      refine ⟨c', y5, z6, z7, g1, ?_⟩
      rw [xWU_nx (by cases o <;> simp [en]) q]
      exact g2
end
end Lz
namespace Lz
open PySem PySem.Spec PyProof.Rows L2
def kvO (c : List Nat) (S : List Nat) (a : Nat) : List (Key × D) := (S.zipIdx a).map fun p => (Sum.inl ((clA c p.1 : Nat) : Int), D.int (p.2 : Nat))
theorem kvO_get (c : List Nat) (x : Nat) : ∀ (S : List Nat) (a : Nat), kGet (kvO c S a) (.inl (x : Int)) = if x ∈ S.map (clA c) then some (.int (a + ixOf x (S.map (clA c)) : Nat)) else none
  | [], a => by simp [kvO, kGet]
  | s :: S, a => by
    show kGet ((Sum.inl ((clA c s : Nat) : Int), D.int (a : Nat)) :: kvO c S (a + 1)) (.inl (x : Int)) = _
    rw [kGet, List.map_cons, ixOf]
    by_cases q : clA c s = x
    · rw [if_pos (by rw [q]), if_pos (by rw [q]; exact List.mem_cons_self), if_pos q]; rfl
    · rw [if_neg (fun e => q (by injection e with e; omega)), kvO_get c x S (a + 1), if_neg q]
      by_cases h : x ∈ S.map (clA c)
      · rw [if_pos h, if_pos (List.mem_cons_of_mem _ h)]
        congr 3
        omega
      · rw [if_neg h, if_neg (fun hx => by
          rcases List.mem_cons.mp hx with e | e
          · exact q e.symm
          · exact h e)]
theorem kvO_app (c : List Nat) (S : List Nat) (t : Nat) : kvO c S 0 ++ [(Sum.inl ((clA c t : Nat) : Int), D.int (S.length : Nat))] = kvO c (S ++ [t]) 0 := by
  unfold kvO
  rw [List.zipIdx_append, List.map_append]
  simp
theorem kvO_len (c : List Nat) (S : List Nat) : (kvO c S 0).length = S.length := by simp [kvO]
section
variable {M : Mach} {o : Bool} {c : List Nat} {m : Nat} {S : List Nat}
def natsL (S : List Nat) : List D := S.map fun k : Nat => D.int k
theorem natsL_at {S : List Nat} {k : Nat} (h : k < S.length) : opIx (.lst (natsL S)) (.int k) = some (false, .int (S.getD k 0 : Nat)) := by
  unfold natsL
  rw [opIx_lst, atI_lt (by simpa using h)]
  simp [List.getD_eq_getElem?_getD, h]
theorem bf_inner (hc : c.length = M.length) (hs : M.length ≤ 1000) {y2 y3 y4 y5 y6 y7 y10 : Option T} (hF : Fin c M m S) : ∀ (l : List (List Bool × Nat)) (cur : List Nat) (acc : List (List Bool × Nat)) (x12 x13 : Option T), (∀ pr ∈ l, pr.2 < M.length) → cur.length ≤ 1000 → feed c cur (l.map (·.2)) <+: S → acc.length + l.length ≤ 1000 →
    ∃ y12 y13, forL (gTp 2 (gCn (gN 12) (gCn (gN 13) gNl))) b_lesser_of_L3 (l.map pairD) [some (o, machD M), some (false, intL c), y2, y3, y4, y5, y6, y7, some (true, .dk (kvO c cur 0)), some (true, .lst (natsL cur)), y10, some (true, .lst (acc.map pairD)), x12, x13] =
      .ok .nx [some (o, machD M), some (false, intL c), y2, y3, y4, y5, y6, y7, some (true, .dk (kvO c (feed c cur (l.map (·.2))) 0)), some (true, .lst (natsL (feed c cur (l.map (·.2))))), y10, some (true, .lst ((acc ++ l.map fun pr => (pr.1, hm c S pr.2)).map pairD)), y12, y13]
  | [], cur, acc, x12, x13, _, _, _, _ => ⟨x12, x13, by simp [feed]⟩
  | pr :: l, cur, acc, x12, x13, hl, h1, h2, h3 => by
    simp only [List.length_cons] at h3
    have hp := hl pr List.mem_cons_self
    have k1 := intL_at (c := c) (k := pr.2) (by rw [hc]; exact hp)
    have p1 : addR c cur pr.2 <+: S := by
      rw [List.map_cons] at h2
      exact (feed_pre (l.map (·.2)) (addR c cur pr.2)).trans h2
    have lS := hF.ok.len
    have lA : (addR c cur pr.2).length ≤ 1000 := by
      have := p1.length_le
      omega
    obtain ⟨y12, y13, q⟩ := bf_inner hc hs (y2 := y2) (y3 := y3) (y4 := y4) (y5 := y5) (y6 := y6) (y7 := y7) (y10 := y10) hF l (addR c cur pr.2) (acc ++ [(pr.1, hm c S pr.2)]) (some (false, setD pr.1)) (some (false, .int pr.2)) (fun p hp => hl p (List.mem_cons_of_mem _ hp)) lA (by rw [List.map_cons] at h2; exact h2) (by rw [List.length_append]; simp; omega)
    refine ⟨y12, y13, ?_⟩
    have ef : feed c cur ((pr :: l).map (·.2)) = feed c (addR c cur pr.2) (l.map (·.2)) := rfl
    have ea : acc ++ (pr :: l).map (fun pr => (pr.1, hm c S pr.2)) = acc ++ [(pr.1, hm c S pr.2)] ++ l.map fun pr => (pr.1, hm c S pr.2) := by rw [List.map_cons, List.append_assoc]; rfl
    rw [ef, ea, ← q, List.map_cons]
    have kd : ∀ i : Int, kdOf (.int i) = some (.inl i) := fun _ => rfl
    have hz : acc.length < 16777216 := by omega
    have hz2 : cur.length < 16777216 := by omega
    have g0 := kvO_get c (clA c pr.2) cur 0
    have ln : (natsL cur).length = cur.length := by unfold natsL; rw [List.length_map]
    have lk := kvO_len c cur
    have er : (acc ++ [(pr.1, hm c S pr.2)]).map pairD = acc.map pairD ++ [.tup [setD pr.1, .int (hm c S pr.2 : Nat)]] := by rw [List.map_append, List.map_singleton]; rfl
    rw [er]
    have la : (acc.map pairD).length = acc.length := List.length_map _
    by_cases hin : clA c pr.2 ∈ cur.map (clA c)
    · rw [if_pos hin] at g0
      have e1 : addR c cur pr.2 = cur := if_pos hin
      rw [e1] at p1 ⊢
      have e2 : ixOf (clA c pr.2) (cur.map (clA c)) = hm c S pr.2 := ixOf_pre p1 hin
      rw [e2, Nat.zero_add] at g0
      generalize kvO c cur 0 = KV at *
      generalize natsL cur = NC at *
      generalize acc.map pairD = AP at *
      generalize machD M = MD at *
      generalize intL c = IL at *
      simp [pairD, b_lesser_of_L3, k1, kd, g0, la, hz]
    · rw [if_neg hin] at g0
      have e1 : addR c cur pr.2 = cur ++ [pr.2] := if_neg hin
      rw [e1] at p1 ⊢
      have hp2 : kPut (kvO c cur 0) (.inl (clA c pr.2 : Nat)) (.int (cur.length : Nat)) = kvO c (cur ++ [pr.2]) 0 := by
        unfold kPut
        rw [g0]
        exact kvO_app c cur pr.2
      have g1 := kvO_get c (clA c pr.2) (cur ++ [pr.2]) 0
      rw [if_pos (by simp), Nat.zero_add] at g1
      have e2 : ixOf (clA c pr.2) ((cur ++ [pr.2]).map (clA c)) = hm c S pr.2 := ixOf_pre p1 (by simp)
      rw [e2] at g1
      have en : natsL (cur ++ [pr.2]) = natsL cur ++ [.int pr.2] := by unfold natsL; rw [List.map_append]; rfl
      rw [en]
      generalize kvO c cur 0 = KV at *
      generalize kvO c (cur ++ [pr.2]) 0 = KV2 at *
      generalize natsL cur = NC at *
      generalize acc.map pairD = AP at *
      generalize machD M = MD at *
      generalize intL c = IL at *
      have r1 : (cur.length : Int) ≤ 16777216 := by omega
      simp [pairD, b_lesser_of_L3, k1, kd, g0, g1, la, ln, lk, hz, hz2, hp2, r1]
end
end Lz
namespace Lz
open PySem PySem.Spec PyProof.Rows L2
section
variable {M : Mach} {o : Bool} {c : List Nat} {m : Nat} {S : List Nat}
theorem bf_step (hT : ∀ k, k < M.length → ∀ t ∈ toM M k, t < M.length) (hr : ∀ k, k < M.length → (rowM M k).length ≤ 100) (hc : c.length = M.length) (hs : M.length ≤ 64) {y2 y3 y4 y5 y6 y7 : Option T} (hF : Fin c M m S) {i : Nat} (hi : i < m) (x11 x12 x13 : Option T) :
    ∃ y11 y12 y13, b_lesser_of_L4 [some (o, machD M), some (false, intL c), y2, y3, y4, y5, y6, y7, some (true, .dk (kvO c (stg c M i) 0)), some (true, .lst (natsL (stg c M i))), some (true, .lst (((lesM c M S).take i).map standD)), x11, x12, x13] =
      .ok .nx [some (o, machD M), some (false, intL c), y2, y3, y4, y5, y6, y7, some (true, .dk (kvO c (stg c M (i + 1)) 0)), some (true, .lst (natsL (stg c M (i + 1)))), some (true, .lst (((lesM c M S).take (i + 1)).map standD)), y11, y12, y13] := by
  have hu := hF.up i hi
  have hl := les_len hF
  obtain ⟨s1, s2⟩ := S_at hF hi
  have e1 : stg c M (i + 1) = feed c (stg c M i) (toM M (S.getD i 0)) := by
    show (if i < (stg c M i).length then feed c (stg c M i) (toM M ((stg c M i).getD i 0)) else _) = _
    rw [if_pos hu, hF.at_ i hi]
  have lS := hF.ok.len
  have p0 := (hF.pre i (by omega)).length_le
  have n1 := natsL_at hu
  rw [hF.at_ i hi] at n1
  have m1 := mach_at s1
  obtain ⟨y12, y13, q⟩ := bf_inner (o := o) hc (by omega) (y2 := y2) (y3 := y3) (y4 := y4) (y5 := y5) (y6 := y6) (y7 := y7) (y10 := some (true, .lst (((lesM c M S).take i).map standD))) hF (rowM M (S.getD i 0)) (stg c M i) [] x12 x13 (fun pr hp => hT _ s1 pr.2 (List.mem_map.mpr ⟨pr, hp, rfl⟩)) (by omega)
    (by have := hF.pre (i + 1) hi; rw [e1] at this; exact this) (by have := hr _ s1; simp only [List.length_nil]; omega)
  have et : (rowM M (S.getD i 0)).map (·.2) = toM M (S.getD i 0) := rfl
  rw [et, ← e1, List.nil_append, ← les_row hF hi] at q
  have tk : (lesM c M S).take (i + 1) = (lesM c M S).take i ++ [rowM (lesM c M S) i] := by
    rw [List.take_add_one]
    unfold rowM
    rw [List.getD_eq_getElem?_getD, List.getElem?_eq_getElem (by omega)]
    rfl
  refine ⟨some (true, .lst ((rowM (lesM c M S) i).map pairD)), y12, y13, ?_⟩
  rw [tk, List.map_append, List.map_singleton]
  have es : standD (rowM (lesM c M S) i) = .tup ((rowM (lesM c M S) i).map pairD) := rfl
  have es2 : standD (rowM M (S.getD i 0)) = .tup ((rowM M (S.getD i 0)).map pairD) := rfl
  rw [es]
  rw [es2] at m1
  have lt : (((lesM c M S).take i).map standD).length = i := by rw [List.length_map, List.length_take, hl]; omega
  have hz : i < 16777216 := by omega
  have r1 : (i : Int) ≤ 16777216 := by omega
  simp only [List.map_nil] at q
  clear e1 et
  generalize S.getD i 0 = s at *
  generalize ((lesM c M S).take i).map standD = TK at *
  generalize kvO c (stg c M i) 0 = KV at *
  generalize kvO c (stg c M (i + 1)) 0 = KV2 at *
  generalize natsL (stg c M i) = NC at *
  generalize natsL (stg c M (i + 1)) = NC2 at *
  generalize (rowM (lesM c M S) i).map pairD = RP at *
  generalize (rowM M (S.getD i 0)).map pairD = RM at *
  generalize machD M = MD at *
  generalize intL c = IL at *
  cases o <;> simp [b_lesser_of_L4, lt, n1, m1, q, hz, r1, -opIx_lst]
theorem bf_loop (hT : ∀ k, k < M.length → ∀ t ∈ toM M k, t < M.length) (hr : ∀ k, k < M.length → (rowM M k).length ≤ 100) (hc : c.length = M.length) (hs : M.length ≤ 64) {y2 y3 y4 y5 y6 y7 : Option T} (hF : Fin c M m S) : ∀ (d i : Nat) (x11 x12 x13 : Option T), i + d = m →
    ∃ y11 y12 y13, xWU (sB (sBin opLt (sCl cfLen (sCons (sVar 10) sNil)) (sCl cfLen (sCons (sVar 9) sNil)))) b_lesser_of_L4 [some (o, machD M), some (false, intL c), y2, y3, y4, y5, y6, y7, some (true, .dk (kvO c (stg c M i) 0)), some (true, .lst (natsL (stg c M i))), some (true, .lst (((lesM c M S).take i).map standD)), x11, x12, x13] =
      .ok .nx [some (o, machD M), some (false, intL c), y2, y3, y4, y5, y6, y7, some (true, .dk (kvO c S 0)), some (true, .lst (natsL S)), some (true, .lst ((lesM c M S).map standD)), y11, y12, y13] := by
  have hl := les_len hF
  intro d
  induction d with
  | zero =>
    intro i x11 x12 x13 hi
    have hi : i = m := by omega
    subst hi
    refine ⟨x11, x12, x13, ?_⟩
    rw [← hF.e]
    have lt : (((lesM c M S).take i).map standD).length = i := by rw [List.length_map, List.length_take, hl]; omega
    have e : (lesM c M S).take i = lesM c M S := List.take_of_length_le (by omega)
    have ln : (natsL S).length = i := by unfold natsL; rw [List.length_map, hF.len]
    rw [e] at lt ⊢
    generalize (lesM c M S).map standD = TK at *
    generalize natsL S = NC at *
    exact xWU_stop (by simp [lt, ln])
  | succ d ih =>
    intro i x11 x12 x13 hi
    have hi' : i < m := by omega
    obtain ⟨z11, z12, z13, q⟩ := bf_step (o := o) hT hr hc hs (y2 := y2) (y3 := y3) (y4 := y4) (y5 := y5) (y6 := y6) (y7 := y7) hF hi' x11 x12 x13
    obtain ⟨y11, y12, y13, q2⟩ := ih (i + 1) z11 z12 z13 (by omega)
    refine ⟨y11, y12, y13, ?_⟩
    have hu := hF.up i hi'
    have lt : (((lesM c M S).take i).map standD).length = i := by rw [List.length_map, List.length_take, hl]; omega
    have ln : (natsL (stg c M i)).length = (stg c M i).length := by unfold natsL; rw [List.length_map]
    have hu2 : (i : Int) < (stg c M i).length := by omega
    rw [xWU_nx (by
      generalize ((lesM c M S).take i).map standD = TK at lt
      generalize natsL (stg c M i) = NC at ln
      simp [lt, ln, hu, hu2]) q]
    exact q2
theorem lesser_of_sp (hn : 0 < M.length) (hT : ∀ k, k < M.length → ∀ t ∈ toM M k, t < M.length) (hr : ∀ k, k < M.length → (rowM M k).length ≤ 100) (hs : M.length ≤ 64) :
    ∃ c m S, Cls M c ∧ Fin c M m S ∧ F_lesser_of [(false, machD M)] = .ok (false, machD (lesM c M S)) [some (false, machD M)] := by
  have i0 := cls0_ok M
  have h1 := numbered_sp key0_NK (M.map fun st => st.map (·.1)) true (by rw [List.length_map]; omega)
  have e1 : (firsts (M.map fun st => st.map (·.1))).length = dC (cls0 M) := (dC_num _).symm
  have e2 : D.lst ((numOf (M.map fun st => st.map (·.1))).map fun k : Nat => D.int k) = intL (cls0 M) := rfl
  rw [e1, e2] at h1
  have hd : 0 ≠ dC (cls0 M) := by
    have h : clA (cls0 M) 0 ∈ firsts (cls0 M) := firsts_mem.mpr (by
      unfold clA
      rw [List.getD_eq_getElem?_getD, List.getElem?_eq_getElem (by rw [i0.len]; exact hn)]
      exact List.getElem_mem _)
    unfold dC
    intro e
    have := List.length_eq_zero_iff.mp e.symm
    rw [this] at h
    cases h
  have hk := fun y1 y2 y5 y6 y7 y8 y9 y10 y11 y12 y13 => lo_keys (M := M) (o := false) (y1 := y1) (y2 := y2) (y5 := y5) (y6 := y6) (y7 := y7) (y8 := y8) (y9 := y9) (y10 := y10) (y11 := y11) (y12 := y12) (y13 := y13)
  obtain ⟨c, y5, y6, y7, hC, q1⟩ := lo_ref hT (by omega) (o := false) M.length (cls0 M) 0 none none (y8 := none) (y9 := none) (y10 := none) (y11 := none) (y12 := none) (y13 := none) i0 (by omega) hd
  obtain ⟨m, S, hF⟩ := fin_ex (c := c) hn hT
  obtain ⟨y11, y12, y13, q2⟩ := bf_loop (o := false) hT hr hC.len hs (y2 := some (false, .int (dC c : Nat))) (y3 := none) (y4 := none) (y5 := y5) (y6 := y6) (y7 := y7) hF m 0 none none none (by omega)
  refine ⟨c, m, S, hC, hF, ?_⟩
  have c0 := intL_at (c := c) (k := 0) (by rw [hC.len]; exact hn)
  have s0 : stg c M 0 = [0] := rfl
  rw [s0] at q2
  have k0 : kvO c [0] 0 = [(Sum.inl ((clA c 0 : Nat) : Int), D.int ((0 : Nat) : Int))] := rfl
  have l0 : natsL [0] = [D.int ((0 : Nat) : Int)] := rfl
  have z0 : ((0 : Nat) : Int) = 0 := rfl
  rw [k0, l0, List.take_zero, List.map_nil, z0] at q2
  rw [z0] at q1 c0
  have kd : ∀ i : Int, kdOf (.int i) = some (.inl i) := fun _ => rfl
  have em : machD (lesM c M S) = .tup ((lesM c M S).map standD) := rfl
  rw [em]
  generalize (M.map fun st => st.map (·.1)).map key0D = K0 at *
  generalize (lesM c M S).map standD = LS at *
  generalize intL (cls0 M) = I0 at *
  generalize intL c = IC at *
  have es : machD M = .tup (M.map standD) := rfl
  rw [es] at hk q1 q2 ⊢
  generalize M.map standD = MD at *
  simp [F_lesser_of, b_lesser_of, hk, h1, q1, c0, kd, q2, -opIx_lst]
end
end Lz
namespace Lz
open PySem PySem.Spec PyProof.Rows L2
structure GrOk (G : Nat → List Edg) (n : Nat) : Prop where
  pos : 0 < n
  ne : ∀ k, k < n → G k ≠ []
  ix : ∀ k, k < n → ∀ e ∈ G k, e.2 < n
section
variable {G : Nat → List Edg} {n : Nat}
end
end Lz
namespace Lz
open PySem PySem.Spec PyProof.Rows L2
abbrev PkN := List (List Nat)
def pnR (P : PkN) (k m : Nat) : Nat := (P.getD k []).getD m 0
structure PnOk (A : Are) (P : PkN) : Prop where
  len : P.length = A.length
  row : ∀ k, k < A.length → (P.getD k []).length = (mvA A k).length
  lt : ∀ k m, k < A.length → m < (mvA A k).length → pnR P k m < (edA A k m).length
section
variable {A : Are} {P : PkN}
end
end Lz
namespace Lz
open PySem PySem.Spec PyProof.Rows L2
abbrev Play := List (List Bool)
def mAt (b : Book) (p : Play) : List Bool := memAt b p p.length
structure PsOk (b : Book) (ps : List Play) : Prop where
  ms : MsOk b (ps.map (mAt b))
  pl : ∀ p ∈ ps, PlayOk b.nm.length p ∧ p.length < ps.length
theorem PsOk.l16 {b : Book} (hb : b.Ok) {ps : List Play} (h : PsOk b ps) : ps.length ≤ 16 := by
  have := h.ms.l16 hb
  rw [List.length_map] at this
  exact this
end Lz
namespace Lz
open PySem PySem.Spec PyProof.Rows L2
def foesF (b : Book) (mem : List Bool) (l : List (List Bool)) : List (List Bool) := l.filter fun foe => keepsS b b.pro mem (foe ++ offF b)
def Closed (b : Book) (M : List (List Bool)) (mem : List Bool) : Prop := ∀ foe ∈ foesF b mem (setL b.foe.length), ∀ x ∈ ansS b mem foe, x.2.2 ∈ M
structure GameOk (b : Book) (M : List (List Bool)) : Prop extends MsOk b M where
  l16 : M.length ≤ 16
  zero : M[0]? = some (mem0 b)
  cl : ∀ mem ∈ M, Closed b M mem
end Lz
namespace Lz
open PySem PySem.Spec PyProof.Rows L2
abbrev Rk := List (Option Nat)
def isK (f : Rk) (k : Nat) : Bool := (f.getD k none).isSome
def cnt (f : Rk) : Nat := (f.filter Option.isSome).length
theorem cnt_le (f : Rk) : cnt f ≤ f.length := List.length_filter_le _ _
end Lz
namespace Lz
open PySem PySem.Spec PyProof.Rows L2
structure NdsOk (nds : List NdN) : Prop where
  l16 : nds.length ≤ 16
  mv4 : ∀ nd ∈ nds, nd.2.length ≤ 4
  an4 : ∀ nd ∈ nds, ∀ mv ∈ nd.2, mv.2.length ≤ 4
  ix : ∀ nd ∈ nds, ∀ mv ∈ nd.2, ∀ a ∈ mv.2, a.2.2 < nds.length
end Lz
namespace Lz
open PySem PySem.Spec PyProof.Rows L2
def onD : Option Int → D := optD D.int
def edgD (e : Edg) : D := .tup [.int e.1, .int e.2]
def movD (mv : List Edg) : D := .lst (mv.map edgD)
def areD (A : Are) : D := .lst (A.map fun mvs => .lst (mvs.map movD))
def gmG (A : Are) (up down : Int) (pk : D) (b : Bool) (N : List (Option Int)) : List (Str × Bool × D) :=
  [("arena", false, areD A), ("up", false, .int up), ("down", false, .int down), ("picks", false, pk), ("numbers", b, .lst (N.map onD))]
section
variable {A : Are} {up down : Int} {pk pk' : D} {b b' o : Bool} {N N' : List (Option Int)}
@[simp] theorem gmG_arena : fldV o (gmG A up down pk b N) "arena" = some (areD A) := by cases o <;> rfl
@[simp] theorem gmG_up : fldV o (gmG A up down pk b N) "up" = some (.int up) := by cases o <;> rfl
@[simp] theorem gmG_down : fldV o (gmG A up down pk b N) "down" = some (.int down) := by cases o <;> rfl
@[simp] theorem gmG_picks : fldV o (gmG A up down pk b N) "picks" = some pk := by cases o <;> rfl
@[simp] theorem gmG_nums_f : fldV false (gmG A up down pk b N) "numbers" = some (.lst (N.map onD)) := by cases b <;> rfl
@[simp] theorem gmG_nums_o : fldV o (gmG A up down pk false N) "numbers" = some (.lst (N.map onD)) := by cases o <;> rfl
@[simp] theorem gmG_lk : (gmG A up down pk b N).lookup ("numbers" : Str) = some (b, .lst (N.map onD)) := rfl
@[simp] theorem gmG_len : (gmG A up down pk b N).length = 5 := rfl
@[simp] theorem gmG_m1 : (gmG A up down pk b N).lookup ("answer" : Str) = none := rfl
@[simp] theorem gmG_m2 : (gmG A up down pk b N).lookup ("weigh" : Str) = none := rfl
@[simp] theorem gmG_m3 : (gmG A up down pk b N).lookup ("better" : Str) = none := rfl
@[simp] theorem gmG_m4 : (gmG A up down pk b N).lookup ("solve" : Str) = none := rfl
@[simp] theorem gmG_m5 : (gmG A up down pk b N).lookup ("value" : Str) = none := rfl
@[simp] theorem gmG_m6 : (gmG A up down pk b N).lookup ("of_move" : Str) = none := rfl
@[simp] theorem gmG_m7 : (gmG A up down pk b N).lookup ("of_node" : Str) = none := rfl
@[simp] theorem gmG_put : putO "numbers" (b', .lst (N'.map onD)) (gmG A up down pk b N) = gmG A up down pk b' N' := rfl
@[simp] theorem gmG_putp : putO "picks" (false, pk') (gmG A up down pk b N) = gmG A up down pk' b N := rfl
end
end Lz
namespace Lz
open PySem PySem.Spec PyProof.Rows L2
structure ArSm (A : Are) : Prop where
  n : A.length ≤ 16
  m : ∀ k, (mvA A k).length ≤ 100
  e : ∀ k m, (edA A k m).length ≤ 100
/-- numbers that go with the foe's picks -/
structure FoN (A : Are) (p : PkE) (N : List (Option Int)) : Prop where
  len : N.length = A.length
  z : ∀ k, k < A.length → p.getD k none = none → nt N k = some 0
section
variable {A : Are} {up down : Int} {p : PkE} {N : List (Option Int)}
theorem FoN.set (f : FoN A p N) {k : Nat} (hk : k < A.length) : FoN A p (N.set k (vLo (foO A up down p) (nt N) k)) where
  len := by rw [List.length_set]; exact f.len
  z j hj hp := by
    rw [nt_set (by rw [f.len]; exact hk)]
    unfold upF
    by_cases e : j = k
    · subst e; rw [if_pos rfl, foV_none hp]
    · rw [if_neg e]; exact f.z j hj hp
theorem FoN.sw (f : FoN A p N) : ∀ (ks : List Nat), (∀ k ∈ ks, k < A.length) → FoN A p (swL (foO A up down p) ks N) := by
  intro ks
  induction ks generalizing N with
  | nil => exact fun _ => f
  | cons k ks ih => exact fun h => ih (f.set (h k List.mem_cons_self)) fun j hj => h j (List.mem_cons_of_mem _ hj)
end
end Lz
namespace Lz
open PySem PySem.Spec PyProof.Rows L2
section
variable {A : Are} {up down : Int} {p : PkE} {N : List (Option Int)}
end
end Lz
namespace Lz
open PySem PySem.Spec PyProof.Rows L2
@[simp] theorem edg_0 (e : Edg) : opIx (edgD e) (.int 0) = some (false, .int e.1) := rfl
@[simp] theorem edg_1 (e : Edg) : opIx (edgD e) (.int 1) = some (false, .int e.2) := rfl
section
variable {A : Are} {up down : Int} {p : PkF} {N : List (Option Int)}
end
end Lz
namespace Lz
open PySem PySem.Spec PyProof.Rows L2
def compOK2 (own : List Nat) (ρ1 : Env) (es : List D) (ρ2 : Env) : R XV := .ok (.v true (.lol es)) (rest own ρ1 ρ2)
@[simp] theorem compOK2_ev {own : List Nat} {ρ1 ρ2 : Env} {es : List D} : compOK2 own ρ1 es ρ2 = .ok (.v true (.lol es)) (rest own ρ1 ρ2) := rfl
def compOK (own : List Nat) (g : D → Env → Option Env) (c : Env → R Bool) (f : Env → R XV) (it : Its) (ρ1 : Env) : R XV := relk it.lk ((noX (compLO own g c f it.items (clr own ρ1))).bind (compOK2 own ρ1))
@[simp] theorem compOK_ev {own : List Nat} {g : D → Env → Option Env} {c : Env → R Bool} {f : Env → R XV} {it : Its} {ρ : Env} : compOK own g c f it ρ = relk it.lk ((noX (compLO own g c f it.items (clr own ρ))).bind (compOK2 own ρ)) := rfl
@[simp] theorem sCompO_ev {own : List Nat} {si : Env → R Its} {g : D → Env → Option Env} {c : Env → R Bool} {f : Env → R XV} {ρ : Env} : sCompO own si g c f ρ = (si ρ).bind (compOK own g c f) := rfl
section
variable {A : Are} {up down : Int} {p : PkF} {N : List (Option Int)}
end
end Lz
namespace Lz
open PySem PySem.Spec PyProof.Rows L2
end Lz
namespace Lz
open PySem PySem.Spec PyProof.Rows L2
end Lz
namespace Lz
open PySem PySem.Spec PyProof.Rows L2
section
variable {A : Are} {P : PkN}
end
end Lz
namespace Lz
open PySem PySem.Spec PyProof.Rows L2
end Lz
namespace Lz
open PySem PySem.Spec PyProof.Rows L2
end Lz
namespace Lz
open PySem PySem.Spec PyProof.Rows L2
def gdA (R : Rk) (mv : MvN) : List AnsN := mv.2.filter fun a => !isK R a.2.2
def gvT (R : Rk) (mv : MvN) : D := .tup [setD mv.1, .tup ((gdA R mv).map ansND)]
end Lz
namespace Lz
open PySem PySem.Spec PyProof.Rows L2
end Lz
namespace Lz
open PySem PySem.Spec PyProof.Rows L2
end Lz
namespace Lz
open PySem PySem.Spec PyProof.Rows L2
section
variable {nds : List NdN} {R : Rk}
end
section
variable {b : Book}
end
end Lz
namespace Lz
open PySem PySem.Spec PyProof.Rows L2
section
variable {A : Are} {up down : Int} {pk : D} {N : List (Option Int)}
end
section
variable {nds : List NdN} {up down : Int} {pk : D} {N : List (Option Int)}
@[simp] theorem gv_0 {R : Rk} {mv : MvN} : opIx (gvT R mv) (.int 0) = some (false, setD mv.1) := rfl
end
end Lz
namespace Lz
open PySem PySem.Spec PyProof.Rows L2
section
variable {b : Book}
end
section
variable {nds : List NdN} {up down : Int} {p : PkF} {N : List (Option Int)}
end
end Lz
namespace Lz
open PySem PySem.Spec PyProof.Rows L2
section
variable {b : Book}
end
end Lz
namespace Lz
open PySem PySem.Spec PyProof.Rows L2
theorem whole_int (i : Int) : F_l_whole [(false, .int i)] = .ok (false, .bl true) [some (false, .int i)] := by
  have h1 : isiD "int" (.int i) = some (false, .bl true) := rfl
  have h2 : isiD "bool" (.int i) = some (false, .bl false) := rfl
  simp [F_l_whole, b_l_whole, h1, h2]
section
variable {nds : List NdN} {R : Rk} {PL : Nat → D} {pp : Nat → Option Int}
end
section
variable {nds : List NdN} {R : Rk} {pp : Nat → Option Int} {ql : Nat → Option (List Bool)} {up down : Int}
theorem set_eq (s t : List Bool) : eqD (setD s) (setD t) = some (decide (s = t)) := setD_PT.eqD (by decide) s t
end
end Lz
namespace Lz
open PySem PySem.Spec PyProof.Rows L2
theorem im_pair {f r : Nat} {A : Mach} (h : MOk f r A) (hr0 : 0 < r) (hr : r ≤ 2) {y1 y3 : Option T} (l : List (List Bool × Nat)) (hl : ∀ pr ∈ l, pr.1.length = r ∧ pr.2 < A.length) (x4 : Option T) :
    ∃ y4, forL (gN 4) b_l_is_machine_L1 (l.map pairD) [some (false, machD A), y1, some (false, .int r), y3, x4] = .ok .nx [some (false, machD A), y1, some (false, .int r), y3, y4] := by
  have q := forL_fold (g := gN 4) (f := b_l_is_machine_L1) (fun x4 : Option T => [some (false, machD A), y1, some (false, .int r), y3, x4]) (fun _ d => some (false, d)) (fun _ => True) (l.map pairD) x4 trivial fun a d hd _ => by
    obtain ⟨pr, hpr, rfl⟩ := List.mem_map.mp hd
    obtain ⟨h1, h2⟩ := hl pr hpr
    refine ⟨_, rfl, ?_, trivial⟩
    have e8 := settings_of_sp r hr0 (by omega)
    rw [← l_settings_eq] at e8
    have t1 : isiD "tuple" (pairD pr) = some (false, .bl true) := rfl
    have t2 : cfLen [pairD pr] = some (false, .int 2) := rfl
    have en := natQ 2 2
    rw [decide_eq_true rfl] at en
    simp at en
    have s1 : opIx (pairD pr) (.int 0) = some (false, setD pr.1) := rfl
    have s2 : opIx (pairD pr) (.int 1) = some (false, .int pr.2) := rfl
    have hin : inD (setD pr.1) (.lst ((setL r).map setD)) = some true := by
      rw [ptSet.inD (by decide) pr.1 (setL r)]
      have hm := (setL_mem r pr.1).mpr h1
      simp [hm]
    have hw := whole_int pr.2
    have hlen : cfLen [machD A] = some (false, .int A.length) := by unfold machD; simp
    have z1 : ¬ (pr.2 : Int) < 0 := by omega
    have z2 : ¬ (A.length : Int) ≤ pr.2 := by omega
    have z3 : ¬ A.length ≤ pr.2 := by omega
    generalize pairD pr = PR at *
    generalize (setL r).map setD = SL at *
    generalize machD A = MD at *
    generalize setD pr.1 = SD at *
    simp [b_l_is_machine_L1, t1, t2, en, s1, s2, e8, hin, hw, hlen, z1, z2, z3]
  exact ⟨_, q.1⟩
theorem is_machine_law {f r : Nat} {A : Mach} (h : MOk f r A) (hf0 : 0 < f) (hf : f ≤ 2) (hr0 : 0 < r) (hr : r ≤ 2) :
    F_l_is_machine [(false, machD A), (false, .int f), (false, .int r)] = .ok (false, .bl true) [some (false, machD A), some (false, .int f), some (false, .int r)] := by
  have lp : ∀ (l : Mach) (x3 x4 : Option T), (∀ st ∈ l, st.length = 2 ^ f ∧ ∀ pr ∈ st, pr.1.length = r ∧ pr.2 < A.length) → ∃ y3 y4, forL (gN 3) b_l_is_machine_L2 (l.map standD) [some (false, machD A), some (false, .int f), some (false, .int r), x3, x4] = .ok .nx [some (false, machD A), some (false, .int f), some (false, .int r), y3, y4] := by
    intro l
    induction l with
    | nil => exact fun x3 x4 _ => ⟨x3, x4, rfl⟩
    | cons st l ih =>
      intro x3 x4 hl
      obtain ⟨h1, h2⟩ := hl st List.mem_cons_self
      obtain ⟨z4, q⟩ := im_pair h hr0 hr (y1 := some (false, .int f)) (y3 := some (false, standD st)) st h2 x4
      obtain ⟨y3, y4, q2⟩ := ih (some (false, standD st)) z4 fun s hs => hl s (List.mem_cons_of_mem _ hs)
      refine ⟨y3, y4, ?_⟩
      rw [List.map_cons, ← q2]
      have e8 := settings_of_sp f hf0 (by omega)
      rw [← l_settings_eq] at e8
      have sl := setL_len f
      have t1 : isiD "tuple" (standD st) = some (false, .bl true) := rfl
      have t2 : cfLen [standD st] = some (false, .int (2 ^ f : Nat)) := by unfold standD; simp [h1]
      have t3 : cfLen [.lst ((setL f).map setD)] = some (false, .int (2 ^ f : Nat)) := by simp [sl]
      have en := natQ (2 ^ f) (2 ^ f)
      rw [decide_eq_true rfl] at en
      have es : standD st = .tup (st.map pairD) := rfl
      rw [es] at t1 t2 q ⊢
      generalize (2 ^ f : Nat) = L at *
      generalize st.map pairD = SP at *
      generalize (setL f).map setD = SL at *
      generalize machD A = MD at *
      simp only [cfLen] at t2 t3
      simp [b_l_is_machine_L2, t1, e8, q, en, cfLen, t2, t3]
  obtain ⟨y3, y4, q⟩ := lp A none none fun st hs => ⟨h.sl st hs, h.pl st hs⟩
  have t1 : isiD "tuple" (machD A) = some (false, .bl true) := rfl
  have hlen : cfLen [machD A] = some (false, .int A.length) := by unfold machD; simp
  have m1 : 1 ≤ (A.length : Int) := by have := h.m1; omega
  have m2 : (A.length : Int) ≤ 64 := by have := h.m64; omega
  have es : machD A = .tup (A.map standD) := rfl
  rw [es] at t1 hlen q ⊢
  generalize A.map standD = MD at *
  simp only [cfLen] at hlen
  simp [F_l_is_machine, b_l_is_machine, t1, cfLen, hlen, m1, m2, q]
end Lz
namespace Lz
open PySem PySem.Spec PyProof.Rows L2
def ppD (p : Nat × Nat) : D := .tup [.int p.1, .int p.2]
theorem ppPT : PT ppD 1 := PT.nat.pair PT.nat
def addP2 (row : List (Nat × Nat)) (p : Nat × Nat) : List (Nat × Nat) := if p ∈ row then row else row ++ [p]
theorem notInP (p : Nat × Nat) (row : List (Nat × Nat)) : inD (ppD p) (.lst (row.map ppD)) = some (decide (p ∈ row)) := by
  rw [ppPT.inD (by decide) p row]
  by_cases h : p ∈ row <;> simp [h]
theorem rows_at {row : List (Nat × Nat)} {k : Nat} (h : k < row.length) : opIx (.lst (row.map ppD)) (.int k) = some (false, ppD (row.getD k (0, 0))) := by
  rw [opIx_lst, atI_lt (by simpa using h)]
  simp [List.getD_eq_getElem?_getD, h]
def zpD (q : (List Bool × Nat) × (List Bool × Nat)) : D := .tup [pairD q.1, pairD q.2]
theorem zip_zp (l r : List (List Bool × Nat)) : zipD (l.map pairD) (r.map pairD) = (l.zip r).map zpD := by
  induction l generalizing r with
  | nil => cases r <;> simp [zipD]
  | cons x l ih =>
    cases r with
    | nil => simp [zipD]
    | cons y r => simp only [List.map_cons, zipD, ih, List.zip_cons_cons]; rfl
theorem same_inner {y0 y1 y3 : Option T} : ∀ (l : List ((List Bool × Nat) × (List Bool × Nat))) (row : List (Nat × Nat)) (x4 x5 : Option T), (∀ q ∈ l, q.1.1 = q.2.1) → row.length + l.length ≤ 1000 →
    ∃ y4 y5, forL (gTp 2 (gCn (gN 4) (gCn (gN 5) gNl))) b_l_same_L1 (l.map zpD) [y0, y1, some (true, .lst (row.map ppD)), y3, x4, x5] =
      .ok .nx [y0, y1, some (true, .lst ((l.foldl (fun r q => addP2 r (q.1.2, q.2.2)) row).map ppD)), y3, y4, y5]
  | [], row, x4, x5, _, _ => ⟨x4, x5, rfl⟩
  | q :: l, row, x4, x5, h, hl => by
    simp only [List.length_cons] at hl
    obtain ⟨⟨p0, p1⟩, ⟨r0, r1⟩⟩ := q
    have hq : p0 = r0 := h _ List.mem_cons_self
    subst hq
    have la : (addP2 row (p1, r1)).length ≤ row.length + 1 := by unfold addP2; split <;> simp
    obtain ⟨y4, y5, q⟩ := same_inner (y0 := y0) (y1 := y1) (y3 := y3) l (addP2 row (p1, r1)) (some (false, pairD (p0, p1))) (some (false, pairD (p0, r1))) (fun q hq => h q (List.mem_cons_of_mem _ hq)) (by omega)
    refine ⟨y4, y5, ?_⟩
    rw [List.foldl_cons]
    dsimp only
    rw [← q, List.map_cons]
    have ez : zpD ((p0, p1), (p0, r1)) = .tup [pairD (p0, p1), pairD (p0, r1)] := rfl
    rw [ez]
    have s1 : opIx (pairD (p0, p1)) (.int 0) = some (false, setD p0) := rfl
    have s2 : opIx (pairD (p0, r1)) (.int 0) = some (false, setD p0) := rfl
    have s3 : opIx (pairD (p0, p1)) (.int 1) = some (false, .int p1) := rfl
    have s4 : opIx (pairD (p0, r1)) (.int 1) = some (false, .int r1) := rfl
    have e0 := set_eq p0 p0
    rw [decide_eq_true rfl] at e0
    have n1 := notInP (p1, r1) row
    have ep : ppD (p1, r1) = .tup [.int p1, .int r1] := rfl
    rw [ep] at n1
    have lr : (row.map ppD).length = row.length := List.length_map _
    have hz : row.length < 16777216 := by omega
    by_cases hin : (p1, r1) ∈ row
    · rw [decide_eq_true hin] at n1
      have ea : addP2 row (p1, r1) = row := if_pos hin
      rw [ea]
      generalize row.map ppD = RD at *
      generalize pairD (p0, p1) = A1 at *
      generalize pairD (p0, r1) = A2 at *
      generalize setD p0 = SD at *
      simp [b_l_same_L1, s1, s2, s3, s4, e0, n1, -opIx_lst]
    · rw [decide_eq_false hin] at n1
      have ea : addP2 row (p1, r1) = row ++ [(p1, r1)] := if_neg hin
      have em : (row ++ [(p1, r1)]).map ppD = row.map ppD ++ [.tup [.int p1, .int r1]] := by rw [List.map_append]; rfl
      rw [ea, em]
      generalize row.map ppD = RD at *
      generalize pairD (p0, p1) = A1 at *
      generalize pairD (p0, r1) = A2 at *
      generalize setD p0 = SD at *
      simp [b_l_same_L1, s1, s2, s3, s4, e0, n1, lr, hz, -opIx_lst]
end Lz
namespace Lz
open PySem PySem.Spec PyProof.Rows L2
theorem pairs_eq {α β : Type} : ∀ {l r : List (α × β)}, l.map (·.1) = r.map (·.1) → l.map (·.2) = r.map (·.2) → l = r
  | [], [], _, _ => rfl
  | [], _ :: _, h, _ => by cases h
  | _ :: _, [], h, _ => by cases h
  | a :: l, b :: r, h1, h2 => by
    simp only [List.map_cons, List.cons.injEq] at h1 h2
    rw [pairs_eq h1.2 h2.2, Prod.ext h1.1 h2.1]
structure RowP (P : Nat × Nat → Prop) (n : Nat) (row : List (Nat × Nat)) : Prop where
  nd : row.Nodup
  ok : ∀ p ∈ row, P p
theorem addP2_ok {P : Nat × Nat → Prop} {n : Nat} {row : List (Nat × Nat)} (h : RowP P n row) {p : Nat × Nat} (hp : P p) : RowP P n (addP2 row p) := by
  unfold addP2
  split
  · exact h
  · rename_i q
    refine ⟨List.nodup_append.mpr ⟨h.nd, by simp, fun a ha b hb e => ?_⟩, fun x hx => ?_⟩
    · rw [List.mem_singleton.mp hb] at e
      rw [e] at ha
      exact q ha
    · rcases List.mem_append.mp hx with hx | hx
      · exact h.ok x hx
      · rw [List.mem_singleton.mp hx]; exact hp
theorem foldP_ok {α : Type} {P : Nat × Nat → Prop} {n : Nat} {f : α → Nat × Nat} : ∀ (l : List α) (row : List (Nat × Nat)), RowP P n row → (∀ a ∈ l, P (f a)) → RowP P n (l.foldl (fun r a => addP2 r (f a)) row)
  | [], _, h, _ => h
  | a :: l, row, h, hl => foldP_ok l _ (addP2_ok h (hl a List.mem_cons_self)) fun b hb => hl b (List.mem_cons_of_mem _ hb)
theorem addP2_pre (row : List (Nat × Nat)) (p : Nat × Nat) : row <+: addP2 row p := by
  unfold addP2
  split
  · exact List.prefix_refl _
  · exact List.prefix_append _ _
theorem foldP_pre {α : Type} {f : α → Nat × Nat} : ∀ (l : List α) (row : List (Nat × Nat)), row <+: l.foldl (fun r a => addP2 r (f a)) row
  | [], row => List.prefix_refl _
  | a :: l, row => (addP2_pre row (f a)).trans (foldP_pre l _)
theorem foldP_mem {α : Type} {f : α → Nat × Nat} : ∀ (l : List α) (row : List (Nat × Nat)), ∀ a ∈ l, f a ∈ l.foldl (fun r a => addP2 r (f a)) row
  | [], _, _, h => by cases h
  | b :: l, row, a, h => by
    rcases List.mem_cons.mp h with rfl | h
    · have h1 : f a ∈ addP2 row (f a) := by
        unfold addP2
        split
        · assumption
        · simp
      exact (foldP_pre l (addP2 row (f a))).subset h1
    · exact foldP_mem l _ a h
section
variable {c : List Nat} {M : Mach} {m : Nat} {S : List Nat} (hC : Cls M c) (hF : Fin c M m S) (hT : ∀ k, k < M.length → ∀ t ∈ toM M k, t < M.length)
include hC hF
theorem les_rowE {k : Nat} (hk : k < M.length) (h : clA c k ∈ S.map (clA c)) : rowM (lesM c M S) (hm c S k) = (rowM M k).map fun pr => (pr.1, hm c S pr.2) := by
  obtain ⟨h1, h2, h3⟩ := les_same hC hF hk h
  refine pairs_eq ?_ ?_
  · rw [List.map_map]; exact h1
  · rw [List.map_map]
    have e : (toM M k).map (hm c S) = (rowM M k).map ((fun x : List Bool × Nat => x.2) ∘ fun pr => (pr.1, hm c S pr.2)) := by
      unfold toM
      rw [List.map_map]; rfl
    rw [← e]
    exact h2
include hT
theorem same_law (hn : 0 < M.length) (hr : ∀ k, k < M.length → (rowM M k).length ≤ 100) (hs : M.length ≤ 64) :
    F_l_same [(false, machD M), (false, machD (lesM c M S))] = .ok (false, .bl true) [some (false, machD M), some (false, machD (lesM c M S))] := by
  have hl := les_len hF
  have P0 : clA c 0 ∈ S.map (clA c) ∧ hm c S 0 = 0 := by
    obtain ⟨r, e⟩ := hF.ok.z
    refine ⟨by rw [e]; simp, ?_⟩
    unfold hm
    rw [e, List.map_cons, ixOf, if_pos rfl]
  have loop : ∀ (d a : Nat) (row : List (Nat × Nat)) (x4 x5 : Option T), RowP (fun p => p.1 < M.length ∧ clA c p.1 ∈ S.map (clA c) ∧ p.2 = hm c S p.1) 0 row → a ≤ row.length → M.length ≤ a + d →
      ∃ y2 y3 y4 y5, xWU (sB (sBin opLt (sVar 3) (sCl cfLen (sCons (sVar 2) sNil)))) b_l_same_L2 [some (false, machD M), some (false, machD (lesM c M S)), some (true, .lst (row.map ppD)), some (false, .int a), x4, x5] =
        .ok .nx [some (false, machD M), some (false, machD (lesM c M S)), y2, y3, y4, y5] := by
    have len : ∀ row, RowP (fun p => p.1 < M.length ∧ clA c p.1 ∈ S.map (clA c) ∧ p.2 = hm c S p.1) 0 row → row.length ≤ M.length := fun row h => by
      have nd : (row.map (·.1)).Nodup := by
        have h1 := h.nd
        have h2 := h.ok
        clear h
        induction row with
        | nil => simp
        | cons p row ih =>
          obtain ⟨n1, n2⟩ := List.nodup_cons.mp h1
          rw [List.map_cons, List.nodup_cons]
          refine ⟨fun hx => ?_, ih n2 fun q hq => h2 q (List.mem_cons_of_mem _ hq)⟩
          obtain ⟨q, hq, e⟩ := List.mem_map.mp hx
          have a1 := (h2 q (List.mem_cons_of_mem _ hq)).2.2
          have a2 := (h2 p List.mem_cons_self).2.2
          have : q = p := Prod.ext e (by rw [a1, a2, e])
          rw [this] at hq
          exact n1 hq
      have := nd_sub_len nd (r := List.range M.length) fun x hx => by
        obtain ⟨q, hq, rfl⟩ := List.mem_map.mp hx
        exact List.mem_range.mpr (h.ok q hq).1
      simpa using this
    intro d
    induction d with
    | zero =>
      intro a row x4 x5 h h1 h2
      have hlen := len row h
      have z1 : ¬ (a : Int) < row.length := by omega
      have z2 : ¬ a < row.length := by omega
      have lr : (row.map ppD).length = row.length := List.length_map _
      refine ⟨some (true, .lst (row.map ppD)), some (false, .int a), x4, x5, ?_⟩
      generalize row.map ppD = RD at *
      exact xWU_stop (by simp [lr, z1, z2])
    | succ d ih =>
      intro a row x4 x5 h h1 h2
      have hlen := len row h
      have lr : (row.map ppD).length = row.length := List.length_map _
      by_cases hlt : a < row.length
      · have hp : row.getD a (0, 0) ∈ row := by rw [List.getD_eq_getElem?_getD, List.getElem?_eq_getElem hlt]; exact List.getElem_mem hlt
        have hat := rows_at hlt
        generalize row.getD a (0, 0) = p at hp hat
        obtain ⟨k, i⟩ := p
        obtain ⟨k1, k2, k3⟩ := h.ok _ hp
        dsimp only at k1 k2 k3
        subst k3
        have rE := les_rowE hC hF k1 k2
        have hml := hm_lt hF k2
        have m1 := mach_at k1
        have m2 := mach_at (M := lesM c M S) (k := hm c S k) (by rw [hl]; exact hml)
        rw [rE] at m2
        have ez : ((rowM M k).zip ((rowM M k).map fun pr => (pr.1, hm c S pr.2))) = (rowM M k).map fun pr => (pr, (pr.1, hm c S pr.2)) := by
          generalize rowM M k = l
          induction l with
          | nil => rfl
          | cons x l ih => rw [List.map_cons, List.zip_cons_cons, List.map_cons, ih]
        have hrk := hr k k1
        obtain ⟨z4, z5, q⟩ := same_inner (y0 := some (false, machD M)) (y1 := some (false, machD (lesM c M S))) (y3 := some (false, .int a)) ((rowM M k).zip ((rowM M k).map fun pr => (pr.1, hm c S pr.2))) row x4 x5 (fun q hq => by
          rw [ez] at hq
          obtain ⟨pr, _, rfl⟩ := List.mem_map.mp hq
          rfl) (by rw [ez, List.length_map]; omega)
        have ok2 := foldP_ok (n := 0) (f := fun q : (List Bool × Nat) × (List Bool × Nat) => (q.1.2, q.2.2)) ((rowM M k).zip ((rowM M k).map fun pr => (pr.1, hm c S pr.2))) row h fun q hq => by
          rw [ez] at hq
          obtain ⟨pr, hpr, rfl⟩ := List.mem_map.mp hq
          have ht : pr.2 ∈ toM M k := List.mem_map.mpr ⟨pr, hpr, rfl⟩
          exact ⟨hT k k1 _ ht, (les_same hC hF k1 k2).2.2 _ ht, rfl⟩
        have pre2 := (foldP_pre (f := fun q : (List Bool × Nat) × (List Bool × Nat) => (q.1.2, q.2.2)) ((rowM M k).zip ((rowM M k).map fun pr => (pr.1, hm c S pr.2))) row).length_le
        rw [← zip_zp] at q
        generalize (((rowM M k).zip ((rowM M k).map fun pr => (pr.1, hm c S pr.2))).foldl (fun r q => addP2 r (q.1.2, q.2.2)) row) = row2 at *
        obtain ⟨y2, y3, y4, y5, q2⟩ := ih (a + 1) row2 z4 z5 ok2 (by omega) (by omega)
        refine ⟨y2, y3, y4, y5, ?_⟩
        rw [← q2]
        have hlt2 : (a : Int) < row.length := by omega
        have i0 : opIx (ppD (k, hm c S k)) (.int 0) = some (false, .int k) := rfl
        have i1 : opIx (ppD (k, hm c S k)) (.int 1) = some (false, .int (hm c S k)) := rfl
        have es1 : standD (rowM M k) = .tup ((rowM M k).map pairD) := rfl
        have es2 : standD ((rowM M k).map fun pr => (pr.1, hm c S pr.2)) = .tup (((rowM M k).map fun pr => (pr.1, hm c S pr.2)).map pairD) := rfl
        rw [es1] at m1
        rw [es2] at m2
        generalize (rowM M k).map pairD = P1 at *
        generalize ((rowM M k).map fun pr => (pr.1, hm c S pr.2)).map pairD = P2 at *
        generalize row.map ppD = RD at *
        generalize row2.map ppD = RD2 at *
        generalize ppD (k, hm c S k) = PK at *
        generalize machD M = MD at *
        generalize machD (lesM c M S) = AD at *
        have ca : ((a + 1 : Nat) : Int) = (a : Int) + 1 := by omega
        rw [ca]
        exact xWU_nx (ρ1 := [some (false, MD), some (false, AD), some (true, .lst RD), some (false, .int a), x4, x5]) (by simp [lr, hlt2, hlt]) (by simp [b_l_same_L2, hat, i0, i1, m1, m2, q, -opIx_lst])
      · have z1 : ¬ (a : Int) < row.length := by omega
        refine ⟨some (true, .lst (row.map ppD)), some (false, .int a), x4, x5, ?_⟩
        generalize row.map ppD = RD at *
        exact xWU_stop (by simp [lr, z1, hlt])
  obtain ⟨y2, y3, y4, y5, q⟩ := loop M.length 0 [(0, 0)] none none ⟨by simp, fun p hp => by
    rw [List.mem_singleton.mp hp]
    exact ⟨hn, P0.1, P0.2.symm⟩⟩ (by simp) (by omega)
  have e0 : ([(0, 0)] : List (Nat × Nat)).map ppD = [.tup [.int ((0 : Nat) : Int), .int ((0 : Nat) : Int)]] := rfl
  have z0 : ((0 : Nat) : Int) = 0 := rfl
  rw [e0, z0] at q
  generalize machD M = MD at *
  generalize machD (lesM c M S) = AD at *
  simp [F_l_same, b_l_same, q]
end
end Lz
namespace Lz
open PySem PySem.Spec PyProof.Rows L2
theorem ppNK : NK ppD (fun x => .tup [.num x.1, .num x.2]) := (NKD.nat.pair NKD.nat).key (by decide) fun a => ⟨_, rfl⟩
abbrev metD (row : List (Nat × Nat)) : List (D × D) := dctG ppD (fun _ => D.bl true) row 0
abbrev PrQ := (List Bool × Nat) × (List Bool × Nat)
theorem ap_inner {y0 y1 y2 y5 y6 y7 : Option T} : ∀ (l : List PrQ) (row : List (Nat × Nat)) (x8 x9 : Option T), row.length + l.length ≤ 10000 →
    ((∀ q ∈ l, q.1.1 = q.2.1) ∧ ∃ y8 y9, forL (gTp 2 (gCn (gN 8) (gCn (gN 9) gNl))) b_l_are_apart_L1 (l.map zpD) [y0, y1, y2, some (true, .lst (row.map ppD)), some (true, .dct (metD row)), y5, y6, y7, x8, x9] =
      .ok .nx [y0, y1, y2, some (true, .lst ((l.foldl (fun r (q : PrQ) => addP2 r (q.1.2, q.2.2)) row).map ppD)), some (true, .dct (metD (l.foldl (fun r (q : PrQ) => addP2 r (q.1.2, q.2.2)) row))), y5, y6, y7, y8, y9]) ∨
    ∃ y3 y4 y8 y9, forL (gTp 2 (gCn (gN 8) (gCn (gN 9) gNl))) b_l_are_apart_L1 (l.map zpD) [y0, y1, y2, some (true, .lst (row.map ppD)), some (true, .dct (metD row)), y5, y6, y7, x8, x9] =
      .ok (.rt (false, .bl true)) [y0, y1, y2, y3, y4, y5, y6, y7, y8, y9]
  | [], row, x8, x9, _ => .inl ⟨fun q h => (by cases h), x8, x9, rfl⟩
  | q :: l, row, x8, x9, hl => by
    simp only [List.length_cons] at hl
    obtain ⟨⟨p0, p1⟩, ⟨r0, r1⟩⟩ := q
    have ez : zpD ((p0, p1), (r0, r1)) = .tup [pairD (p0, p1), pairD (r0, r1)] := rfl
    have s1 : opIx (pairD (p0, p1)) (.int 0) = some (false, setD p0) := rfl
    have s2 : opIx (pairD (r0, r1)) (.int 0) = some (false, setD r0) := rfl
    have s3 : opIx (pairD (p0, p1)) (.int 1) = some (false, .int p1) := rfl
    have s4 : opIx (pairD (r0, r1)) (.int 1) = some (false, .int r1) := rfl
    have e0 := set_eq p0 r0
    by_cases h0 : p0 = r0
    · rw [decide_eq_true h0] at e0
      have la : (addP2 row (p1, r1)).length ≤ row.length + 1 := by unfold addP2; split <;> simp
      have n1 := notIn_G (val := fun _ => D.bl true) ppNK row (p1, r1)
      have ep : ppD (p1, r1) = .tup [.int p1, .int r1] := rfl
      rw [ep] at n1
      have lr : (row.map ppD).length = row.length := List.length_map _
      have hz : row.length < 16777216 := by omega
      have lm : (metD row).length = row.length := dctG_len row 0
      have key : forL (gTp 2 (gCn (gN 8) (gCn (gN 9) gNl))) b_l_are_apart_L1 ((((p0, p1), (r0, r1)) :: l).map zpD) [y0, y1, y2, some (true, .lst (row.map ppD)), some (true, .dct (metD row)), y5, y6, y7, x8, x9] =
          forL (gTp 2 (gCn (gN 8) (gCn (gN 9) gNl))) b_l_are_apart_L1 (l.map zpD) [y0, y1, y2, some (true, .lst ((addP2 row (p1, r1)).map ppD)), some (true, .dct (metD (addP2 row (p1, r1)))), y5, y6, y7, some (false, pairD (p0, p1)), some (false, pairD (r0, r1))] := by
        rw [List.map_cons, ez]
        by_cases hin : (p1, r1) ∈ row
        · have n1 : opNotInT (.tup [.int p1, .int r1]) (.dct (metD row)) = some (false, .bl false) := by rw [n1]; simp [hin]
          have ea : addP2 row (p1, r1) = row := if_pos hin
          rw [ea]
          generalize metD row = MT at *
          generalize row.map ppD = RD at *
          generalize pairD (p0, p1) = A1 at *
          generalize pairD (r0, r1) = A2 at *
          generalize setD p0 = SD at *
          generalize setD r0 = SD2 at *
          simp [b_l_are_apart_L1, s1, s2, s3, s4, e0, n1, -opIx_lst]
        · have n1 : opNotInT (.tup [.int p1, .int r1]) (.dct (metD row)) = some (false, .bl true) := by rw [n1]; simp [hin]
          have ea : addP2 row (p1, r1) = row ++ [(p1, r1)] := if_neg hin
          have em : (row ++ [(p1, r1)]).map ppD = row.map ppD ++ [.tup [.int p1, .int r1]] := by rw [List.map_append]; rfl
          have hp : dPut (metD row) (.tup [.int p1, .int r1]) (.tup [.num p1, .num r1]) (.bl true) = metD (row ++ [(p1, r1)]) := put_G (w := ppD) (val := fun _ => D.bl true) ppNK hin
          have hk : nkOf (.tup [.int p1, .int r1]) = some (.tup [.num p1, .num r1]) := ppNK.key (p1, r1)
          rw [ea, em]
          generalize metD (row ++ [(p1, r1)]) = MT2 at *
          generalize metD row = MT at *
          generalize row.map ppD = RD at *
          generalize pairD (p0, p1) = A1 at *
          generalize pairD (r0, r1) = A2 at *
          generalize setD p0 = SD at *
          generalize setD r0 = SD2 at *
          simp [b_l_are_apart_L1, s1, s2, s3, s4, e0, n1, lr, lm, hz, hp, hk, -opIx_lst]
      rcases ap_inner (y0 := y0) (y1 := y1) (y2 := y2) (y5 := y5) (y6 := y6) (y7 := y7) l (addP2 row (p1, r1)) (some (false, pairD (p0, p1))) (some (false, pairD (r0, r1))) (by omega) with ⟨a1, y8, y9, q⟩ | ⟨y3, y4, y8, y9, q⟩
      · refine .inl ⟨fun x hx => ?_, y8, y9, by rw [key, q]; rfl⟩
        rcases List.mem_cons.mp hx with rfl | hx
        · exact h0
        · exact a1 x hx
      · exact .inr ⟨y3, y4, y8, y9, by rw [key, q]⟩
    · rw [decide_eq_false h0] at e0
      refine .inr ⟨some (true, .lst (row.map ppD)), some (true, .dct (metD row)), some (false, pairD (p0, p1)), some (false, pairD (r0, r1)), ?_⟩
      rw [List.map_cons, ez]
      generalize metD row = MT at *
      generalize row.map ppD = RD at *
      generalize pairD (p0, p1) = A1 at *
      generalize pairD (r0, r1) = A2 at *
      generalize setD p0 = SD at *
      generalize setD r0 = SD2 at *
      simp [b_l_are_apart_L1, s1, s2, e0, -opIx_lst]
end Lz
namespace Lz
open PySem PySem.Spec PyProof.Rows L2
def ClP (A : Mach) (row : List (Nat × Nat)) (p : Nat × Nat) : Prop := outM A p.1 = outM A p.2 ∧ ∀ j, j < (toM A p.1).length → ((toM A p.1).getD j 0, (toM A p.2).getD j 0) ∈ row
def prodN (m : Nat) : List (Nat × Nat) := (List.range m).flatMap fun i => (List.range m).map fun j => (i, j)
theorem prodN_len (m : Nat) : (prodN m).length = m * m := by
  unfold prodN
  rw [List.length_flatMap]
  have : ((List.range m).map fun i => ((List.range m).map fun j => (i, j)).length) = List.replicate m m := by
    apply List.ext_getElem (by simp)
    intro i h1 h2
    simp
  rw [this, List.sum_replicate_nat]
theorem prodN_mem {m i j : Nat} (hi : i < m) (hj : j < m) : (i, j) ∈ prodN m := by
  unfold prodN
  exact List.mem_flatMap.mpr ⟨i, List.mem_range.mpr hi, List.mem_map.mpr ⟨j, List.mem_range.mpr hj, rfl⟩⟩
theorem zip_out {l r : List (List Bool × Nat)} (hl : l.length = r.length) (h : ∀ q ∈ l.zip r, q.1.1 = q.2.1) : l.map (·.1) = r.map (·.1) := by
  induction l generalizing r with
  | nil =>
    cases r with
    | nil => rfl
    | cons _ _ => simp at hl
  | cons a l ih =>
    cases r with
    | nil => simp at hl
    | cons b r =>
      simp only [List.length_cons, Nat.add_right_cancel_iff] at hl
      rw [List.map_cons, List.map_cons, ih hl fun q hq => h q (by rw [List.zip_cons_cons]; exact List.mem_cons_of_mem _ hq)]
      have := h (a, b) (by rw [List.zip_cons_cons]; exact List.mem_cons_self)
      dsimp only at this
      rw [this]
section
variable {A : Mach} {L : Nat} (hT : ∀ k, k < A.length → ∀ t ∈ toM A k, t < A.length) (hL : ∀ k, k < A.length → (rowM A k).length = L) (hL2 : L ≤ 100) (hs : A.length ≤ 64)
include hT hL hL2 hs
theorem ap_loop {y1 y2 : Option T} : ∀ (d a : Nat) (row : List (Nat × Nat)) (x6 x7 x8 x9 : Option T), RowP (fun p => p.1 < A.length ∧ p.2 < A.length) 0 row → a ≤ row.length → A.length * A.length ≤ a + d → (∀ j, j < a → ClP A row (row.getD j (0, 0))) →
    (∃ y3 y4 y5 y6 y7 y8 y9, xWU (sB (sBin opLt (sVar 5) (sCl cfLen (sCons (sVar 3) sNil)))) b_l_are_apart_L2 [some (false, machD A), y1, y2, some (true, .lst (row.map ppD)), some (true, .dct (metD row)), some (false, .int a), x6, x7, x8, x9] =
      .ok (.rt (false, .bl true)) [some (false, machD A), y1, y2, y3, y4, y5, y6, y7, y8, y9]) ∨
    ∃ row2, row <+: row2 ∧ RowP (fun p => p.1 < A.length ∧ p.2 < A.length) 0 row2 ∧ ∀ p ∈ row2, ClP A row2 p := by
  have len : ∀ row, RowP (fun p => p.1 < A.length ∧ p.2 < A.length) 0 row → row.length ≤ A.length * A.length := fun row h => by
    have := nd_sub_len h.nd (r := prodN A.length) fun p hp => prodN_mem (h.ok p hp).1 (h.ok p hp).2
    rw [prodN_len] at this
    exact this
  have big : A.length * A.length ≤ 64 * 64 := Nat.mul_le_mul hs hs
  have stop : ∀ (a : Nat) (row : List (Nat × Nat)), RowP (fun p => p.1 < A.length ∧ p.2 < A.length) 0 row → ¬ a < row.length → (∀ j, j < a → ClP A row (row.getD j (0, 0))) → ∃ row2, row <+: row2 ∧ RowP (fun p => p.1 < A.length ∧ p.2 < A.length) 0 row2 ∧ ∀ p ∈ row2, ClP A row2 p := fun a row h ha hc => by
    refine ⟨row, List.prefix_refl _, h, fun p hp => ?_⟩
    obtain ⟨j, hj, e⟩ := List.mem_iff_getElem.mp hp
    have := hc j (by omega)
    rw [List.getD_eq_getElem?_getD, List.getElem?_eq_getElem hj] at this
    rw [← e]
    exact this
  intro d
  induction d with
  | zero =>
    intro a row x6 x7 x8 x9 h h1 h2 hc
    have := len row h
    exact .inr (stop a row h (by omega) hc)
  | succ d ih =>
    intro a row x6 x7 x8 x9 h h1 h2 hc
    have hlen := len row h
    by_cases hlt : a < row.length
    · have hp : row.getD a (0, 0) ∈ row := by rw [List.getD_eq_getElem?_getD, List.getElem?_eq_getElem hlt]; exact List.getElem_mem hlt
      have hat := rows_at hlt
      generalize hpe : row.getD a (0, 0) = p at hp hat
      obtain ⟨k, i⟩ := p
      obtain ⟨k1, k2⟩ := h.ok _ hp
      dsimp only at k1 k2
      have m1 := mach_at k1
      have m2 := mach_at k2
      have L1 := hL k k1
      have L2 := hL i k2
      have lz : ((rowM A k).zip (rowM A i)).length = L := by rw [List.length_zip, L1, L2]; exact Nat.min_self L
      have lr : (row.map ppD).length = row.length := List.length_map _
      have hlt2 : (a : Int) < row.length := by omega
      have i0 : opIx (ppD (k, i)) (.int 0) = some (false, .int k) := rfl
      have i1 : opIx (ppD (k, i)) (.int 1) = some (false, .int i) := rfl
      have es1 : standD (rowM A k) = .tup ((rowM A k).map pairD) := rfl
      have es2 : standD (rowM A i) = .tup ((rowM A i).map pairD) := rfl
      have epp : ppD (k, i) = .tup [.int k, .int i] := rfl
      rw [es1] at m1
      rw [es2] at m2
      rw [epp] at hat
      rcases ap_inner (y0 := some (false, machD A)) (y1 := y1) (y2 := y2) (y5 := some (false, .int a)) (y6 := some (false, .int k)) (y7 := some (false, .int i)) ((rowM A k).zip (rowM A i)) row x8 x9 (by rw [lz]; omega) with ⟨o1, z8, z9, q⟩ | ⟨z3, z4, z8, z9, q⟩
      · have ok2 := foldP_ok (n := 0) (f := fun q : PrQ => (q.1.2, q.2.2)) ((rowM A k).zip (rowM A i)) row h fun q hq => by
          have := List.of_mem_zip hq
          exact ⟨hT k k1 _ (List.mem_map.mpr ⟨q.1, this.1, rfl⟩), hT i k2 _ (List.mem_map.mpr ⟨q.2, this.2, rfl⟩)⟩
        have pre2 := foldP_pre (f := fun q : PrQ => (q.1.2, q.2.2)) ((rowM A k).zip (rowM A i)) row
        have mem2 := foldP_mem (f := fun q : PrQ => (q.1.2, q.2.2)) ((rowM A k).zip (rowM A i)) row
        rw [← zip_zp] at q
        generalize (((rowM A k).zip (rowM A i)).foldl (fun r (q : PrQ) => addP2 r (q.1.2, q.2.2)) row) = row2 at *
        have pl := pre2.length_le
        have cl2 : ∀ j, j < a + 1 → ClP A row2 (row2.getD j (0, 0)) := fun j hj => by
          obtain ⟨rest, er⟩ := pre2
          have eg : row2.getD j (0, 0) = row.getD j (0, 0) := by
            rw [← er, List.getD_eq_getElem?_getD, List.getD_eq_getElem?_getD, List.getElem?_append_left (by omega)]
          rw [eg]
          by_cases hja : j < a
          · obtain ⟨c1, c2⟩ := hc j hja
            exact ⟨c1, fun j2 h2 => by rw [← er]; exact List.mem_append_left _ (c2 j2 h2)⟩
          · have : j = a := by omega
            subst this
            rw [hpe]
            refine ⟨zip_out (by rw [L1, L2]) o1, fun j2 hj2 => ?_⟩
            have hj2 : j2 < L := by
              have e : (toM A k).length = L := by unfold toM; rw [List.length_map, L1]
              rw [← e]; exact hj2
            have hz : j2 < ((rowM A k).zip (rowM A i)).length := by rw [lz]; exact hj2
            have := mem2 _ (List.getElem_mem hz)
            rw [List.getElem_zip] at this
            have g1 : (toM A k).getD j2 0 = ((rowM A k)[j2]'(by omega)).2 := by unfold toM; rw [List.getD_eq_getElem?_getD, List.getElem?_map, List.getElem?_eq_getElem (by omega)]; rfl
            have g2 : (toM A i).getD j2 0 = ((rowM A i)[j2]'(by omega)).2 := by unfold toM; rw [List.getD_eq_getElem?_getD, List.getElem?_map, List.getElem?_eq_getElem (by omega)]; rfl
            dsimp only
            rw [g1, g2]
            exact this
        have step : xWU (sB (sBin opLt (sVar 5) (sCl cfLen (sCons (sVar 3) sNil)))) b_l_are_apart_L2 [some (false, machD A), y1, y2, some (true, .lst (row.map ppD)), some (true, .dct (metD row)), some (false, .int a), x6, x7, x8, x9] =
            xWU (sB (sBin opLt (sVar 5) (sCl cfLen (sCons (sVar 3) sNil)))) b_l_are_apart_L2 [some (false, machD A), y1, y2, some (true, .lst (row2.map ppD)), some (true, .dct (metD row2)), some (false, .int (a + 1 : Nat)), some (false, .int k), some (false, .int i), z8, z9] := by
          have ca : ((a + 1 : Nat) : Int) = (a : Int) + 1 := by omega
          rw [ca]
          clear cl2 mem2 ok2
          generalize (rowM A k).map pairD = P1 at *
          generalize (rowM A i).map pairD = P2 at *
          generalize row.map ppD = RD at *
          generalize row2.map ppD = RD2 at *
          generalize metD row = MT at *
          generalize metD row2 = MT2 at *
          generalize machD A = MD at *
          exact xWU_nx (ρ1 := [some (false, MD), y1, y2, some (true, .lst RD), some (true, .dct MT), some (false, .int a), x6, x7, x8, x9]) (by simp [lr, hlt2, hlt]) (by simp [b_l_are_apart_L2, hat, m1, m2, q, -opIx_lst])
        rcases ih (a + 1) row2 (some (false, .int k)) (some (false, .int i)) z8 z9 ok2 (by omega) (by omega) cl2 with ⟨y3, y4, y5, y6, y7, y8, y9, g⟩ | ⟨row3, g1, g2, g3⟩
        · exact .inl ⟨y3, y4, y5, y6, y7, y8, y9, by rw [step]; exact g⟩
        · exact .inr ⟨row3, pre2.trans g1, g2, g3⟩
      · refine .inl ⟨z3, z4, some (false, .int a), some (false, .int k), some (false, .int i), z8, z9, ?_⟩
        rw [← zip_zp] at q
        generalize (rowM A k).map pairD = P1 at *
        generalize (rowM A i).map pairD = P2 at *
        generalize row.map ppD = RD at *
        generalize metD row = MT at *
        generalize machD A = MD at *
        exact xWU_rt (ρ1 := [some (false, MD), y1, y2, some (true, .lst RD), some (true, .dct MT), some (false, .int a), x6, x7, x8, x9]) (by simp [lr, hlt2, hlt]) (by simp [b_l_are_apart_L2, hat, m1, m2, q, -opIx_lst])
    · exact .inr (stop a row h hlt hc)
/-- two stands that nothing holds together are told apart -/
theorem are_apart_sp (hB : ∀ B, Bis A B → ∀ i i', B i i' → i = i') {i j : Nat} (hi : i < A.length) (hj : j < A.length) (hne : i ≠ j) :
    F_l_are_apart [(false, machD A), (false, .int i), (false, .int j)] = .ok (false, .bl true) [some (false, machD A), some (false, .int i), some (false, .int j)] := by
  rcases ap_loop hT hL hL2 hs (y1 := some (false, .int i)) (y2 := some (false, .int j)) (A.length * A.length) 0 [(i, j)] none none none none ⟨by simp, fun p hp => by rw [List.mem_singleton.mp hp]; exact ⟨hi, hj⟩⟩ (by simp) (by omega) (fun j h => by omega) with ⟨y3, y4, y5, y6, y7, y8, y9, q⟩ | ⟨row2, g1, g2, g3⟩
  · have e1 : ([(i, j)] : List (Nat × Nat)).map ppD = [.tup [.int i, .int j]] := rfl
    have e2 : metD [(i, j)] = [(.tup [.int i, .int j], .bl true)] := rfl
    have z0 : ((0 : Nat) : Int) = 0 := rfl
    rw [e1, e2, z0] at q
    have hk : nkOf (.tup [.int i, .int j]) = some (.tup [.num i, .num j]) := ppNK.key (i, j)
    generalize machD A = MD at *
    simp [F_l_are_apart, b_l_are_apart, hk, q]
  · refine absurd (hB (fun a b => (a, b) ∈ row2) ⟨fun a b h => g2.ok _ h, fun a b h => (g3 _ h).1, fun a b h j hj => (g3 _ h).2 j hj⟩ i j (g1.subset (by simp))) hne
end
end Lz
namespace Lz
open PySem PySem.Spec PyProof.Rows L2
theorem rngN (n : Nat) : ∀ a : Nat, rngL a 1 n = (List.range' a n).map fun k : Nat => D.int k := by
  induction n with
  | zero => intro a; rfl
  | succ n ih =>
    intro a
    rw [rngL_cons, List.range'_succ, List.map_cons]
    have := ih (a + 1)
    rw [Int.natCast_add, Int.natCast_one] at this
    rw [this]
theorem rngN0 (n : Nat) : rngL 0 1 n = natsL (List.range n) := by
  unfold natsL
  rw [List.range_eq_range']
  exact rngN n 0
def addF (r : List Nat) (t : Nat) : List Nat := if t ∈ r then r else r ++ [t]
theorem il_inner {y0 y2 y5 y6 : Option T} : ∀ (l : List (List Bool × Nat)) (row : List Nat) (x3 x4 : Option T), row.length + l.length ≤ 1000 →
    ∃ y3 y4, forL (gTp 2 (gCn (gN 3) (gCn (gN 4) gNl))) b_l_is_least_L1 (l.map pairD) [y0, some (true, .lst (natsL row)), y2, x3, x4, y5, y6] =
      .ok .nx [y0, some (true, .lst (natsL ((l.map (·.2)).foldl addF row))), y2, y3, y4, y5, y6]
  | [], row, x3, x4, _ => ⟨x3, x4, rfl⟩
  | pr :: l, row, x3, x4, hl => by
    simp only [List.length_cons] at hl
    have la : (addF row pr.2).length ≤ row.length + 1 := by unfold addF; split <;> simp
    obtain ⟨y3, y4, q⟩ := il_inner (y0 := y0) (y2 := y2) (y5 := y5) (y6 := y6) l (addF row pr.2) (some (false, setD pr.1)) (some (false, .int pr.2)) (by omega)
    refine ⟨y3, y4, ?_⟩
    rw [List.map_cons, List.map_cons, List.foldl_cons, ← q]
    have hin : inD (.int pr.2) (.lst (natsL row)) = some (decide (pr.2 ∈ row)) := by
      unfold natsL
      rw [PT.nat.inD (by decide) pr.2 row]
    have lr : (natsL row).length = row.length := by unfold natsL; rw [List.length_map]
    have hz : row.length < 16777216 := by omega
    by_cases h : pr.2 ∈ row
    · rw [decide_eq_true h] at hin
      have ea : addF row pr.2 = row := if_pos h
      rw [ea]
      generalize natsL row = NR at *
      simp [pairD, b_l_is_least_L1, hin]
    · rw [decide_eq_false h] at hin
      have ea : addF row pr.2 = row ++ [pr.2] := if_neg h
      have en : natsL (row ++ [pr.2]) = natsL row ++ [.int pr.2] := by unfold natsL; rw [List.map_append]; rfl
      rw [ea, en]
      generalize natsL row = NR at *
      simp [pairD, b_l_is_least_L1, hin, lr, hz]
section
variable {c : List Nat} {M : Mach} {m : Nat} {S : List Nat} (hC : Cls M c) (hF : Fin c M m S) (hT : ∀ k, k < M.length → ∀ t ∈ toM M k, t < M.length) {L : Nat} (hL : ∀ k, k < M.length → (rowM M k).length = L) (hL2 : L ≤ 100) (hs : M.length ≤ 64)
include hF hL hL2 hs
theorem il_loop {y5 y6 : Option T} : ∀ (n a : Nat) (x2 x3 x4 : Option T), a + n = m → ∃ y2 y3 y4, forL (gN 2) b_l_is_least_L2 (rngL a 1 n) [some (false, machD (lesM c M S)), some (true, .lst (natsL (List.range (stg c M a).length))), x2, x3, x4, y5, y6] =
    .ok .nx [some (false, machD (lesM c M S)), some (true, .lst (natsL (List.range m))), y2, y3, y4, y5, y6] := by
  have hl := les_len hF
  have lS := hF.ok.len
  rw [hF.len] at lS
  intro n
  induction n with
  | zero =>
    intro a x2 x3 x4 ha
    have ha : a = m := by omega
    subst ha
    refine ⟨x2, x3, x4, ?_⟩
    rw [← hF.e, hF.len]
    rfl
  | succ n ih =>
    intro a x2 x3 x4 ha
    have ha' : a < m := by omega
    have hu := hF.up a ha'
    have pl := (hF.pre a (by omega)).length_le
    rw [hF.len] at pl
    have lr : (rowM (lesM c M S) a).length = L := by
      rw [les_row hF ha', List.length_map]
      exact hL _ (S_at hF ha').1
    obtain ⟨z3, z4, q⟩ := il_inner (y0 := some (false, machD (lesM c M S))) (y2 := some (false, .int a)) (y5 := y5) (y6 := y6) (rowM (lesM c M S) a) (List.range (stg c M a).length) x3 x4 (by rw [List.length_range, lr]; omega)
    have e1 : stg c M (a + 1) = feed c (stg c M a) (toM M (S.getD a 0)) := by
      show (if a < (stg c M a).length then feed c (stg c M a) (toM M ((stg c M a).getD a 0)) else _) = _
      rw [if_pos hu, hF.at_ a ha']
    have et : (rowM (lesM c M S) a).map (·.2) = (toM M (S.getD a 0)).map (hm c S) := les_to hF ha'
    have ef : ((rowM (lesM c M S) a).map (·.2)).foldl addF (List.range (stg c M a).length) = List.range (stg c M (a + 1)).length := by
      rw [et, e1]
      refine feed_hm hF _ _ (hF.pre a (by omega)) ?_ (hF.cl a ha')
      have := hF.pre (a + 1) ha'
      rw [e1] at this
      exact this
    rw [ef] at q
    obtain ⟨y2, y3, y4, q2⟩ := ih (a + 1) (some (false, .int a)) z3 z4 (by omega)
    refine ⟨y2, y3, y4, ?_⟩
    rw [← q2, rngL_cons, Int.natCast_add, Int.natCast_one]
    have n1 := natsL_at (S := List.range (stg c M a).length) (k := a) (by simpa using hu)
    have e2 : (List.range (stg c M a).length).getD a 0 = a := by simp [List.getD_eq_getElem?_getD, hu]
    rw [e2] at n1
    have m1 := mach_at (M := lesM c M S) (k := a) (by rw [hl]; exact ha')
    have es : standD (rowM (lesM c M S) a) = .tup ((rowM (lesM c M S) a).map pairD) := rfl
    rw [es] at m1
    have ln : (natsL (List.range (stg c M a).length)).length = (stg c M a).length := by unfold natsL; rw [List.length_map, List.length_range]
    have z1 : ¬ ((stg c M a).length : Int) ≤ a := by omega
    have z2 : ¬ (stg c M a).length ≤ a := by omega
    generalize (rowM (lesM c M S) a).map pairD = RP at *
    generalize natsL (List.range (stg c M a).length) = N1 at *
    generalize natsL (List.range (stg c M (a + 1)).length) = N2 at *
    generalize machD (lesM c M S) = AD at *
    simp [b_l_is_least_L2, ln, z1, z2, n1, m1, q, -opIx_lst]
include hC hT
theorem is_least_law : F_l_is_least [(false, machD (lesM c M S))] = .ok (false, .bl true) [some (false, machD (lesM c M S))] := by
  have hl := les_len hF
  have lS := hF.ok.len
  rw [hF.len] at lS
  have hT2 := lesT hC hF hT
  have hLA : ∀ k, k < (lesM c M S).length → (rowM (lesM c M S) k).length = L := fun k hk => by
    rw [hl] at hk
    rw [les_row hF hk, List.length_map]
    exact hL _ (S_at hF hk).1
  have apart := fun i j hi hj hne => are_apart_sp hT2 hLA hL2 (by omega) (fun B hB i i' h => les_bis hC hF hT hB h) (i := i) (j := j) hi hj hne
  obtain ⟨y2, y3, y4, q1⟩ := il_loop hF hL hL2 hs (y5 := none) (y6 := none) m 0 none none none (by omega)
  have s0 : (stg c M 0).length = 1 := rfl
  rw [s0] at q1
  have inner : ∀ (i : Nat), i < m → ∀ (n a : Nat) (z1 z2 z3 z4 x6 : Option T), a + n = i → ∃ y6, forL (gN 6) b_l_is_least_L3 (rngL a 1 n) [some (false, machD (lesM c M S)), z1, z2, z3, z4, some (false, .int i), x6] =
      .ok .nx [some (false, machD (lesM c M S)), z1, z2, z3, z4, some (false, .int i), y6] := by
    intro i hi n
    induction n with
    | zero => exact fun a z1 z2 z3 z4 x6 _ => ⟨x6, rfl⟩
    | succ n ih =>
      intro a z1 z2 z3 z4 x6 ha
      obtain ⟨y6, q⟩ := ih (a + 1) z1 z2 z3 z4 (some (false, .int a)) (by omega)
      have ap := apart i a (by omega) (by omega) (by omega)
      refine ⟨y6, ?_⟩
      rw [← q, rngL_cons, Int.natCast_add, Int.natCast_one]
      generalize machD (lesM c M S) = AD at *
      simp [b_l_is_least_L3, ap]
  have outer : ∀ (n a : Nat) (z1 z2 z3 z4 x5 x6 : Option T), a + n = m → ∃ y5 y6, forL (gN 5) b_l_is_least_L4 (rngL a 1 n) [some (false, machD (lesM c M S)), z1, z2, z3, z4, x5, x6] =
      .ok .nx [some (false, machD (lesM c M S)), z1, z2, z3, z4, y5, y6] := by
    intro n
    induction n with
    | zero => exact fun a z1 z2 z3 z4 x5 x6 _ => ⟨x5, x6, rfl⟩
    | succ n ih =>
      intro a z1 z2 z3 z4 x5 x6 ha
      obtain ⟨z6, q0⟩ := inner a (by omega) a 0 z1 z2 z3 z4 x6 (by omega)
      obtain ⟨y5, y6, q⟩ := ih (a + 1) z1 z2 z3 z4 (some (false, .int a)) z6 (by omega)
      refine ⟨y5, y6, ?_⟩
      rw [← q, rngL_cons, Int.natCast_add, Int.natCast_one]
      have r1 : (a : Int) ≤ 16777216 := by omega
      have z0 : ((0 : Nat) : Int) = 0 := rfl
      rw [z0] at q0
      generalize machD (lesM c M S) = AD at *
      simp [b_l_is_least_L4, r1, q0]
  obtain ⟨y5, y6, q2⟩ := outer m 0 (some (true, .lst (natsL (List.range m)))) y2 y3 y4 none none (by omega)
  have hlen : cfLen [machD (lesM c M S)] = some (false, .int m) := by unfold machD; simp [hl]
  have r1 : (m : Int) ≤ 16777216 := by omega
  have eq : eqD (.lst (natsL (List.range m))) (.lst (rngL 0 1 m)) = some true := by
    rw [rngN0]
    have := PT.nat.lst.eqD (by decide) (List.range m) (List.range m)
    rw [decide_eq_true rfl] at this
    exact this
  have n0 : natsL (List.range 1) = [D.int 0] := rfl
  have z0 : ((0 : Nat) : Int) = 0 := rfl
  rw [n0, z0] at q1
  rw [z0] at q2
  generalize machD (lesM c M S) = AD at *
  have rk : rgOkB 0 (m : Int) := by unfold rgOkB; omega
  simp [F_l_is_least, b_l_is_least, hlen, r1, q1, eq, q2, rk]
end
theorem law_k20 (ns : List Int) (hl : ns.length ≤ 63) : ∃ outs, F_law_k20 [(false, .scr ns)] = .ok (false, .bl true) outs := by
  obtain ⟨b, g, h1⟩ := book_sp ns hl 40 1 0 (by decide)
  have hb := g.ok (by decide) (by decide)
  have F := hb.toForm
  obtain ⟨M, hM, _, h2⟩ := l_machine_sp ns hl 0 b.foe.length b.fri.length 8 F.f1 F.f2 F.r1 F.r2 (by decide) (by decide)
  obtain ⟨i0, i1, i2, i3, i4⟩ := b.ix
  have hlen1 : cfLen [nmD b.foe] = some (false, .int b.foe.length) := by unfold nmD; simp
  have hlen2 : cfLen [nmD b.fri] = some (false, .int b.fri.length) := by unfold nmD; simp
  have prep : ∀ {A : Mach}, MOk b.foe.length b.fri.length A → 0 < A.length ∧ (∀ k, k < A.length → ∀ t ∈ toM A k, t < A.length) ∧ (∀ k, k < A.length → (rowM A k).length = 2 ^ b.foe.length) ∧ A.length ≤ 64 := fun {A} h => by
    have inM : ∀ {s : Nat}, s < A.length → rowM A s ∈ A := fun {s} hs => by
      unfold rowM
      rw [List.getD_eq_getElem?_getD, List.getElem?_eq_getElem hs]
      exact List.getElem_mem hs
    refine ⟨h.m1, fun k hk t ht => ?_, fun k hk => h.sl _ (inM hk), h.m64⟩
    obtain ⟨pr, hp, rfl⟩ := List.mem_map.mp ht
    exact (h.pl _ (inM hk) pr hp).2
  have p4 : 2 ^ b.foe.length ≤ 100 := by
    have : 2 ^ b.foe.length ≤ 2 ^ 2 := Nat.pow_le_pow_right (by decide) F.f2
    omega
  obtain ⟨a1, a2, a3, a4⟩ := prep hM
  obtain ⟨c, m, S, hC, hF, q1⟩ := lesser_of_sp a1 a2 (fun k hk => by rw [a3 k hk]; exact p4) a4
  have hA := les_mok hC hF a2 hM
  obtain ⟨b1, b2, b3, b4⟩ := prep hA
  obtain ⟨d, m', S', hD, hF', q2⟩ := lesser_of_sp b1 b2 (fun k hk => by rw [b3 k hk]; exact p4) b4
  rw [les_les hC hF a2 hD hF'] at q2
  have c1 := checked_machine_sp b hb M hM
  have c2 := checked_machine_sp b hb _ hA
  have w1 := is_machine_law hA F.f1 F.f2 F.r1 F.r2
  have w2 := same_law hC hF a2 a1 (fun k hk => by rw [a3 k hk]; exact p4) a4
  have w3 := is_least_law hC hF a2 a3 p4 a4
  have eq := ptMach.eqD (by decide) (lesM c M S) (lesM c M S)
  rw [decide_eq_true rfl] at eq
  refine ⟨[some (false, .scr ns)], ?_⟩
  simp at h1 h2
  generalize machD (lesM c M S) = AD at *
  generalize machD M = MD at *
  have g1 : F_lesser_k20 [(false, b.toD), (false, MD)] = .ok (false, AD) [some (false, b.toD), some (false, MD)] := by simp [F_lesser_k20, b_lesser_k20, c1, q1]
  have g2 : F_lesser_k20 [(false, b.toD), (false, AD)] = .ok (false, AD) [some (false, b.toD), some (false, AD)] := by simp [F_lesser_k20, b_lesser_k20, c2, q2]
  simp [F_law_k20, b_law_k20, h1, i0, i1, hlen1, hlen2, h2, g1, g2, w1, w2, w3, eq]
end Lz
namespace Lz
open PySem PySem.Spec PyProof.Rows L2
structure Tx (K : PySem.W.Frag) (mg : Str → Option Value) : Prop where
  n_all : mg "all" = none
  n_any : mg "any" = none
  n_bool : mg "bool" = none
  n_int : mg "int" = none
  n_isinstance : mg "isinstance" = none
  n_len : mg "len" = none
  n_list : mg "list" = none
  n_range : mg "range" = none
  n_str : mg "str" = none
  n_tuple : mg "tuple" = none
  n_zip : mg "zip" = none
  g_is_whole : mg "is_whole" = some (.ref (He.fAd K ("is_whole", none)))
  g_between : mg "between" = some (.ref (He.fAd K ("between", none)))
  g_is_name : mg "is_name" = some (.ref (He.fAd K ("is_name", none)))
  g_is_saying : mg "is_saying" = some (.ref (He.fAd K ("is_saying", none)))
  g_parts_of : mg "parts_of" = some (.ref (He.fAd K ("parts_of", none)))
  g_gathered : mg "gathered" = some (.ref (He.fAd K ("gathered", none)))
  g_are_names : mg "are_names" = some (.ref (He.fAd K ("are_names", none)))
  g_stands_free : mg "stands_free" = some (.ref (He.fAd K ("stands_free", none)))
  g_are_sayings : mg "are_sayings" = some (.ref (He.fAd K ("are_sayings", none)))
  g_is_wish : mg "is_wish" = some (.ref (He.fAd K ("is_wish", none)))
  g_sayings_of : mg "sayings_of" = some (.ref (He.fAd K ("sayings_of", none)))
  g_pieces_of : mg "pieces_of" = some (.ref (He.fAd K ("pieces_of", none)))
  g_is_book : mg "is_book" = some (.ref (He.fAd K ("is_book", none)))
  g_checked : mg "checked" = some (.ref (He.fAd K ("checked", none)))
  g_is_setting : mg "is_setting" = some (.ref (He.fAd K ("is_setting", none)))
  g_settings_of : mg "settings_of" = some (.ref (He.fAd K ("settings_of", none)))
  g_is_stand : mg "is_stand" = some (.ref (He.fAd K ("is_stand", none)))
  g_is_machine : mg "is_machine" = some (.ref (He.fAd K ("is_machine", none)))
  g_need_machine : mg "need_machine" = some (.ref (He.fAd K ("need_machine", none)))
  g_checked_machine : mg "checked_machine" = some (.ref (He.fAd K ("checked_machine", none)))
  g_numbered : mg "numbered" = some (.ref (He.fAd K ("numbered", none)))
  g_lesser_of : mg "lesser_of" = some (.ref (He.fAd K ("lesser_of", none)))
  g_lesser : mg "lesser" = some (.ref (He.fAd K ("lesser", none)))
  g_l_cell_at : mg "_law_cell_at" = some (.ref (He.fAd K ("_law_cell_at", none)))
  g_l_mixed : mg "_law_mixed" = some (.ref (He.fAd K ("_law_mixed", none)))
  g_l_next : mg "_law_next" = some (.ref (He.fAd K ("_law_next", none)))
  g_l_names : mg "_law_names" = some (.ref (He.fAd K ("_law_names", none)))
  g_l_saying : mg "_law_saying" = some (.ref (He.fAd K ("_law_saying", none)))
  g_l_promise : mg "_law_promise" = some (.ref (He.fAd K ("_law_promise", none)))
  g_l_book : mg "_law_book" = some (.ref (He.fAd K ("_law_book", none)))
  g_l_settings : mg "_law_settings" = some (.ref (He.fAd K ("_law_settings", none)))
  g_l_machine : mg "_law_machine" = some (.ref (He.fAd K ("_law_machine", none)))
  g_l_whole : mg "_law_whole" = some (.ref (He.fAd K ("_law_whole", none)))
  g_l_is_machine : mg "_law_is_machine" = some (.ref (He.fAd K ("_law_is_machine", none)))
  g_l_are_apart : mg "_law_are_apart" = some (.ref (He.fAd K ("_law_are_apart", none)))
  g_l_is_least : mg "_law_is_least" = some (.ref (He.fAd K ("_law_is_least", none)))
  g_l_same : mg "_law_same" = some (.ref (He.fAd K ("_law_same", none)))
  g_law : mg "law" = some (.ref (He.fAd K ("law", none)))
  d_is_whole : ∃ fd, FunD K "is_whole" "is_whole" (defArgs s_is_whole) (defBody s_is_whole) (defScope s_is_whole) [] [] (He.fAd K ("is_whole", none)) fd
  d_between : ∃ fd, FunD K "between" "between" (defArgs s_between) (defBody s_between) (defScope s_between) [] [] (He.fAd K ("between", none)) fd
  d_is_name : ∃ fd, FunD K "is_name" "is_name" (defArgs s_is_name) (defBody s_is_name) (defScope s_is_name) [] [] (He.fAd K ("is_name", none)) fd
  d_is_saying : ∃ fd, FunD K "is_saying" "is_saying" (defArgs s_is_saying) (defBody s_is_saying) (defScope s_is_saying) [] [] (He.fAd K ("is_saying", none)) fd
  d_parts_of : ∃ fd, FunD K "parts_of" "parts_of" (defArgs s_parts_of) (defBody s_parts_of) (defScope s_parts_of) [] [] (He.fAd K ("parts_of", none)) fd
  d_gathered : ∃ fd, FunD K "gathered" "gathered" (defArgs s_gathered) (defBody s_gathered) (defScope s_gathered) [] [] (He.fAd K ("gathered", none)) fd
  d_are_names : ∃ fd, FunD K "are_names" "are_names" (defArgs s_are_names) (defBody s_are_names) (defScope s_are_names) [] [] (He.fAd K ("are_names", none)) fd
  d_stands_free : ∃ fd, FunD K "stands_free" "stands_free" (defArgs s_stands_free) (defBody s_stands_free) (defScope s_stands_free) [] [] (He.fAd K ("stands_free", none)) fd
  d_are_sayings : ∃ fd, FunD K "are_sayings" "are_sayings" (defArgs s_are_sayings) (defBody s_are_sayings) (defScope s_are_sayings) [] [] (He.fAd K ("are_sayings", none)) fd
  d_is_wish : ∃ fd, FunD K "is_wish" "is_wish" (defArgs s_is_wish) (defBody s_is_wish) (defScope s_is_wish) [] [] (He.fAd K ("is_wish", none)) fd
  d_sayings_of : ∃ fd, FunD K "sayings_of" "sayings_of" (defArgs s_sayings_of) (defBody s_sayings_of) (defScope s_sayings_of) [] [] (He.fAd K ("sayings_of", none)) fd
  d_pieces_of : ∃ fd, FunD K "pieces_of" "pieces_of" (defArgs s_pieces_of) (defBody s_pieces_of) (defScope s_pieces_of) [] [] (He.fAd K ("pieces_of", none)) fd
  d_is_book : ∃ fd, FunD K "is_book" "is_book" (defArgs s_is_book) (defBody s_is_book) (defScope s_is_book) [] [] (He.fAd K ("is_book", none)) fd
  d_checked : ∃ fd, FunD K "checked" "checked" (defArgs s_checked) (defBody s_checked) (defScope s_checked) [] [] (He.fAd K ("checked", none)) fd
  d_is_setting : ∃ fd, FunD K "is_setting" "is_setting" (defArgs s_is_setting) (defBody s_is_setting) (defScope s_is_setting) [] [] (He.fAd K ("is_setting", none)) fd
  d_settings_of : ∃ fd, FunD K "settings_of" "settings_of" (defArgs s_settings_of) (defBody s_settings_of) (defScope s_settings_of) [] [] (He.fAd K ("settings_of", none)) fd
  d_is_stand : ∃ fd, FunD K "is_stand" "is_stand" (defArgs s_is_stand) (defBody s_is_stand) (defScope s_is_stand) [] [] (He.fAd K ("is_stand", none)) fd
  d_is_machine : ∃ fd, FunD K "is_machine" "is_machine" (defArgs s_is_machine) (defBody s_is_machine) (defScope s_is_machine) [] [] (He.fAd K ("is_machine", none)) fd
  d_need_machine : ∃ fd, FunD K "need_machine" "need_machine" (defArgs s_need_machine) (defBody s_need_machine) (defScope s_need_machine) [] [] (He.fAd K ("need_machine", none)) fd
  d_checked_machine : ∃ fd, FunD K "checked_machine" "checked_machine" (defArgs s_checked_machine) (defBody s_checked_machine) (defScope s_checked_machine) [] [] (He.fAd K ("checked_machine", none)) fd
  d_numbered : ∃ fd, FunD K "numbered" "numbered" (defArgs s_numbered) (defBody s_numbered) (defScope s_numbered) [] [] (He.fAd K ("numbered", none)) fd
  d_lesser_of : ∃ fd, FunD K "lesser_of" "lesser_of" (defArgs s_lesser_of) (defBody s_lesser_of) (defScope s_lesser_of) [] [] (He.fAd K ("lesser_of", none)) fd
  d_lesser : ∃ fd, FunD K "lesser" "lesser" (defArgs s_lesser) (defBody s_lesser) (defScope s_lesser) [] [] (He.fAd K ("lesser", none)) fd
  d_l_cell_at : ∃ fd, FunD K "_law_cell_at" "_law_cell_at" (defArgs s_l_cell_at) (defBody s_l_cell_at) (defScope s_l_cell_at) [] [] (He.fAd K ("_law_cell_at", none)) fd
  d_l_mixed : ∃ fd, FunD K "_law_mixed" "_law_mixed" (defArgs s_l_mixed) (defBody s_l_mixed) (defScope s_l_mixed) [] [] (He.fAd K ("_law_mixed", none)) fd
  d_l_next : ∃ fd, FunD K "_law_next" "_law_next" (defArgs s_l_next) (defBody s_l_next) (defScope s_l_next) [] [] (He.fAd K ("_law_next", none)) fd
  d_l_names : ∃ fd, FunD K "_law_names" "_law_names" (defArgs s_l_names) (defBody s_l_names) (defScope s_l_names) [] [] (He.fAd K ("_law_names", none)) fd
  d_l_saying : ∃ fd, FunD K "_law_saying" "_law_saying" (defArgs s_l_saying) (defBody s_l_saying) (defScope s_l_saying) [] [] (He.fAd K ("_law_saying", none)) fd
  d_l_promise : ∃ fd, FunD K "_law_promise" "_law_promise" (defArgs s_l_promise) (defBody s_l_promise) (defScope s_l_promise) [] [] (He.fAd K ("_law_promise", none)) fd
  d_l_book : ∃ fd, FunD K "_law_book" "_law_book" (defArgs s_l_book) (defBody s_l_book) (defScope s_l_book) [] [] (He.fAd K ("_law_book", none)) fd
  d_l_settings : ∃ fd, FunD K "_law_settings" "_law_settings" (defArgs s_l_settings) (defBody s_l_settings) (defScope s_l_settings) [] [] (He.fAd K ("_law_settings", none)) fd
  d_l_machine : ∃ fd, FunD K "_law_machine" "_law_machine" (defArgs s_l_machine) (defBody s_l_machine) (defScope s_l_machine) [] [] (He.fAd K ("_law_machine", none)) fd
  d_l_whole : ∃ fd, FunD K "_law_whole" "_law_whole" (defArgs s_l_whole) (defBody s_l_whole) (defScope s_l_whole) [] [] (He.fAd K ("_law_whole", none)) fd
  d_l_is_machine : ∃ fd, FunD K "_law_is_machine" "_law_is_machine" (defArgs s_l_is_machine) (defBody s_l_is_machine) (defScope s_l_is_machine) [] [] (He.fAd K ("_law_is_machine", none)) fd
  d_l_are_apart : ∃ fd, FunD K "_law_are_apart" "_law_are_apart" (defArgs s_l_are_apart) (defBody s_l_are_apart) (defScope s_l_are_apart) [] [] (He.fAd K ("_law_are_apart", none)) fd
  d_l_is_least : ∃ fd, FunD K "_law_is_least" "_law_is_least" (defArgs s_l_is_least) (defBody s_l_is_least) (defScope s_l_is_least) [] [] (He.fAd K ("_law_is_least", none)) fd
  d_l_same : ∃ fd, FunD K "_law_same" "_law_same" (defArgs s_l_same) (defBody s_l_same) (defScope s_l_same) [] [] (He.fAd K ("_law_same", none)) fd
  d_law : ∃ fd, FunD K "law" "law" (defArgs s_law) (defBody s_law) (defScope s_law) [] [] (He.fAd K ("law", none)) fd
  c_DEPTH : ∃ t, mg "DEPTH" = some (.int 8 t)
  c_DOUBLE : ∃ a, mg "DOUBLE" = some (.ref a) ∧ KTup K a ((["and", "or", "then", "same", "since"] : List Str).map V.str)
  c_LETTERS : ∃ t, mg "LETTERS" = some (.str "abcdefghijklmnopqrstuvwxyz" t)
  c_PAST : ∃ a, mg "PAST" = some (.ref a) ∧ KTup K a ((["before", "once", "sofar", "since"] : List Str).map V.str)
  c_PIECES : ∃ t, mg "PIECES" = some (.int 4 t)
  c_PRICE : ∃ t, mg "PRICE" = some (.int 99 t)
  c_SINGLE : ∃ a, mg "SINGLE" = some (.ref a) ∧ KTup K a ((["not", "before", "once", "sofar"] : List Str).map V.str)
  c_STANDS : ∃ t, mg "STANDS" = some (.int 64 t)
  c_WORDS : ∃ a, mg "WORDS" = some (.ref a) ∧ KTup K a ((["yes", "no", "not", "and", "or", "then", "same", "before", "once", "sofar", "since", "foe", "friend", "promise", "must", "wish"] : List Str).map V.str)
  e_NoBook : mg "NoBook" = some (.ref (He.ga K "NoBook"))
  q_NoBook : (He.Fa.exc "NoBook").ok K = true
  e_NoMachine : mg "NoMachine" = some (.ref (He.ga K "NoMachine"))
  q_NoMachine : (He.Fa.exc "NoMachine").ok K = true
section
variable {P : Program} {w : World} {K : PySem.W.Frag} {mg : Str → Option Value} {base : Heap}
theorem sc_is_whole : FnScope ["thing"] ["thing"] (defScope s_is_whole) := ⟨rfl, rfl, rfl, by decide +kernel, rfl, by decide +kernel, by decide +kernel⟩
theorem ok_is_whole (t : Tx K mg) : OkF P w K mg base "is_whole" 1 F_is_whole := by
  obtain ⟨fd, F⟩ := t.d_is_whole
  refine ⟨_, fd, ["thing"], fn_ok F sc_is_whole (by decide) (by decide) (fun cdv A outer s H E hr => ?_), t.g_is_whole, F.kp, F.bindsN fun _ _ _ _ _ _ us hl => match us, hl with | [_], _ => rfl⟩
  have hu := room_u hr
  exact (ss_cons (ss_ret (se_and (isi t.n_isinstance t.n_int (va 0)) (se_one (se_not (isi t.n_isinstance t.n_bool (va 0)))))) ss_nil)
theorem sc_between : FnScope ["thing", "low", "most"] ["thing", "low", "most"] (defScope s_between) := ⟨rfl, rfl, rfl, by decide +kernel, rfl, by decide +kernel, by decide +kernel⟩
theorem ok_between (t : Tx K mg) : OkF P w K mg base "between" 2 F_between := by
  obtain ⟨fd, F⟩ := t.d_between
  refine ⟨_, fd, ["thing", "low", "most"], fn_ok F sc_between (by decide) (by decide) (fun cdv A outer s H E hr => ?_), t.g_between, F.kp, F.bindsN fun _ _ _ _ _ _ us hl => match us, hl with | [_, _, _], _ => rfl⟩
  have hu := room_u hr
  exact (ss_cons (ss_ret (se_and (cf (ok_is_whole t) (hr.mono (by first | omega | decide)) (takes_of rfl rfl rfl rfl) (ac (va 0) an)) (se_one (chn (or_le) (or_le) (va 1) (va 0) (va 2))))) ss_nil)
theorem sc_is_name : FnScope ["thing", "sign"] ["thing"] (defScope s_is_name) := ⟨rfl, rfl, rfl, by decide +kernel, rfl, by decide +kernel, by decide +kernel⟩
theorem ok_is_name (t : Tx K mg) : OkF P w K mg base "is_name" 1 F_is_name := by
  obtain ⟨fd, F⟩ := t.d_is_name
  refine ⟨_, fd, ["thing"], fn_ok F sc_is_name (by decide) (by decide) (fun cdv A outer s H E hr => ?_), t.g_is_name, F.kp, F.bindsN fun _ _ _ _ _ _ us hl => match us, hl with | [_], _ => rfl⟩
  have hu := room_u hr
  exact (ss_cons (ss_if (sw_or (sb_not (tv (isi t.n_isinstance t.n_str (va 0)))) (sw_or (sb_not (chnB (or_le) (or_le) se_int (cb (cr_len) t.n_len (ac (va 0) an)) se_int)) (sw_or1 (cmB (or_in hu) (va 0) (gTup (zs := ["yes", "no", "not", "and", "or", "then", "same", "before", "once", "sofar", "since", "foe", "friend", "promise", "must", "wish"]) t.c_WORDS))))).sb (ss_cons (ss_ret se_bl) ss_nil) ss_nil) (ss_cons (ss_ret (cb (cr_allD rfl) t.n_all (ac (se_comp (own := [("sign", 1)]) rfl sc_is_name.nd (si_seq (va 0)) (blkOk_by (N := ["thing", "sign"]) (sc := defScope s_is_name) (by decide +kernel)) (fun _ _ _ _ _ => (gn (pin := notOwn 2 [1]) 1 sc_is_name.nd (by decide))) (fun _ _ _ _ _ => sc_nil) (fun _ _ _ _ _ => (cm (or_in hu) (va 1) (gStr t.c_LETTERS))) (by intro _; rfl)) an))) ss_nil))
theorem sc_is_saying : FnScope ["names", "thing", "most", "part"] ["names", "thing", "most"] (defScope s_is_saying) := ⟨rfl, rfl, rfl, by decide +kernel, rfl, by decide +kernel, by decide +kernel⟩
theorem okR_is_saying (t : Tx K mg) : ∀ n, OkF P w K mg base "is_saying" (0 + n) (R_is_saying n)
  | 0 => by
    obtain ⟨fd, F⟩ := t.d_is_saying
    exact ⟨_, fd, ["names", "thing", "most"], fn_bad (N := ["names", "thing", "most"]), t.g_is_saying, F.kp, F.bindsN fun _ _ _ _ _ _ us hl => match us, hl with | [_, _, _], _ => rfl⟩
  | n + 1 => by
    have ih := okR_is_saying t n
    exact by
      obtain ⟨fd, F⟩ := t.d_is_saying
      refine ⟨_, fd, ["names", "thing", "most"], fn_ok F sc_is_saying (by decide) (by decide) (fun cdv A outer s H E hr => ?_), t.g_is_saying, F.kp, F.bindsN fun _ _ _ _ _ _ us hl => match us, hl with | [_, _, _], _ => rfl⟩
      have hr : Room (0 + n) _ := hr
      have hu := room_u hr
      exact (ss_cons (ss_if (sw_or (cmB (or_eq (hu64 hu)) (va 2) se_int) (sw_or (sb_not (tv (isi t.n_isinstance t.n_tuple (va 1)))) (sw_or (cmB (or_eq (hu64 hu)) (cb (cr_len) t.n_len (ac (va 1) an)) se_int) (sw_or1 (sb_not (tv (isi t.n_isinstance t.n_str (ix (va 1) se_int)))))))).sb (ss_cons (ss_ret se_bl) ss_nil) ss_nil) (ss_cons (ss_if (cmB (or_eq (hu64 hu)) (ix (va 1) se_int) se_str) (ss_cons (ss_ret (se_and (cm (or_eq (hu64 hu)) (cb (cr_len) t.n_len (ac (va 1) an)) se_int) (se_and (isi t.n_isinstance t.n_str (ix (va 1) se_int)) (se_one (cm (or_in hu) (ix (va 1) se_int) (va 0)))))) ss_nil) ss_nil) (ss_cons (ss_if (sw_or (cmB (or_eq (hu64 hu)) (ix (va 1) se_int) se_str) (sw_or1 (cmB (or_eq (hu64 hu)) (ix (va 1) se_int) se_str))).sb (ss_cons (ss_ret (cm (or_eq (hu64 hu)) (cb (cr_len) t.n_len (ac (va 1) an)) se_int)) ss_nil) ss_nil) (ss_cons (ss_if (sw_and (cmB (or_notIn hu) (ix (va 1) se_int) (gTup (zs := ["not", "before", "once", "sofar"]) t.c_SINGLE)) (sw_and1 (cmB (or_notIn hu) (ix (va 1) se_int) (gTup (zs := ["and", "or", "then", "same", "since"]) t.c_DOUBLE)))).sb (ss_cons (ss_ret se_bl) ss_nil) ss_nil) (ss_cons (ss_if (cmB (or_ne (hu64 hu)) (cb (cr_len) t.n_len (ac (va 1) an)) (se_bin or_add se_int (ct (cr_int) t.n_int (ac (cm (or_in hu) (ix (va 1) se_int) (gTup (zs := ["and", "or", "then", "same", "since"]) t.c_DOUBLE)) an)))) (ss_cons (ss_ret se_bl) ss_nil) ss_nil) (ss_cons (ss_ret (cb (cr_allD rfl) t.n_all (ac (se_comp (own := [("part", 3)]) rfl sc_is_saying.nd (si_seq (sl (va 1) (so_some se_int) so_none)) (blkOk_by (N := ["names", "thing", "most", "part"]) (sc := defScope s_is_saying) (by decide +kernel)) (fun _ _ _ _ _ => (gn (pin := notOwn 4 [3]) 3 sc_is_saying.nd (by decide))) (fun _ _ _ _ _ => sc_nil) (fun _ _ _ _ _ => (cf ih (hr.mono (by first | omega | decide)) takes0 (ac (va 0) (ac (va 3) (ac (se_bin or_sub (va 2) se_int) an))))) (by intro _; rfl)) an))) ss_nil))))))
theorem ok_is_saying (t : Tx K mg) : OkF P w K mg base "is_saying" 24 F_is_saying := (okR_is_saying t 24)
theorem sc_parts_of : FnScope ["saying"] ["saying"] (defScope s_parts_of) := ⟨rfl, rfl, rfl, by decide +kernel, rfl, by decide +kernel, by decide +kernel⟩
theorem ok_parts_of (t : Tx K mg) : OkF P w K mg base "parts_of" 1 F_parts_of := by
  obtain ⟨fd, F⟩ := t.d_parts_of
  refine ⟨_, fd, ["saying"], fn_ok F sc_parts_of (by decide) (by decide) (fun cdv A outer s H E hr => ?_), t.g_parts_of, F.kp, F.bindsN fun _ _ _ _ _ _ us hl => match us, hl with | [_], _ => rfl⟩
  have hu := room_u hr
  exact (ss_cons (ss_if (cmB (or_eq (hu64 hu)) (ix (va 0) se_int) se_str) (ss_cons (ss_ret (se_tup an)) ss_nil) ss_nil) (ss_cons (ss_ret (sl (va 0) (so_some se_int) so_none)) ss_nil))
theorem sc_gathered : FnScope ["saying", "made", "part"] ["saying", "made"] (defScope s_gathered) := ⟨rfl, rfl, rfl, by decide +kernel, rfl, by decide +kernel, by decide +kernel⟩
theorem okR_gathered (t : Tx K mg) : ∀ n, OkF P w K mg base "gathered" (1 + n) (R_gathered n)
  | 0 => by
    obtain ⟨fd, F⟩ := t.d_gathered
    exact ⟨_, fd, ["saying", "made"], fn_bad (N := ["saying", "made"]), t.g_gathered, F.kp, F.bindsN fun _ _ _ _ _ _ us hl => match us, hl with | [_, _], _ => rfl⟩
  | n + 1 => by
    have ih := okR_gathered t n
    exact by
      obtain ⟨fd, F⟩ := t.d_gathered
      refine ⟨_, fd, ["saying", "made"], fn_ok F sc_gathered (by decide) (by decide) (fun cdv A outer s H E hr => ?_), t.g_gathered, F.kp, F.bindsN fun _ _ _ _ _ _ us hl => match us, hl with | [_, _], _ => rfl⟩
      have hr : Room (1 + n) _ := hr
      have hu := room_u hr
      exact (ss_cons (ss_if (sw_and (cmB (or_in hu) (ix (va 0) se_int) (gTup (zs := ["before", "once", "sofar", "since"]) t.c_PAST)) (sw_and1 (cmB (or_notIn hu) (va 0) (va 1)))).sb (ss_cons (ex (mApp (va 1) (ac (va 0) an))) ss_nil) ss_nil) (ss_cons (fr (pin' := [0, 1]) (passes_of rfl) (by decide) (by decide) (si_seq (cf (ok_parts_of t) (hr.mono (by first | omega | decide)) (takes_of rfl rfl rfl rfl) (ac (va 0) an))) (gn 2 sc_gathered.nd (by decide)) (ss_cons (ex (cf ih (hr.mono (by first | omega | decide)) (takes_of rfl rfl rfl rfl) (ac (va 2) (ac (va 1) an)))) ss_nil)) ss_nil))
theorem ok_gathered (t : Tx K mg) : OkF P w K mg base "gathered" 25 F_gathered := (okR_gathered t 24)
theorem sc_are_names : FnScope ["thing", "name"] ["thing"] (defScope s_are_names) := ⟨rfl, rfl, rfl, by decide +kernel, rfl, by decide +kernel, by decide +kernel⟩
theorem ok_are_names (t : Tx K mg) : OkF P w K mg base "are_names" 2 F_are_names := by
  obtain ⟨fd, F⟩ := t.d_are_names
  refine ⟨_, fd, ["thing"], fn_ok F sc_are_names (by decide) (by decide) (fun cdv A outer s H E hr => ?_), t.g_are_names, F.kp, F.bindsN fun _ _ _ _ _ _ us hl => match us, hl with | [_], _ => rfl⟩
  have hu := room_u hr
  exact (ss_cons (ss_ret (se_and (isi t.n_isinstance t.n_tuple (va 0)) (se_and (chn (or_le) (or_le) se_int (cb (cr_len) t.n_len (ac (va 0) an)) se_int) (se_one (cb (cr_allD rfl) t.n_all (ac (se_comp (own := [("name", 1)]) rfl sc_are_names.nd (si_seq (va 0)) (blkOk_by (N := ["thing", "name"]) (sc := defScope s_are_names) (by decide +kernel)) (fun _ _ _ _ _ => (gn (pin := notOwn 2 [1]) 1 sc_are_names.nd (by decide))) (fun _ _ _ _ _ => sc_nil) (fun _ _ _ _ _ => (cf (ok_is_name t) (hr.mono (by first | omega | decide)) takes0 (ac (va 1) an))) (by intro _; rfl)) an)))))) ss_nil)
theorem sc_stands_free : FnScope ["saying", "names", "part"] ["saying", "names"] (defScope s_stands_free) := ⟨rfl, rfl, rfl, by decide +kernel, rfl, by decide +kernel, by decide +kernel⟩
theorem okR_stands_free (t : Tx K mg) : ∀ n, OkF P w K mg base "stands_free" (1 + n) (R_stands_free n)
  | 0 => by
    obtain ⟨fd, F⟩ := t.d_stands_free
    exact ⟨_, fd, ["saying", "names"], fn_bad (N := ["saying", "names"]), t.g_stands_free, F.kp, F.bindsN fun _ _ _ _ _ _ us hl => match us, hl with | [_, _], _ => rfl⟩
  | n + 1 => by
    have ih := okR_stands_free t n
    exact by
      obtain ⟨fd, F⟩ := t.d_stands_free
      refine ⟨_, fd, ["saying", "names"], fn_ok F sc_stands_free (by decide) (by decide) (fun cdv A outer s H E hr => ?_), t.g_stands_free, F.kp, F.bindsN fun _ _ _ _ _ _ us hl => match us, hl with | [_, _], _ => rfl⟩
      have hr : Room (1 + n) _ := hr
      have hu := room_u hr
      exact (ss_cons (ss_if (cmB (or_eq (hu64 hu)) (ix (va 0) se_int) se_str) (ss_cons (ss_ret (cm (or_in hu) (ix (va 0) se_int) (va 1))) ss_nil) ss_nil) (ss_cons (ss_if (cmB (or_eq (hu64 hu)) (ix (va 0) se_int) se_str) (ss_cons (ss_ret se_bl) ss_nil) ss_nil) (ss_cons (ss_ret (cb (cr_anyD rfl) t.n_any (ac (se_comp (own := [("part", 2)]) rfl sc_stands_free.nd (si_seq (cf (ok_parts_of t) (hr.mono (by first | omega | decide)) (takes_of rfl rfl rfl rfl) (ac (va 0) an))) (blkOk_by (N := ["saying", "names", "part"]) (sc := defScope s_stands_free) (by decide +kernel)) (fun _ _ _ _ _ => (gn (pin := notOwn 3 [2]) 2 sc_stands_free.nd (by decide))) (fun _ _ _ _ _ => sc_nil) (fun _ _ _ _ _ => (cf ih (hr.mono (by first | omega | decide)) takes0 (ac (va 2) (ac (va 1) an)))) (by intro _; rfl)) an))) ss_nil)))
theorem ok_stands_free (t : Tx K mg) : OkF P w K mg base "stands_free" 25 F_stands_free := (okR_stands_free t 24)
theorem sc_are_sayings : FnScope ["thing", "names", "most", "saying"] ["thing", "names", "most"] (defScope s_are_sayings) := ⟨rfl, rfl, rfl, by decide +kernel, rfl, by decide +kernel, by decide +kernel⟩
theorem ok_are_sayings (t : Tx K mg) : OkF P w K mg base "are_sayings" 25 F_are_sayings := by
  obtain ⟨fd, F⟩ := t.d_are_sayings
  refine ⟨_, fd, ["thing", "names", "most"], fn_ok F sc_are_sayings (by decide) (by decide) (fun cdv A outer s H E hr => ?_), t.g_are_sayings, F.kp, F.bindsN fun _ _ _ _ _ _ us hl => match us, hl with | [_, _, _], _ => rfl⟩
  have hu := room_u hr
  exact (ss_cons (ss_if (sw_or (sb_not (tv (isi t.n_isinstance t.n_tuple (va 0)))) (sw_or1 (cmB (or_gt) (cb (cr_len) t.n_len (ac (va 0) an)) (va 2)))).sb (ss_cons (ss_ret se_bl) ss_nil) ss_nil) (ss_cons (ss_ret (cb (cr_allD rfl) t.n_all (ac (se_comp (own := [("saying", 3)]) rfl sc_are_sayings.nd (si_seq (va 0)) (blkOk_by (N := ["thing", "names", "most", "saying"]) (sc := defScope s_are_sayings) (by decide +kernel)) (fun _ _ _ _ _ => (gn (pin := notOwn 4 [3]) 3 sc_are_sayings.nd (by decide))) (fun _ _ _ _ _ => sc_nil) (fun _ _ _ _ _ => (cf (ok_is_saying t) (hr.mono (by first | omega | decide)) takes0 (ac (va 1) (ac (va 3) (ac (gInt t.c_DEPTH) an))))) (by intro _; rfl)) an))) ss_nil))
theorem sc_is_wish : FnScope ["thing", "names"] ["thing", "names"] (defScope s_is_wish) := ⟨rfl, rfl, rfl, by decide +kernel, rfl, by decide +kernel, by decide +kernel⟩
theorem ok_is_wish (t : Tx K mg) : OkF P w K mg base "is_wish" 25 F_is_wish := by
  obtain ⟨fd, F⟩ := t.d_is_wish
  refine ⟨_, fd, ["thing", "names"], fn_ok F sc_is_wish (by decide) (by decide) (fun cdv A outer s H E hr => ?_), t.g_is_wish, F.kp, F.bindsN fun _ _ _ _ _ _ us hl => match us, hl with | [_, _], _ => rfl⟩
  have hu := room_u hr
  exact (ss_cons (ss_if (sw_or (sb_not (tv (isi t.n_isinstance t.n_tuple (va 0)))) (sw_or1 (cmB (or_ne (hu64 hu)) (cb (cr_len) t.n_len (ac (va 0) an)) se_int))).sb (ss_cons (ss_ret se_bl) ss_nil) ss_nil) (ss_cons (ss_ret (se_and (cf (ok_between t) (hr.mono (by first | omega | decide)) (takes_of rfl rfl rfl rfl) (ac (ix (va 0) se_int) (ac se_int (ac (gInt t.c_PRICE) an)))) (se_one (cf (ok_is_saying t) (hr.mono (by first | omega | decide)) (takes_of rfl rfl rfl rfl) (ac (va 1) (ac (ix (va 0) se_int) (ac (gInt t.c_DEPTH) an))))))) ss_nil))
theorem sc_sayings_of : FnScope ["book", "wish"] ["book"] (defScope s_sayings_of) := ⟨rfl, rfl, rfl, by decide +kernel, rfl, by decide +kernel, by decide +kernel⟩
theorem ok_sayings_of (t : Tx K mg) : OkF P w K mg base "sayings_of" 1 F_sayings_of := by
  obtain ⟨fd, F⟩ := t.d_sayings_of
  refine ⟨_, fd, ["book"], fn_ok F sc_sayings_of (by decide) (by decide) (fun cdv A outer s H E hr => ?_), t.g_sayings_of, F.kp, F.bindsN fun _ _ _ _ _ _ us hl => match us, hl with | [_], _ => rfl⟩
  have hu := room_u hr
  exact (ss_cons (ss_ret (se_bin or_add (se_bin or_add (ix (va 0) se_int) (ix (va 0) se_int)) (ct (cr_tuple) t.n_tuple (ac (se_comp (own := [("wish", 1)]) rfl sc_sayings_of.nd (si_seq (ix (va 0) se_int)) (blkOk_by (N := ["book", "wish"]) (sc := defScope s_sayings_of) (by decide +kernel)) (fun _ _ _ _ _ => (gn (pin := notOwn 2 [1]) 1 sc_sayings_of.nd (by decide))) (fun _ _ _ _ _ => sc_nil) (fun _ _ _ _ _ => (ix (va 1) se_int)) (by intro _; rfl)) an)))) ss_nil)
theorem sc_pieces_of : FnScope ["book", "made", "saying"] ["book"] (defScope s_pieces_of) := ⟨rfl, rfl, rfl, by decide +kernel, rfl, by decide +kernel, by decide +kernel⟩
theorem ok_pieces_of (t : Tx K mg) : OkF P w K mg base "pieces_of" 26 F_pieces_of := by
  obtain ⟨fd, F⟩ := t.d_pieces_of
  refine ⟨_, fd, ["book"], fn_ok F sc_pieces_of (by decide) (by decide) (fun cdv A outer s H E hr => ?_), t.g_pieces_of, F.kp, F.bindsN fun _ _ _ _ _ _ us hl => match us, hl with | [_], _ => rfl⟩
  have hu := room_u hr
  exact (ss_cons (st sc_pieces_of.nd (by decide) (se_lst an)) (ss_cons (fr (pin' := [0]) (passes_of rfl) (by decide) (by decide) (si_seq (cf (ok_sayings_of t) (hr.mono (by first | omega | decide)) (takes_of rfl rfl rfl rfl) (ac (va 0) an))) (gn 2 sc_pieces_of.nd (by decide)) (ss_cons (ex (cf (ok_gathered t) (hr.mono (by first | omega | decide)) (takes_of rfl rfl rfl rfl) (ac (va 2) (ac (va 1) an)))) ss_nil)) (ss_cons (ss_ret (va 1)) ss_nil)))
theorem sc_is_book : FnScope ["thing", "names", "name", "wish", "saying"] ["thing"] (defScope s_is_book) := ⟨rfl, rfl, rfl, by decide +kernel, rfl, by decide +kernel, by decide +kernel⟩
theorem ok_is_book (t : Tx K mg) : OkF P w K mg base "is_book" 27 F_is_book := by
  obtain ⟨fd, F⟩ := t.d_is_book
  refine ⟨_, fd, ["thing"], fn_ok F sc_is_book (by decide) (by decide) (fun cdv A outer s H E hr => ?_), t.g_is_book, F.kp, F.bindsN fun _ _ _ _ _ _ us hl => match us, hl with | [_], _ => rfl⟩
  have hu := room_u hr
  exact (ss_cons (ss_if (sw_or (sb_not (tv (isi t.n_isinstance t.n_tuple (va 0)))) (sw_or (cmB (or_ne (hu64 hu)) (cb (cr_len) t.n_len (ac (va 0) an)) se_int) (sw_or (sb_not (tv (cf (ok_are_names t) (hr.mono (by first | omega | decide)) (takes_of rfl rfl rfl rfl) (ac (ix (va 0) se_int) an)))) (sw_or1 (sb_not (tv (cf (ok_are_names t) (hr.mono (by first | omega | decide)) (takes_of rfl rfl rfl rfl) (ac (ix (va 0) se_int) an)))))))).sb (ss_cons (ss_ret se_bl) ss_nil) ss_nil) (ss_cons (st sc_is_book.nd (by decide) (se_bin or_add (ix (va 0) se_int) (ix (va 0) se_int))) (ss_cons (ss_if (sb_not (tv (cb (cr_allD rfl) t.n_all (ac (se_comp (own := [("name", 2)]) rfl sc_is_book.nd (si_seq (va 1)) (blkOk_by (N := ["thing", "names", "name", "wish", "saying"]) (sc := defScope s_is_book) (by decide +kernel)) (fun _ _ _ _ _ => (gn (pin := notOwn 5 [2]) 2 sc_is_book.nd (by decide))) (fun _ _ _ _ _ => sc_nil) (fun _ _ _ _ _ => (cm (or_eq (hu64 hu)) (tCount (va 1) (ac (va 2) an)) se_int)) (by intro _; rfl)) an)))) (ss_cons (ss_ret se_bl) ss_nil) ss_nil) (ss_cons (ss_if (sw_or (sb_not (tv (cf (ok_are_sayings t) (hr.mono (by first | omega | decide)) (takes_of rfl rfl rfl rfl) (ac (ix (va 0) se_int) (ac (va 1) (ac se_int an)))))) (sw_or1 (sb_not (tv (cf (ok_are_sayings t) (hr.mono (by first | omega | decide)) (takes_of rfl rfl rfl rfl) (ac (ix (va 0) se_int) (ac (va 1) (ac se_int an)))))))).sb (ss_cons (ss_ret se_bl) ss_nil) ss_nil) (ss_cons (ss_if (sw_or (sb_not (tv (isi t.n_isinstance t.n_tuple (ix (va 0) se_int)))) (sw_or1 (sb_not (chnB (or_le) (or_le) se_int (cb (cr_len) t.n_len (ac (ix (va 0) se_int) an)) se_int)))).sb (ss_cons (ss_ret se_bl) ss_nil) ss_nil) (ss_cons (ss_if (sb_not (tv (cb (cr_allD rfl) t.n_all (ac (se_comp (own := [("wish", 3)]) rfl sc_is_book.nd (si_seq (ix (va 0) se_int)) (blkOk_by (N := ["thing", "names", "name", "wish", "saying"]) (sc := defScope s_is_book) (by decide +kernel)) (fun _ _ _ _ _ => (gn (pin := notOwn 5 [3]) 3 sc_is_book.nd (by decide))) (fun _ _ _ _ _ => sc_nil) (fun _ _ _ _ _ => (cf (ok_is_wish t) (hr.mono (by first | omega | decide)) takes0 (ac (va 3) (ac (va 1) an)))) (by intro _; rfl)) an)))) (ss_cons (ss_ret se_bl) ss_nil) ss_nil) (ss_cons (ss_if (tv (cb (cr_anyD rfl) t.n_any (ac (se_comp (own := [("saying", 4)]) rfl sc_is_book.nd (si_seq (ix (va 0) se_int)) (blkOk_by (N := ["thing", "names", "name", "wish", "saying"]) (sc := defScope s_is_book) (by decide +kernel)) (fun _ _ _ _ _ => (gn (pin := notOwn 5 [4]) 4 sc_is_book.nd (by decide))) (fun _ _ _ _ _ => sc_nil) (fun _ _ _ _ _ => (cf (ok_stands_free t) (hr.mono (by first | omega | decide)) takes0 (ac (va 4) (ac (ix (va 0) se_int) an)))) (by intro _; rfl)) an))) (ss_cons (ss_ret se_bl) ss_nil) ss_nil) (ss_cons (ss_ret (cm (or_le) (cb (cr_len) t.n_len (ac (cf (ok_pieces_of t) (hr.mono (by first | omega | decide)) (takes_of rfl rfl rfl rfl) (ac (va 0) an)) an)) (gInt t.c_PIECES))) ss_nil))))))))
theorem sc_checked : FnScope ["book"] ["book"] (defScope s_checked) := ⟨rfl, rfl, rfl, by decide +kernel, rfl, by decide +kernel, by decide +kernel⟩
theorem ok_checked (t : Tx K mg) : OkF P w K mg base "checked" 28 F_checked := by
  obtain ⟨fd, F⟩ := t.d_checked
  refine ⟨_, fd, ["book"], fn_ok F sc_checked (by decide) (by decide) (fun cdv A outer s H E hr => ?_), t.g_checked, F.kp, F.bindsN fun _ _ _ _ _ _ us hl => match us, hl with | [_], _ => rfl⟩
  have hu := room_u hr
  exact (ss_cons (ss_if (sb_not (tv (cf (ok_is_book t) (hr.mono (by first | omega | decide)) (takes_of rfl rfl rfl rfl) (ac (va 0) an)))) (ss_cons (ss_raise rfl (takes_of rfl rfl rfl rfl) t.q_NoBook t.e_NoBook rfl (by decide)) ss_nil) ss_nil) (ss_cons (ss_ret (va 0)) ss_nil))
theorem sc_is_setting : FnScope ["thing", "many", "lamp"] ["thing", "many"] (defScope s_is_setting) := ⟨rfl, rfl, rfl, by decide +kernel, rfl, by decide +kernel, by decide +kernel⟩
theorem ok_is_setting (t : Tx K mg) : OkF P w K mg base "is_setting" 1 F_is_setting := by
  obtain ⟨fd, F⟩ := t.d_is_setting
  refine ⟨_, fd, ["thing", "many"], fn_ok F sc_is_setting (by decide) (by decide) (fun cdv A outer s H E hr => ?_), t.g_is_setting, F.kp, F.bindsN fun _ _ _ _ _ _ us hl => match us, hl with | [_, _], _ => rfl⟩
  have hu := room_u hr
  exact (ss_cons (ss_ret (se_and (isi t.n_isinstance t.n_tuple (va 0)) (se_and (cm (or_eq (hu64 hu)) (cb (cr_len) t.n_len (ac (va 0) an)) (va 1)) (se_one (cb (cr_allD rfl) t.n_all (ac (se_comp (own := [("lamp", 2)]) rfl sc_is_setting.nd (si_seq (va 0)) (blkOk_by (N := ["thing", "many", "lamp"]) (sc := defScope s_is_setting) (by decide +kernel)) (fun _ _ _ _ _ => (gn (pin := notOwn 3 [2]) 2 sc_is_setting.nd (by decide))) (fun _ _ _ _ _ => sc_nil) (fun _ _ _ _ _ => (isi t.n_isinstance t.n_bool (va 2))) (by intro _; rfl)) an)))))) ss_nil)
theorem sc_settings_of : FnScope ["many", "made", "turn", "longer", "setting"] ["many"] (defScope s_settings_of) := ⟨rfl, rfl, rfl, by decide +kernel, rfl, by decide +kernel, by decide +kernel⟩
theorem ok_settings_of (t : Tx K mg) : OkF P w K mg base "settings_of" 1 F_settings_of := by
  obtain ⟨fd, F⟩ := t.d_settings_of
  refine ⟨_, fd, ["many"], fn_ok F sc_settings_of (by decide) (by decide) (fun cdv A outer s H E hr => ?_), t.g_settings_of, F.kp, F.bindsN fun _ _ _ _ _ _ us hl => match us, hl with | [_], _ => rfl⟩
  have hu := room_u hr
  exact (ss_cons (st sc_settings_of.nd (by decide) (se_lst (ac (se_tup an) an))) (ss_cons (fr (pin' := [0]) (passes_of rfl) (by decide) (by decide) (rg1 t.n_range (ac (va 0) an)) (gn 2 sc_settings_of.nd (by decide)) (ss_cons (st sc_settings_of.nd (by decide) (se_lst an)) (ss_cons (fr (pin' := [0, 1]) (passes_of rfl) (by decide) (by decide) (si_seq (va 1)) (gn 4 sc_settings_of.nd (by decide)) (ss_cons (ex (mExt (va 3) (ac (se_lst (ac (se_bin or_add (va 4) (se_tup (ac se_bl an))) (ac (se_bin or_add (va 4) (se_tup (ac se_bl an))) an))) an))) ss_nil)) (ss_cons (st sc_settings_of.nd (by decide) (va 3)) ss_nil)))) (ss_cons (ss_ret (va 1)) ss_nil)))
theorem sc_is_stand : FnScope ["book", "thing", "many", "pair"] ["book", "thing", "many"] (defScope s_is_stand) := ⟨rfl, rfl, rfl, by decide +kernel, rfl, by decide +kernel, by decide +kernel⟩
theorem ok_is_stand (t : Tx K mg) : OkF P w K mg base "is_stand" 3 F_is_stand := by
  obtain ⟨fd, F⟩ := t.d_is_stand
  refine ⟨_, fd, ["book", "thing", "many"], fn_ok F sc_is_stand (by decide) (by decide) (fun cdv A outer s H E hr => ?_), t.g_is_stand, F.kp, F.bindsN fun _ _ _ _ _ _ us hl => match us, hl with | [_, _, _], _ => rfl⟩
  have hu := room_u hr
  exact (ss_cons (ss_if (sw_or (sb_not (tv (isi t.n_isinstance t.n_tuple (va 1)))) (sw_or1 (cmB (or_ne (hu64 hu)) (cb (cr_len) t.n_len (ac (va 1) an)) (cb (cr_len) t.n_len (ac (cf (ok_settings_of t) (hr.mono (by first | omega | decide)) (takes_of rfl rfl rfl rfl) (ac (cb (cr_len) t.n_len (ac (ix (va 0) se_int) an)) an)) an))))).sb (ss_cons (ss_ret se_bl) ss_nil) ss_nil) (ss_cons (fr (pin' := [0, 1, 2]) (passes_of rfl) (by decide) (by decide) (si_seq (va 1)) (gn 3 sc_is_stand.nd (by decide)) (ss_cons (ss_if (sw_or (sb_not (tv (isi t.n_isinstance t.n_tuple (va 3)))) (sw_or (cmB (or_ne (hu64 hu)) (cb (cr_len) t.n_len (ac (va 3) an)) se_int) (sw_or1 (sb_not (tv (cf (ok_is_setting t) (hr.mono (by first | omega | decide)) (takes_of rfl rfl rfl rfl) (ac (ix (va 3) se_int) (ac (cb (cr_len) t.n_len (ac (ix (va 0) se_int) an)) an)))))))).sb (ss_cons (ss_ret se_bl) ss_nil) ss_nil) (ss_cons (ss_if (sb_not (tv (cf (ok_between t) (hr.mono (by first | omega | decide)) (takes_of rfl rfl rfl rfl) (ac (ix (va 3) se_int) (ac se_int (ac (se_bin or_sub (va 2) se_int) an)))))) (ss_cons (ss_ret se_bl) ss_nil) ss_nil) ss_nil))) (ss_cons (ss_ret se_bl) ss_nil)))
theorem sc_is_machine : FnScope ["book", "thing", "stand"] ["book", "thing"] (defScope s_is_machine) := ⟨rfl, rfl, rfl, by decide +kernel, rfl, by decide +kernel, by decide +kernel⟩
theorem ok_is_machine (t : Tx K mg) : OkF P w K mg base "is_machine" 4 F_is_machine := by
  obtain ⟨fd, F⟩ := t.d_is_machine
  refine ⟨_, fd, ["book", "thing"], fn_ok F sc_is_machine (by decide) (by decide) (fun cdv A outer s H E hr => ?_), t.g_is_machine, F.kp, F.bindsN fun _ _ _ _ _ _ us hl => match us, hl with | [_, _], _ => rfl⟩
  have hu := room_u hr
  exact (ss_cons (ss_if (sw_or (sb_not (tv (isi t.n_isinstance t.n_tuple (va 1)))) (sw_or1 (sb_not (chnB (or_le) (or_le) se_int (cb (cr_len) t.n_len (ac (va 1) an)) (gInt t.c_STANDS))))).sb (ss_cons (ss_ret se_bl) ss_nil) ss_nil) (ss_cons (ss_ret (cb (cr_allD rfl) t.n_all (ac (se_comp (own := [("stand", 2)]) rfl sc_is_machine.nd (si_seq (va 1)) (blkOk_by (N := ["book", "thing", "stand"]) (sc := defScope s_is_machine) (by decide +kernel)) (fun _ _ _ _ _ => (gn (pin := notOwn 3 [2]) 2 sc_is_machine.nd (by decide))) (fun _ _ _ _ _ => sc_nil) (fun _ _ _ _ _ => (cf (ok_is_stand t) (hr.mono (by first | omega | decide)) takes0 (ac (va 0) (ac (va 2) (ac (cb (cr_len) t.n_len (ac (va 1) an)) an))))) (by intro _; rfl)) an))) ss_nil))
theorem sc_need_machine : FnScope ["book", "machine"] ["book", "machine"] (defScope s_need_machine) := ⟨rfl, rfl, rfl, by decide +kernel, rfl, by decide +kernel, by decide +kernel⟩
theorem ok_need_machine (t : Tx K mg) : OkF P w K mg base "need_machine" 5 F_need_machine := by
  obtain ⟨fd, F⟩ := t.d_need_machine
  refine ⟨_, fd, ["book", "machine"], fn_ok F sc_need_machine (by decide) (by decide) (fun cdv A outer s H E hr => ?_), t.g_need_machine, F.kp, F.bindsN fun _ _ _ _ _ _ us hl => match us, hl with | [_, _], _ => rfl⟩
  have hu := room_u hr
  exact (ss_cons (ss_if (sb_not (tv (cf (ok_is_machine t) (hr.mono (by first | omega | decide)) (takes_of rfl rfl rfl rfl) (ac (va 0) (ac (va 1) an))))) (ss_cons (ss_raise rfl (takes_of rfl rfl rfl rfl) t.q_NoMachine t.e_NoMachine rfl (by decide)) ss_nil) ss_nil) ss_nil)
theorem sc_checked_machine : FnScope ["book", "machine"] ["book", "machine"] (defScope s_checked_machine) := ⟨rfl, rfl, rfl, by decide +kernel, rfl, by decide +kernel, by decide +kernel⟩
theorem ok_checked_machine (t : Tx K mg) : OkF P w K mg base "checked_machine" 29 F_checked_machine := by
  obtain ⟨fd, F⟩ := t.d_checked_machine
  refine ⟨_, fd, ["book", "machine"], fn_ok F sc_checked_machine (by decide) (by decide) (fun cdv A outer s H E hr => ?_), t.g_checked_machine, F.kp, F.bindsN fun _ _ _ _ _ _ us hl => match us, hl with | [_, _], _ => rfl⟩
  have hu := room_u hr
  exact (ss_cons (ex (cf (ok_need_machine t) (hr.mono (by first | omega | decide)) (takes_of rfl rfl rfl rfl) (ac (cf (ok_checked t) (hr.mono (by first | omega | decide)) (takes_of rfl rfl rfl rfl) (ac (va 0) an)) (ac (va 1) an)))) (ss_cons (ss_ret (va 1)) ss_nil))
theorem sc_numbered : FnScope ["keys", "known", "made", "key"] ["keys"] (defScope s_numbered) := ⟨rfl, rfl, rfl, by decide +kernel, rfl, by decide +kernel, by decide +kernel⟩
theorem ok_numbered (t : Tx K mg) : OkF P w K mg base "numbered" 1 F_numbered := by
  obtain ⟨fd, F⟩ := t.d_numbered
  refine ⟨_, fd, ["keys"], fn_ok F sc_numbered (by decide) (by decide) (fun cdv A outer s H E hr => ?_), t.g_numbered, F.kp, F.bindsN fun _ _ _ _ _ _ us hl => match us, hl with | [_], _ => rfl⟩
  have hu := room_u hr
  exact (ss_cons (st sc_numbered.nd (by decide) se_dct0) (ss_cons (st sc_numbered.nd (by decide) (se_lst an)) (ss_cons (fr (pin' := [0]) (passes_of rfl) (by decide) (by decide) (si_seq (va 0)) (gn 3 sc_numbered.nd (by decide)) (ss_cons (ex (mApp (va 2) (ac (se_setd hu (va 1) (va 3) (cb (cr_lenD) t.n_len (ac (va 1) an))) an))) ss_nil)) (ss_cons (ss_ret (se_tup (ac (va 2) (ac (cb (cr_lenD) t.n_len (ac (va 1) an)) an)))) ss_nil))))
theorem sc_lesser_of : FnScope ["machine", "classes", "many", "stand", "pair", "before", "keys", "k", "order", "stands", "made", "row", "friend", "to"] ["machine"] (defScope s_lesser_of) := ⟨rfl, rfl, rfl, by decide +kernel, rfl, by decide +kernel, by decide +kernel⟩
theorem ok_lesser_of (t : Tx K mg) : OkF P w K mg base "lesser_of" 2 F_lesser_of := by
  obtain ⟨fd, F⟩ := t.d_lesser_of
  refine ⟨_, fd, ["machine"], fn_ok F sc_lesser_of (by decide) (by decide) (fun cdv A outer s H E hr => ?_), t.g_lesser_of, F.kp, F.bindsN fun _ _ _ _ _ _ us hl => match us, hl with | [_], _ => rfl⟩
  have hu := room_u hr
  exact (ss_cons (sg (cf (ok_numbered t) (hr.mono (by first | omega | decide)) (takes_of rfl rfl rfl rfl) (ac (se_comp (own := [("stand", 3)]) rfl sc_lesser_of.nd (si_seq (va 0)) (blkOk_by (N := ["machine", "classes", "many", "stand", "pair", "before", "keys", "k", "order", "stands", "made", "row", "friend", "to"]) (sc := defScope s_lesser_of) (by decide +kernel)) (fun _ _ _ _ _ => (gn (pin := notOwn 14 [3]) 3 sc_lesser_of.nd (by decide))) (fun _ _ _ _ _ => sc_nil) (fun _ _ _ _ _ => (ct (cr_tuple) t.n_tuple (ac (se_comp (own := [("pair", 4)]) rfl sc_lesser_of.nd (si_seq (va 3)) (blkOk_by (N := ["machine", "classes", "many", "stand", "pair", "before", "keys", "k", "order", "stands", "made", "row", "friend", "to"]) (by kernel_rfl)) (fun _ _ _ _ _ => (gn (pin := notOwn 14 [4]) 4 sc_lesser_of.nd (by decide))) (fun _ _ _ _ _ => sc_nil) (fun _ _ _ _ _ => (ix (va 4) se_int)) (by intro _; rfl)) an))) (by intro _; rfl)) an)) (gT (gc (gn 1 sc_lesser_of.nd (by decide)) (gc (gn 2 sc_lesser_of.nd (by decide)) sg_nil)))) (ss_cons (st sc_lesser_of.nd (by decide) se_int) (ss_cons (whU (passes_of rfl) (cmB (or_ne (hu64 hu)) (va 5) (va 2)) (ss_cons (st sc_lesser_of.nd (by decide) (va 2)) (ss_cons (st sc_lesser_of.nd (by decide) (se_lst an)) (ss_cons (fr (pin' := [0]) (passes_of rfl) (by decide) (by decide) (rg1 t.n_range (ac (cb (cr_len) t.n_len (ac (va 0) an)) an)) (gn 7 sc_lesser_of.nd (by decide)) (ss_cons (ex (mApp (va 6) (ac (se_tup (ac (ix (va 1) (va 7)) (ac (ct (cr_tuple) t.n_tuple (ac (se_comp (own := [("pair", 4)]) rfl sc_lesser_of.nd (si_seq (ix (va 0) (va 7))) (blkOk_by (N := ["machine", "classes", "many", "stand", "pair", "before", "keys", "k", "order", "stands", "made", "row", "friend", "to"]) (sc := defScope s_lesser_of) (by decide +kernel)) (fun _ _ _ _ _ => (gn (pin := notOwn 14 [4]) 4 sc_lesser_of.nd (by decide))) (fun _ _ _ _ _ => sc_nil) (fun _ _ _ _ _ => (ix (va 1) (ix (va 4) se_int))) (by intro _; rfl)) an)) an))) an))) ss_nil)) (ss_cons (sg (cf (ok_numbered t) (hr.mono (by first | omega | decide)) (takes_of rfl rfl rfl rfl) (ac (va 6) an)) (gT (gc (gn 1 sc_lesser_of.nd (by decide)) (gc (gn 2 sc_lesser_of.nd (by decide)) sg_nil)))) ss_nil))))) (ss_cons (st sc_lesser_of.nd (by decide) (se_dispK (ix (va 1) se_int) se_int)) (ss_cons (st sc_lesser_of.nd (by decide) (se_lst (ac se_int an))) (ss_cons (st sc_lesser_of.nd (by decide) (se_lst an)) (ss_cons (whU (passes_of rfl) (cmB (or_lt) (cb (cr_len) t.n_len (ac (va 10) an)) (cb (cr_len) t.n_len (ac (va 9) an))) (ss_cons (st sc_lesser_of.nd (by decide) (se_lst an)) (ss_cons (fr (pin' := [0]) (passes_of rfl) (by decide) (by decide) (si_seq (ix (va 0) (ix (va 9) (cb (cr_len) t.n_len (ac (va 10) an))))) (gT (gc (gn 12 sc_lesser_of.nd (by decide)) (gc (gn 13 sc_lesser_of.nd (by decide)) sg_nil))) (ss_cons (ss_if (cmB (or_notInK hu) (ix (va 1) (va 13)) (va 8)) (ss_cons (siK hu (cb (cr_len) t.n_len (ac (va 9) an)) (va 8) (ix (va 1) (va 13))) (ss_cons (ex (mApp (va 9) (ac (va 13) an))) ss_nil)) ss_nil) (ss_cons (ex (mApp (va 11) (ac (se_tup (ac (va 12) (ac (ixK hu (va 8) (ix (va 1) (va 13))) an))) an))) ss_nil))) (ss_cons (ex (mApp (va 10) (ac (ct (cr_tuple) t.n_tuple (ac (va 11) an)) an))) ss_nil)))) (ss_cons (ss_ret (ct (cr_tuple) t.n_tuple (ac (va 10) an))) ss_nil))))))))
theorem sc_lesser : FnScope ["book", "machine"] ["book", "machine"] (defScope s_lesser) := ⟨rfl, rfl, rfl, by decide +kernel, rfl, by decide +kernel, by decide +kernel⟩
theorem ok_lesser (t : Tx K mg) : OkF P w K mg base "lesser" 30 F_lesser_k20 := by
  obtain ⟨fd, F⟩ := t.d_lesser
  refine ⟨_, fd, ["book", "machine"], fn_ok F sc_lesser (by decide) (by decide) (fun cdv A outer s H E hr => ?_), t.g_lesser, F.kp, F.bindsN fun _ _ _ _ _ _ us hl => match us, hl with | [_, _], _ => rfl⟩
  have hu := room_u hr
  exact (ss_cons (ss_ret (cf (ok_lesser_of t) (hr.mono (by first | omega | decide)) (takes_of rfl rfl rfl rfl) (ac (cf (ok_checked_machine t) (hr.mono (by first | omega | decide)) (takes_of rfl rfl rfl rfl) (ac (va 0) (ac (va 1) an))) an))) ss_nil)
theorem sc_l_cell_at : FnScope ["_law_script", "_law_k"] ["_law_script", "_law_k"] (defScope s_l_cell_at) := ⟨rfl, rfl, rfl, by decide +kernel, rfl, by decide +kernel, by decide +kernel⟩
theorem ok_l_cell_at (t : Tx K mg) : OkF P w K mg base "_law_cell_at" 1 F_l_cell_at := by
  obtain ⟨fd, F⟩ := t.d_l_cell_at
  refine ⟨_, fd, ["_law_script", "_law_k"], fn_ok F sc_l_cell_at (by decide) (by decide) (fun cdv A outer s H E hr => ?_), t.g_l_cell_at, F.kp, F.bindsN fun _ _ _ _ _ _ us hl => match us, hl with | [_, _], _ => rfl⟩
  have hu := room_u hr
  exact (ss_cons (ss_if (cmB (or_lt) (va 1) (cb (cr_len) t.n_len (ac (va 0) an))) (ss_cons (ss_ret (ix (va 0) (va 1))) ss_nil) ss_nil) (ss_cons (ss_if (cmB (or_eq (hu64 hu)) (va 0) (se_lst an)) (ss_cons (ss_ret se_int) ss_nil) ss_nil) (ss_cons (ss_ret (se_bin or_add (se_bin or_mul (ix (va 0) (se_bin or_mod (va 1) (cb (cr_len) t.n_len (ac (va 0) an)))) se_int) (va 1))) ss_nil)))
theorem sc_l_mixed : FnScope ["_law_script", "_law_k", "_law_many", "_law_drawn"] ["_law_script", "_law_k", "_law_many"] (defScope s_l_mixed) := ⟨rfl, rfl, rfl, by decide +kernel, rfl, by decide +kernel, by decide +kernel⟩
theorem ok_l_mixed (t : Tx K mg) : OkF P w K mg base "_law_mixed" 2 F_l_mixed := by
  obtain ⟨fd, F⟩ := t.d_l_mixed
  refine ⟨_, fd, ["_law_script", "_law_k", "_law_many"], fn_ok F sc_l_mixed (by decide) (by decide) (fun cdv A outer s H E hr => ?_), t.g_l_mixed, F.kp, F.bindsN fun _ _ _ _ _ _ us hl => match us, hl with | [_, _, _], _ => rfl⟩
  have hu := room_u hr
  exact (ss_cons (st sc_l_mixed.nd (by decide) (se_bin or_mod (se_bin or_mul (se_bin or_add (se_bin or_add (cf (ok_l_cell_at t) (hr.mono (by first | omega | decide)) (takes_of rfl rfl rfl rfl) (ac (va 0) (ac (va 1) an))) (se_bin or_mul se_int (va 1))) se_int) se_int) se_int)) (ss_cons (ss_ret (se_bin or_mod (se_bin or_mod (se_bin or_add (se_bin or_add (se_bin or_mul (va 3) (va 3)) (se_bin or_mul se_int (va 3))) (va 1)) se_int) (va 2))) ss_nil))
theorem sc_l_next : FnScope ["_law_script", "_law_m", "_law_many"] ["_law_script", "_law_m", "_law_many"] (defScope s_l_next) := ⟨rfl, rfl, rfl, by decide +kernel, rfl, by decide +kernel, by decide +kernel⟩
theorem ok_l_next (t : Tx K mg) : OkF P w K mg base "_law_next" 3 F_l_next := by
  obtain ⟨fd, F⟩ := t.d_l_next
  refine ⟨_, fd, ["_law_script", "_law_m", "_law_many"], fn_ok F sc_l_next (by decide) (by decide) (fun cdv A outer s H E hr => ?_), t.g_l_next, F.kp, F.bindsN fun _ _ _ _ _ _ us hl => match us, hl with | [_, _, _], _ => rfl⟩
  have hu := room_u hr
  exact (ss_cons (si' (se_bin or_add (ix (va 1) se_int) se_int) (va 1) se_int) (ss_cons (ss_ret (cf (ok_l_mixed t) (hr.mono (by first | omega | decide)) (takes_of rfl rfl rfl rfl) (ac (va 0) (ac (ix (va 1) se_int) (ac (va 2) an))))) ss_nil))
theorem sc_l_names : FnScope ["_law_script", "_law_m", "_law_some", "_law_turn", "_law_row", "_law_foe", "_law_friend"] ["_law_script", "_law_m"] (defScope s_l_names) := ⟨rfl, rfl, rfl, by decide +kernel, rfl, by decide +kernel, by decide +kernel⟩
theorem ok_l_names (t : Tx K mg) : OkF P w K mg base "_law_names" 4 F_l_names := by
  obtain ⟨fd, F⟩ := t.d_l_names
  refine ⟨_, fd, ["_law_script", "_law_m"], fn_ok F sc_l_names (by decide) (by decide) (fun cdv A outer s H E hr => ?_), t.g_l_names, F.kp, F.bindsN fun _ _ _ _ _ _ us hl => match us, hl with | [_, _], _ => rfl⟩
  have hu := room_u hr
  exact (ss_cons (st sc_l_names.nd (by decide) (se_lst (ac se_str (ac se_str (ac se_str (ac se_str (ac se_str (ac se_str (ac se_str (ac se_str an)))))))))) (ss_cons (st sc_l_names.nd (by decide) (cf (ok_l_next t) (hr.mono (by first | omega | decide)) (takes_of rfl rfl rfl rfl) (ac (va 0) (ac (va 1) (ac se_int an))))) (ss_cons (st sc_l_names.nd (by decide) (se_bin or_add (sl (va 2) (so_some (va 3)) so_none) (sl (va 2) so_none (so_some (va 3))))) (ss_cons (st sc_l_names.nd (by decide) (se_bin or_add se_int (cf (ok_l_next t) (hr.mono (by first | omega | decide)) (takes_of rfl rfl rfl rfl) (ac (va 0) (ac (va 1) (ac se_int an)))))) (ss_cons (st sc_l_names.nd (by decide) (se_bin or_add se_int (cf (ok_l_next t) (hr.mono (by first | omega | decide)) (takes_of rfl rfl rfl rfl) (ac (va 0) (ac (va 1) (ac se_int an)))))) (ss_cons (ss_ret (se_tup (ac (ct (cr_tuple) t.n_tuple (ac (sl (va 4) so_none (so_some (va 5))) an)) (ac (ct (cr_tuple) t.n_tuple (ac (sl (va 4) (so_some (va 5)) (so_some (se_bin or_add (va 5) (va 6)))) an)) an)))) ss_nil))))))
theorem sc_l_saying : FnScope ["_law_script", "_law_m", "_law_names_here", "_law_deep", "_law_left", "_law_way", "_law_one"] ["_law_script", "_law_m", "_law_names_here", "_law_deep", "_law_left"] (defScope s_l_saying) := ⟨rfl, rfl, rfl, by decide +kernel, rfl, by decide +kernel, by decide +kernel⟩
theorem okR_l_saying (t : Tx K mg) : ∀ n, OkF P w K mg base "_law_saying" (3 + n) (R_l_saying n)
  | 0 => by
    obtain ⟨fd, F⟩ := t.d_l_saying
    exact ⟨_, fd, ["_law_script", "_law_m", "_law_names_here", "_law_deep", "_law_left"], fn_bad (N := ["_law_script", "_law_m", "_law_names_here", "_law_deep", "_law_left"]), t.g_l_saying, F.kp, F.bindsN fun _ _ _ _ _ _ us hl => match us, hl with | [_, _, _, _, _], _ => rfl⟩
  | n + 1 => by
    have ih := okR_l_saying t n
    exact by
      obtain ⟨fd, F⟩ := t.d_l_saying
      refine ⟨_, fd, ["_law_script", "_law_m", "_law_names_here", "_law_deep", "_law_left"], fn_ok F sc_l_saying (by decide) (by decide) (fun cdv A outer s H E hr => ?_), t.g_l_saying, F.kp, F.bindsN fun _ _ _ _ _ _ us hl => match us, hl with | [_, _, _, _, _], _ => rfl⟩
      have hr : Room (3 + n) _ := hr
      have hu := room_u hr
      exact (ss_cons (st sc_l_saying.nd (by decide) (cf (ok_l_next t) (hr.mono (by first | omega | decide)) (takes_of rfl rfl rfl rfl) (ac (va 0) (ac (va 1) (ac se_int an))))) (ss_cons (ss_if (sw_or (cmB (or_eq (hu64 hu)) (va 3) se_int) (sw_or1 (cmB (or_lt) (va 5) se_int))).sb (ss_cons (ss_ret (se_tup (ac se_str (ac (ix (va 2) (cf (ok_l_next t) (hr.mono (by first | omega | decide)) (takes_of rfl rfl rfl rfl) (ac (va 0) (ac (va 1) (ac (cb (cr_len) t.n_len (ac (va 2) an)) an))))) an)))) ss_nil) ss_nil) (ss_cons (ss_if (cmB (or_eq (hu64 hu)) (va 5) se_int) (ss_cons (ss_ret (se_tup (ac (ix (se_lst (ac se_str (ac se_str an))) (cf (ok_l_next t) (hr.mono (by first | omega | decide)) (takes_of rfl rfl rfl rfl) (ac (va 0) (ac (va 1) (ac se_int an))))) an))) ss_nil) ss_nil) (ss_cons (ss_if (sw_and (cmB (or_gt) (va 5) se_int) (sw_and1 (cmB (or_gt) (ix (va 4) se_int) se_int))).sb (ss_cons (si' (se_bin or_sub (ix (va 4) se_int) se_int) (va 4) se_int) (ss_cons (st sc_l_saying.nd (by decide) (cf ih (hr.mono (by first | omega | decide)) (takes_of rfl rfl rfl rfl) (ac (va 0) (ac (va 1) (ac (va 2) (ac (se_bin or_sub (va 3) se_int) (ac (va 4) an))))))) (ss_cons (ss_if (cmB (or_eq (hu64 hu)) (va 5) se_int) (ss_cons (ss_ret (se_tup (ac se_str (ac (va 6) (ac (cf ih (hr.mono (by first | omega | decide)) (takes_of rfl rfl rfl rfl) (ac (va 0) (ac (va 1) (ac (va 2) (ac (se_bin or_sub (va 3) se_int) (ac (va 4) an)))))) an))))) ss_nil) ss_nil) (ss_cons (ss_ret (se_tup (ac (ix (se_lst (ac se_str (ac se_str (ac se_str an)))) (se_bin or_sub (va 5) se_int)) (ac (va 6) an)))) ss_nil)))) ss_nil) (ss_cons (st sc_l_saying.nd (by decide) (cf ih (hr.mono (by first | omega | decide)) (takes_of rfl rfl rfl rfl) (ac (va 0) (ac (va 1) (ac (va 2) (ac (se_bin or_sub (va 3) se_int) (ac (va 4) an))))))) (ss_cons (ss_if (sw_or (cmB (or_eq (hu64 hu)) (va 5) se_int) (sw_or1 (cmB (or_gt) (va 5) se_int))).sb (ss_cons (ss_ret (se_tup (ac se_str (ac (va 6) an)))) ss_nil) ss_nil) (ss_cons (ss_ret (se_tup (ac (ix (se_lst (ac se_str (ac se_str (ac se_str (ac se_str an))))) (se_bin or_sub (va 5) se_int)) (ac (va 6) (ac (cf ih (hr.mono (by first | omega | decide)) (takes_of rfl rfl rfl rfl) (ac (va 0) (ac (va 1) (ac (va 2) (ac (se_bin or_sub (va 3) se_int) (ac (va 4) an)))))) an))))) ss_nil)))))))
theorem ok_l_saying (t : Tx K mg) : OkF P w K mg base "_law_saying" 27 F_l_saying := (okR_l_saying t 24)
theorem sc_l_promise : FnScope ["_law_script", "_law_m", "_law_foe", "_law_names_here", "_law_left", "_law_one", "_law_other"] ["_law_script", "_law_m", "_law_foe", "_law_names_here", "_law_left"] (defScope s_l_promise) := ⟨rfl, rfl, rfl, by decide +kernel, rfl, by decide +kernel, by decide +kernel⟩
theorem ok_l_promise (t : Tx K mg) : OkF P w K mg base "_law_promise" 28 F_l_promise := by
  obtain ⟨fd, F⟩ := t.d_l_promise
  refine ⟨_, fd, ["_law_script", "_law_m", "_law_foe", "_law_names_here", "_law_left"], fn_ok F sc_l_promise (by decide) (by decide) (fun cdv A outer s H E hr => ?_), t.g_l_promise, F.kp, F.bindsN fun _ _ _ _ _ _ us hl => match us, hl with | [_, _, _, _, _], _ => rfl⟩
  have hu := room_u hr
  exact (ss_cons (st sc_l_promise.nd (by decide) (cf (ok_l_saying t) (hr.mono (by first | omega | decide)) (takes_of rfl rfl rfl rfl) (ac (va 0) (ac (va 1) (ac (va 2) (ac se_int (ac (se_lst (ac se_int an)) an))))))) (ss_cons (ss_if (sw_and (cmB (or_gt) (ix (va 4) se_int) se_int) (sw_and1 (cmB (or_eq (hu64 hu)) (cf (ok_l_next t) (hr.mono (by first | omega | decide)) (takes_of rfl rfl rfl rfl) (ac (va 0) (ac (va 1) (ac se_int an)))) se_int))).sb (ss_cons (si' (se_bin or_sub (ix (va 4) se_int) se_int) (va 4) se_int) (ss_cons (st sc_l_promise.nd (by decide) (cf (ok_l_saying t) (hr.mono (by first | omega | decide)) (takes_of rfl rfl rfl rfl) (ac (va 0) (ac (va 1) (ac (va 3) (ac se_int (ac (se_lst (ac se_int an)) an))))))) (ss_cons (ss_ret (se_tup (ac (ix (se_lst (ac se_str (ac se_str (ac se_str an)))) (cf (ok_l_next t) (hr.mono (by first | omega | decide)) (takes_of rfl rfl rfl rfl) (ac (va 0) (ac (va 1) (ac se_int an))))) (ac (se_tup (ac se_str (ac (va 6) an))) (ac (va 5) an))))) ss_nil))) ss_nil) (ss_cons (ss_ret (va 5)) ss_nil)))
theorem sc_l_book : FnScope ["_law_script", "_law_at", "_law_pieces", "_law_musts", "_law_m", "_law_foe", "_law_friend", "_law_names_here", "_law_left", "_law_wishes", "_law_k", "_law_price", "_law_some", "_law_known"] ["_law_script", "_law_at", "_law_pieces", "_law_musts"] (defScope s_l_book) := ⟨rfl, rfl, rfl, by decide +kernel, rfl, by decide +kernel, by decide +kernel⟩
theorem ok_l_book (t : Tx K mg) : OkF P w K mg base "_law_book" 29 F_l_book := by
  obtain ⟨fd, F⟩ := t.d_l_book
  refine ⟨_, fd, ["_law_script", "_law_at", "_law_pieces", "_law_musts"], fn_ok F sc_l_book (by decide) (by decide) (fun cdv A outer s H E hr => ?_), t.g_l_book, F.kp, F.bindsN fun _ _ _ _ _ _ us hl => match us, hl with | [_, _, _, _], _ => rfl⟩
  have hu := room_u hr
  exact (ss_cons (st sc_l_book.nd (by decide) (se_lst (ac (va 1) an))) (ss_cons (sg (cf (ok_l_names t) (hr.mono (by first | omega | decide)) (takes_of rfl rfl rfl rfl) (ac (va 0) (ac (va 4) an))) (gT (gc (gn 5 sc_l_book.nd (by decide)) (gc (gn 6 sc_l_book.nd (by decide)) sg_nil)))) (ss_cons (st sc_l_book.nd (by decide) (se_bin or_add (va 5) (va 6))) (ss_cons (st sc_l_book.nd (by decide) (se_lst (ac (cf (ok_l_next t) (hr.mono (by first | omega | decide)) (takes_of rfl rfl rfl rfl) (ac (va 0) (ac (va 4) (ac (se_bin or_add (va 2) se_int) an)))) an))) (ss_cons (st sc_l_book.nd (by decide) (se_lst an)) (ss_cons (fr (pin' := [0, 1, 2, 3]) (passes_of rfl) (by decide) (by decide) (rg1 t.n_range (ac (se_bin or_add se_int (cf (ok_l_next t) (hr.mono (by first | omega | decide)) (takes_of rfl rfl rfl rfl) (ac (va 0) (ac (va 4) (ac se_int an))))) an)) (gn 10 sc_l_book.nd (by decide)) (ss_cons (st sc_l_book.nd (by decide) (se_bin or_add se_int (cf (ok_l_next t) (hr.mono (by first | omega | decide)) (takes_of rfl rfl rfl rfl) (ac (va 0) (ac (va 4) (ac (ix (se_lst (ac se_int (ac se_int (ac se_int an)))) (cf (ok_l_next t) (hr.mono (by first | omega | decide)) (takes_of rfl rfl rfl rfl) (ac (va 0) (ac (va 4) (ac se_int an))))) an)))))) (ss_cons (ex (mApp (va 9) (ac (se_tup (ac (va 11) (ac (cf (ok_l_saying t) (hr.mono (by first | omega | decide)) (takes_of rfl rfl rfl rfl) (ac (va 0) (ac (va 4) (ac (va 7) (ac se_int (ac (va 8) an)))))) an))) an))) ss_nil))) (ss_cons (stLc (own := [("_law_k", 10)]) sc_l_book.nd (by decide) (sw_true rfl rfl rfl (by decide +kernel)) (rg1 t.n_range (ac (cf (ok_l_next t) (hr.mono (by first | omega | decide)) (takes_of rfl rfl rfl rfl) (ac (va 0) (ac (va 4) (ac (se_bin or_add (va 3) se_int) an)))) an)) (blkOk_by (N := ["_law_script", "_law_at", "_law_pieces", "_law_musts", "_law_m", "_law_foe", "_law_friend", "_law_names_here", "_law_left", "_law_wishes", "_law_k", "_law_price", "_law_some", "_law_known"]) (sc := defScope s_l_book) (by decide +kernel)) (fun _ _ _ _ _ => (gn (pin := notOwn 14 [10]) 10 sc_l_book.nd (by decide))) (fun _ _ _ _ _ => sc_nil) (fun _ _ _ _ _ => (cf (ok_l_saying t) (hr.mono (by first | omega | decide)) takes0 (ac (va 0) (ac (va 4) (ac (va 7) (ac se_int (ac (va 8) an))))))) (by intro _; rfl)) (ss_cons (stLc (own := [("_law_k", 10)]) sc_l_book.nd (by decide) (sw_true rfl rfl rfl (by decide +kernel)) (rg1 t.n_range (ac (cf (ok_l_next t) (hr.mono (by first | omega | decide)) (takes_of rfl rfl rfl rfl) (ac (va 0) (ac (va 4) (ac se_int an)))) an)) (blkOk_by (N := ["_law_script", "_law_at", "_law_pieces", "_law_musts", "_law_m", "_law_foe", "_law_friend", "_law_names_here", "_law_left", "_law_wishes", "_law_k", "_law_price", "_law_some", "_law_known"]) (sc := defScope s_l_book) (by decide +kernel)) (fun _ _ _ _ _ => (gn (pin := notOwn 14 [10]) 10 sc_l_book.nd (by decide))) (fun _ _ _ _ _ => sc_nil) (fun _ _ _ _ _ => (cf (ok_l_promise t) (hr.mono (by first | omega | decide)) takes0 (ac (va 0) (ac (va 4) (ac (va 5) (ac (va 7) (ac (va 8) an))))))) (by intro _; rfl)) (ss_cons (ss_ret (se_tup (ac (va 5) (ac (va 6) (ac (ct (cr_tuple) t.n_tuple (ac (va 13) an)) (ac (ct (cr_tuple) t.n_tuple (ac (va 12) an)) (ac (ct (cr_tuple) t.n_tuple (ac (va 9) an)) an))))))) ss_nil)))))))))
theorem sc_l_settings : FnScope ["_law_many", "_law_rows", "_law_turn", "_law_more", "_law_row"] ["_law_many"] (defScope s_l_settings) := ⟨rfl, rfl, rfl, by decide +kernel, rfl, by decide +kernel, by decide +kernel⟩
theorem ok_l_settings (t : Tx K mg) : OkF P w K mg base "_law_settings" 1 F_l_settings := by
  obtain ⟨fd, F⟩ := t.d_l_settings
  refine ⟨_, fd, ["_law_many"], fn_ok F sc_l_settings (by decide) (by decide) (fun cdv A outer s H E hr => ?_), t.g_l_settings, F.kp, F.bindsN fun _ _ _ _ _ _ us hl => match us, hl with | [_], _ => rfl⟩
  have hu := room_u hr
  exact (ss_cons (st sc_l_settings.nd (by decide) (se_lst (ac (se_tup an) an))) (ss_cons (fr (pin' := [0]) (passes_of rfl) (by decide) (by decide) (rg1 t.n_range (ac (va 0) an)) (gn 2 sc_l_settings.nd (by decide)) (ss_cons (st sc_l_settings.nd (by decide) (se_lst an)) (ss_cons (fr (pin' := [0, 1]) (passes_of rfl) (by decide) (by decide) (si_seq (va 1)) (gn 4 sc_l_settings.nd (by decide)) (ss_cons (ex (mExt (va 3) (ac (se_lst (ac (se_bin or_add (va 4) (se_tup (ac se_bl an))) (ac (se_bin or_add (va 4) (se_tup (ac se_bl an))) an))) an))) ss_nil)) (ss_cons (st sc_l_settings.nd (by decide) (va 3)) ss_nil)))) (ss_cons (ss_ret (va 1)) ss_nil)))
theorem sc_l_machine : FnScope ["_law_script", "_law_at", "_law_foe", "_law_friend", "_law_most", "_law_many", "_law_some", "_law_stands", "_law_k", "_law_row", "_law_j", "_law_cell"] ["_law_script", "_law_at", "_law_foe", "_law_friend", "_law_most"] (defScope s_l_machine) := ⟨rfl, rfl, rfl, by decide +kernel, rfl, by decide +kernel, by decide +kernel⟩
theorem ok_l_machine (t : Tx K mg) : OkF P w K mg base "_law_machine" 3 F_l_machine := by
  obtain ⟨fd, F⟩ := t.d_l_machine
  refine ⟨_, fd, ["_law_script", "_law_at", "_law_foe", "_law_friend", "_law_most"], fn_ok F sc_l_machine (by decide) (by decide) (fun cdv A outer s H E hr => ?_), t.g_l_machine, F.kp, F.bindsN fun _ _ _ _ _ _ us hl => match us, hl with | [_, _, _, _, _], _ => rfl⟩
  have hu := room_u hr
  exact (ss_cons (st sc_l_machine.nd (by decide) (se_bin or_add se_int (cf (ok_l_mixed t) (hr.mono (by first | omega | decide)) (takes_of rfl rfl rfl rfl) (ac (va 0) (ac (va 1) (ac (va 4) an)))))) (ss_cons (st sc_l_machine.nd (by decide) (cf (ok_l_settings t) (hr.mono (by first | omega | decide)) (takes_of rfl rfl rfl rfl) (ac (va 3) an))) (ss_cons (st sc_l_machine.nd (by decide) (se_lst an)) (ss_cons (fr (pin' := [0, 1, 2, 3, 4]) (passes_of rfl) (by decide) (by decide) (rg1 t.n_range (ac (va 5) an)) (gn 8 sc_l_machine.nd (by decide)) (ss_cons (st sc_l_machine.nd (by decide) (se_lst an)) (ss_cons (fr (pin' := [0, 1, 2, 3, 4]) (passes_of rfl) (by decide) (by decide) (rg1 t.n_range (ac (cb (cr_len) t.n_len (ac (cf (ok_l_settings t) (hr.mono (by first | omega | decide)) (takes_of rfl rfl rfl rfl) (ac (va 2) an)) an)) an)) (gn 10 sc_l_machine.nd (by decide)) (ss_cons (st sc_l_machine.nd (by decide) (cf (ok_l_mixed t) (hr.mono (by first | omega | decide)) (takes_of rfl rfl rfl rfl) (ac (va 0) (ac (se_bin or_add (se_bin or_add (se_bin or_add (va 1) se_int) (se_bin or_mul se_int (va 8))) (va 10)) (ac (se_bin or_mul se_int (va 5)) an))))) (ss_cons (ex (mApp (va 9) (ac (se_tup (ac (ix (va 6) (se_bin or_mod (se_bin or_mod (va 11) se_int) (cb (cr_len) t.n_len (ac (va 6) an)))) (ac (se_bin or_fdv (va 11) se_int) an))) an))) ss_nil))) (ss_cons (ex (mApp (va 7) (ac (ct (cr_tuple) t.n_tuple (ac (va 9) an)) an))) ss_nil)))) (ss_cons (ss_ret (ct (cr_tuple) t.n_tuple (ac (va 7) an))) ss_nil)))))
theorem sc_l_whole : FnScope ["_law_found"] ["_law_found"] (defScope s_l_whole) := ⟨rfl, rfl, rfl, by decide +kernel, rfl, by decide +kernel, by decide +kernel⟩
theorem ok_l_whole (t : Tx K mg) : OkF P w K mg base "_law_whole" 1 F_l_whole := by
  obtain ⟨fd, F⟩ := t.d_l_whole
  refine ⟨_, fd, ["_law_found"], fn_ok F sc_l_whole (by decide) (by decide) (fun cdv A outer s H E hr => ?_), t.g_l_whole, F.kp, F.bindsN fun _ _ _ _ _ _ us hl => match us, hl with | [_], _ => rfl⟩
  have hu := room_u hr
  exact (ss_cons (ss_ret (se_and (isi t.n_isinstance t.n_int (va 0)) (se_one (se_not (isi t.n_isinstance t.n_bool (va 0)))))) ss_nil)
theorem sc_l_is_machine : FnScope ["_law_thing", "_law_foe", "_law_friend", "_law_stand", "_law_pair"] ["_law_thing", "_law_foe", "_law_friend"] (defScope s_l_is_machine) := ⟨rfl, rfl, rfl, by decide +kernel, rfl, by decide +kernel, by decide +kernel⟩
theorem ok_l_is_machine (t : Tx K mg) : OkF P w K mg base "_law_is_machine" 2 F_l_is_machine := by
  obtain ⟨fd, F⟩ := t.d_l_is_machine
  refine ⟨_, fd, ["_law_thing", "_law_foe", "_law_friend"], fn_ok F sc_l_is_machine (by decide) (by decide) (fun cdv A outer s H E hr => ?_), t.g_l_is_machine, F.kp, F.bindsN fun _ _ _ _ _ _ us hl => match us, hl with | [_, _, _], _ => rfl⟩
  have hu := room_u hr
  exact (ss_cons (ss_if (sw_or (sb_not (tv (isi t.n_isinstance t.n_tuple (va 0)))) (sw_or1 (sb_not (chnB (or_le) (or_le) se_int (cb (cr_len) t.n_len (ac (va 0) an)) se_int)))).sb (ss_cons (ss_ret se_bl) ss_nil) ss_nil) (ss_cons (fr (pin' := [0, 1, 2]) (passes_of rfl) (by decide) (by decide) (si_seq (va 0)) (gn 3 sc_l_is_machine.nd (by decide)) (ss_cons (ss_if (sw_or (sb_not (tv (isi t.n_isinstance t.n_tuple (va 3)))) (sw_or1 (cmB (or_ne (hu64 hu)) (cb (cr_len) t.n_len (ac (va 3) an)) (cb (cr_len) t.n_len (ac (cf (ok_l_settings t) (hr.mono (by first | omega | decide)) (takes_of rfl rfl rfl rfl) (ac (va 1) an)) an))))).sb (ss_cons (ss_ret se_bl) ss_nil) ss_nil) (ss_cons (fr (pin' := [0, 1, 2, 3]) (passes_of rfl) (by decide) (by decide) (si_seq (va 3)) (gn 4 sc_l_is_machine.nd (by decide)) (ss_cons (ss_if (sw_or (sb_not (tv (isi t.n_isinstance t.n_tuple (va 4)))) (sw_or (cmB (or_ne (hu64 hu)) (cb (cr_len) t.n_len (ac (va 4) an)) se_int) (sw_or1 (cmB (or_notIn hu) (ix (va 4) se_int) (cf (ok_l_settings t) (hr.mono (by first | omega | decide)) (takes_of rfl rfl rfl rfl) (ac (va 2) an)))))).sb (ss_cons (ss_ret se_bl) ss_nil) ss_nil) (ss_cons (ss_if (sw_or (sb_not (tv (cf (ok_l_whole t) (hr.mono (by first | omega | decide)) (takes_of rfl rfl rfl rfl) (ac (ix (va 4) se_int) an)))) (sw_or (cmB (or_lt) (ix (va 4) se_int) se_int) (sw_or1 (cmB (or_ge) (ix (va 4) se_int) (cb (cr_len) t.n_len (ac (va 0) an)))))).sb (ss_cons (ss_ret se_bl) ss_nil) ss_nil) ss_nil))) ss_nil))) (ss_cons (ss_ret se_bl) ss_nil)))
theorem sc_l_are_apart : FnScope ["_law_machine_here", "_law_one", "_law_other", "_law_row", "_law_met", "_law_at", "_law_here", "_law_there", "_law_first", "_law_second"] ["_law_machine_here", "_law_one", "_law_other"] (defScope s_l_are_apart) := ⟨rfl, rfl, rfl, by decide +kernel, rfl, by decide +kernel, by decide +kernel⟩
theorem ok_l_are_apart (t : Tx K mg) : OkF P w K mg base "_law_are_apart" 1 F_l_are_apart := by
  obtain ⟨fd, F⟩ := t.d_l_are_apart
  refine ⟨_, fd, ["_law_machine_here", "_law_one", "_law_other"], fn_ok F sc_l_are_apart (by decide) (by decide) (fun cdv A outer s H E hr => ?_), t.g_l_are_apart, F.kp, F.bindsN fun _ _ _ _ _ _ us hl => match us, hl with | [_, _, _], _ => rfl⟩
  have hu := room_u hr
  exact (ss_cons (st sc_l_are_apart.nd (by decide) (se_lst (ac (se_tup (ac (va 1) (ac (va 2) an))) an))) (ss_cons (st sc_l_are_apart.nd (by decide) (se_disp1 hu (se_tup (ac (va 1) (ac (va 2) an))) se_bl)) (ss_cons (st sc_l_are_apart.nd (by decide) se_int) (ss_cons (whU (passes_of rfl) (cmB (or_lt) (va 5) (cb (cr_len) t.n_len (ac (va 3) an))) (ss_cons (sg (ix (va 3) (va 5)) (gT (gc (gn 6 sc_l_are_apart.nd (by decide)) (gc (gn 7 sc_l_are_apart.nd (by decide)) sg_nil)))) (ss_cons (fr (pin' := [0, 1, 2]) (passes_of rfl) (by decide) (by decide) (zp t.n_zip (ac (ix (va 0) (va 6)) (ac (ix (va 0) (va 7)) an))) (gT (gc (gn 8 sc_l_are_apart.nd (by decide)) (gc (gn 9 sc_l_are_apart.nd (by decide)) sg_nil))) (ss_cons (ss_if (cmB (or_ne (hu64 hu)) (ix (va 8) se_int) (ix (va 9) se_int)) (ss_cons (ss_ret se_bl) ss_nil) ss_nil) (ss_cons (ss_if (cmB (or_notInT hu) (se_tup (ac (ix (va 8) se_int) (ac (ix (va 9) se_int) an))) (va 4)) (ss_cons (siT hu se_bl (va 4) (se_tup (ac (ix (va 8) se_int) (ac (ix (va 9) se_int) an)))) (ss_cons (ex (mApp (va 3) (ac (se_tup (ac (ix (va 8) se_int) (ac (ix (va 9) se_int) an))) an))) ss_nil)) ss_nil) ss_nil))) (ss_cons (st sc_l_are_apart.nd (by decide) (se_bin or_add (va 5) se_int)) ss_nil)))) (ss_cons (ss_ret se_bl) ss_nil)))))
theorem sc_l_is_least : FnScope ["_law_machine_here", "_law_row", "_law_k", "_law_friend", "_law_to", "_law_one", "_law_other"] ["_law_machine_here"] (defScope s_l_is_least) := ⟨rfl, rfl, rfl, by decide +kernel, rfl, by decide +kernel, by decide +kernel⟩
theorem ok_l_is_least (t : Tx K mg) : OkF P w K mg base "_law_is_least" 2 F_l_is_least := by
  obtain ⟨fd, F⟩ := t.d_l_is_least
  refine ⟨_, fd, ["_law_machine_here"], fn_ok F sc_l_is_least (by decide) (by decide) (fun cdv A outer s H E hr => ?_), t.g_l_is_least, F.kp, F.bindsN fun _ _ _ _ _ _ us hl => match us, hl with | [_], _ => rfl⟩
  have hu := room_u hr
  exact (ss_cons (st sc_l_is_least.nd (by decide) (se_lst (ac se_int an))) (ss_cons (fr (pin' := [0]) (passes_of rfl) (by decide) (by decide) (rg1 t.n_range (ac (cb (cr_len) t.n_len (ac (va 0) an)) an)) (gn 2 sc_l_is_least.nd (by decide)) (ss_cons (ss_if (cmB (or_ge) (va 2) (cb (cr_len) t.n_len (ac (va 1) an))) (ss_cons (ss_ret se_bl) ss_nil) ss_nil) (ss_cons (fr (pin' := [0]) (passes_of rfl) (by decide) (by decide) (si_seq (ix (va 0) (ix (va 1) (va 2)))) (gT (gc (gn 3 sc_l_is_least.nd (by decide)) (gc (gn 4 sc_l_is_least.nd (by decide)) sg_nil))) (ss_cons (ss_if (cmB (or_notIn hu) (va 4) (va 1)) (ss_cons (ex (mApp (va 1) (ac (va 4) an))) ss_nil) ss_nil) ss_nil)) ss_nil))) (ss_cons (ss_if (cmB (or_ne (hu64 hu)) (va 1) (se_lrg1 t.n_list t.n_range (cb (cr_len) t.n_len (ac (va 0) an)))) (ss_cons (ss_ret se_bl) ss_nil) ss_nil) (ss_cons (fr (pin' := [0]) (passes_of rfl) (by decide) (by decide) (rg1 t.n_range (ac (cb (cr_len) t.n_len (ac (va 0) an)) an)) (gn 5 sc_l_is_least.nd (by decide)) (ss_cons (fr (pin' := [0]) (passes_of rfl) (by decide) (by decide) (rg1 t.n_range (ac (va 5) an)) (gn 6 sc_l_is_least.nd (by decide)) (ss_cons (ss_if (sb_not (tv (cf (ok_l_are_apart t) (hr.mono (by first | omega | decide)) (takes_of rfl rfl rfl rfl) (ac (va 0) (ac (va 5) (ac (va 6) an)))))) (ss_cons (ss_ret se_bl) ss_nil) ss_nil) ss_nil)) ss_nil)) (ss_cons (ss_ret se_bl) ss_nil)))))
theorem sc_l_same : FnScope ["_law_one", "_law_other", "_law_row", "_law_at", "_law_first", "_law_second"] ["_law_one", "_law_other"] (defScope s_l_same) := ⟨rfl, rfl, rfl, by decide +kernel, rfl, by decide +kernel, by decide +kernel⟩
theorem ok_l_same (t : Tx K mg) : OkF P w K mg base "_law_same" 1 F_l_same := by
  obtain ⟨fd, F⟩ := t.d_l_same
  refine ⟨_, fd, ["_law_one", "_law_other"], fn_ok F sc_l_same (by decide) (by decide) (fun cdv A outer s H E hr => ?_), t.g_l_same, F.kp, F.bindsN fun _ _ _ _ _ _ us hl => match us, hl with | [_, _], _ => rfl⟩
  have hu := room_u hr
  exact (ss_cons (st sc_l_same.nd (by decide) (se_lst (ac (se_tup (ac se_int (ac se_int an))) an))) (ss_cons (st sc_l_same.nd (by decide) se_int) (ss_cons (whU (passes_of rfl) (cmB (or_lt) (va 3) (cb (cr_len) t.n_len (ac (va 2) an))) (ss_cons (fr (pin' := [0, 1]) (passes_of rfl) (by decide) (by decide) (zp t.n_zip (ac (ix (va 0) (ix (ix (va 2) (va 3)) se_int)) (ac (ix (va 1) (ix (ix (va 2) (va 3)) se_int)) an))) (gT (gc (gn 4 sc_l_same.nd (by decide)) (gc (gn 5 sc_l_same.nd (by decide)) sg_nil))) (ss_cons (ss_if (cmB (or_ne (hu64 hu)) (ix (va 4) se_int) (ix (va 5) se_int)) (ss_cons (ss_ret se_bl) ss_nil) ss_nil) (ss_cons (ss_if (cmB (or_notIn hu) (se_tup (ac (ix (va 4) se_int) (ac (ix (va 5) se_int) an))) (va 2)) (ss_cons (ex (mApp (va 2) (ac (se_tup (ac (ix (va 4) se_int) (ac (ix (va 5) se_int) an))) an))) ss_nil) ss_nil) ss_nil))) (ss_cons (st sc_l_same.nd (by decide) (se_bin or_add (va 3) se_int)) ss_nil))) (ss_cons (ss_ret se_bl) ss_nil))))
theorem sc_law : FnScope ["_law_script", "_law_book_here", "_law_machine_here", "_law_answer"] ["_law_script"] (defScope s_law) := ⟨rfl, rfl, rfl, by decide +kernel, rfl, by decide +kernel, by decide +kernel⟩
theorem fn_law (t : Tx K mg) {fd : FuncData} (F : FunD K "law" "law" (defArgs s_law) (defBody s_law) (defScope s_law) [] [] (He.fAd K ("law", none)) fd) : FnOk P w K mg base CX0 31 (He.fAd K ("law", none)) fd ["_law_script"] (spF K fun ts => noE (F_law_k20 ts)) := by
  refine fn_ok0 F sc_law (by decide) (by decide) (fun cdv A outer s H E hr => ?_)
  have hu := room_u hr
  exact (ss_cons (st sc_law.nd (by decide) (cf (ok_l_book t) (hr.mono (by first | omega | decide)) takes0 (ac (va 0) (ac se_int (ac se_int (ac se_int an)))))) (ss_cons (st sc_law.nd (by decide) (cf (ok_l_machine t) (hr.mono (by first | omega | decide)) takes0 (ac (va 0) (ac se_int (ac (cb (cr_len) t.n_len (ac (ix (va 1) se_int) an)) (ac (cb (cr_len) t.n_len (ac (ix (va 1) se_int) an)) (ac se_int an))))))) (ss_cons (st sc_law.nd (by decide) (cf (ok_lesser t) (hr.mono (by first | omega | decide)) takes0 (ac (va 1) (ac (va 2) an)))) (ss_cons (ss_if (sw_or (sb_not (tv (cf (ok_l_is_machine t) (hr.mono (by first | omega | decide)) takes0 (ac (va 3) (ac (cb (cr_len) t.n_len (ac (ix (va 1) se_int) an)) (ac (cb (cr_len) t.n_len (ac (ix (va 1) se_int) an)) an)))))) (sw_or1 (sb_not (tv (cf (ok_l_same t) (hr.mono (by first | omega | decide)) takes0 (ac (va 2) (ac (va 3) an))))))).sb (ss_cons (ss_ret se_bl) ss_nil) ss_nil) (ss_cons (ss_ret (se_and (cf (ok_l_is_least t) (hr.mono (by first | omega | decide)) takes0 (ac (va 3) an)) (se_one (cm (or_eq (hu64 hu)) (cf (ok_lesser t) (hr.mono (by first | omega | decide)) takes0 (ac (va 1) (ac (va 3) an))) (va 3))))) ss_nil)))))
end
theorem tx_of {w : World} {K : PySem.W.Frag} {h : Heap} {mg : Str → Option Value} (X : K.In h) (G : h.Ns mainGlobals mg) (c : He.SaysX faL fnL [] [] exaL w h K) : Tx K mg where
  n_all := He.free_ok X G (c.t.d.fact 0 (f := .free "all") rfl)
  n_any := He.free_ok X G (c.t.d.fact 1 (f := .free "any") rfl)
  n_bool := He.free_ok X G (c.t.d.fact 2 (f := .free "bool") rfl)
  n_int := He.free_ok X G (c.t.d.fact 3 (f := .free "int") rfl)
  n_isinstance := He.free_ok X G (c.t.d.fact 4 (f := .free "isinstance") rfl)
  n_len := He.free_ok X G (c.t.d.fact 5 (f := .free "len") rfl)
  n_list := He.free_ok X G (c.t.d.fact 6 (f := .free "list") rfl)
  n_range := He.free_ok X G (c.t.d.fact 7 (f := .free "range") rfl)
  n_str := He.free_ok X G (c.t.d.fact 8 (f := .free "str") rfl)
  n_tuple := He.free_ok X G (c.t.d.fact 9 (f := .free "tuple") rfl)
  n_zip := He.free_ok X G (c.t.d.fact 10 (f := .free "zip") rfl)
  g_is_whole := He.glo_ok X G (c.t.d.fact 11 (f := .glo "is_whole") rfl)
  g_between := He.glo_ok X G (c.t.d.fact 12 (f := .glo "between") rfl)
  g_is_name := He.glo_ok X G (c.t.d.fact 13 (f := .glo "is_name") rfl)
  g_is_saying := He.glo_ok X G (c.t.d.fact 14 (f := .glo "is_saying") rfl)
  g_parts_of := He.glo_ok X G (c.t.d.fact 15 (f := .glo "parts_of") rfl)
  g_gathered := He.glo_ok X G (c.t.d.fact 16 (f := .glo "gathered") rfl)
  g_are_names := He.glo_ok X G (c.t.d.fact 17 (f := .glo "are_names") rfl)
  g_stands_free := He.glo_ok X G (c.t.d.fact 18 (f := .glo "stands_free") rfl)
  g_are_sayings := He.glo_ok X G (c.t.d.fact 19 (f := .glo "are_sayings") rfl)
  g_is_wish := He.glo_ok X G (c.t.d.fact 20 (f := .glo "is_wish") rfl)
  g_sayings_of := He.glo_ok X G (c.t.d.fact 21 (f := .glo "sayings_of") rfl)
  g_pieces_of := He.glo_ok X G (c.t.d.fact 22 (f := .glo "pieces_of") rfl)
  g_is_book := He.glo_ok X G (c.t.d.fact 23 (f := .glo "is_book") rfl)
  g_checked := He.glo_ok X G (c.t.d.fact 24 (f := .glo "checked") rfl)
  g_is_setting := He.glo_ok X G (c.t.d.fact 25 (f := .glo "is_setting") rfl)
  g_settings_of := He.glo_ok X G (c.t.d.fact 26 (f := .glo "settings_of") rfl)
  g_is_stand := He.glo_ok X G (c.t.d.fact 27 (f := .glo "is_stand") rfl)
  g_is_machine := He.glo_ok X G (c.t.d.fact 28 (f := .glo "is_machine") rfl)
  g_need_machine := He.glo_ok X G (c.t.d.fact 29 (f := .glo "need_machine") rfl)
  g_checked_machine := He.glo_ok X G (c.t.d.fact 30 (f := .glo "checked_machine") rfl)
  g_numbered := He.glo_ok X G (c.t.d.fact 31 (f := .glo "numbered") rfl)
  g_lesser_of := He.glo_ok X G (c.t.d.fact 32 (f := .glo "lesser_of") rfl)
  g_lesser := He.glo_ok X G (c.t.d.fact 33 (f := .glo "lesser") rfl)
  g_l_cell_at := He.glo_ok X G (c.t.d.fact 34 (f := .glo "_law_cell_at") rfl)
  g_l_mixed := He.glo_ok X G (c.t.d.fact 35 (f := .glo "_law_mixed") rfl)
  g_l_next := He.glo_ok X G (c.t.d.fact 36 (f := .glo "_law_next") rfl)
  g_l_names := He.glo_ok X G (c.t.d.fact 37 (f := .glo "_law_names") rfl)
  g_l_saying := He.glo_ok X G (c.t.d.fact 38 (f := .glo "_law_saying") rfl)
  g_l_promise := He.glo_ok X G (c.t.d.fact 39 (f := .glo "_law_promise") rfl)
  g_l_book := He.glo_ok X G (c.t.d.fact 40 (f := .glo "_law_book") rfl)
  g_l_settings := He.glo_ok X G (c.t.d.fact 41 (f := .glo "_law_settings") rfl)
  g_l_machine := He.glo_ok X G (c.t.d.fact 42 (f := .glo "_law_machine") rfl)
  g_l_whole := He.glo_ok X G (c.t.d.fact 43 (f := .glo "_law_whole") rfl)
  g_l_is_machine := He.glo_ok X G (c.t.d.fact 44 (f := .glo "_law_is_machine") rfl)
  g_l_are_apart := He.glo_ok X G (c.t.d.fact 45 (f := .glo "_law_are_apart") rfl)
  g_l_is_least := He.glo_ok X G (c.t.d.fact 46 (f := .glo "_law_is_least") rfl)
  g_l_same := He.glo_ok X G (c.t.d.fact 47 (f := .glo "_law_same") rfl)
  g_law := He.glo_ok X G (c.t.d.fact 48 (f := .glo "law") rfl)
  d_is_whole := c.t.d.def_ 0 (d := dd_is_whole) rfl
  d_between := c.t.d.def_ 1 (d := dd_between) rfl
  d_is_name := c.t.d.def_ 2 (d := dd_is_name) rfl
  d_is_saying := c.t.d.def_ 3 (d := dd_is_saying) rfl
  d_parts_of := c.t.d.def_ 4 (d := dd_parts_of) rfl
  d_gathered := c.t.d.def_ 5 (d := dd_gathered) rfl
  d_are_names := c.t.d.def_ 6 (d := dd_are_names) rfl
  d_stands_free := c.t.d.def_ 7 (d := dd_stands_free) rfl
  d_are_sayings := c.t.d.def_ 8 (d := dd_are_sayings) rfl
  d_is_wish := c.t.d.def_ 9 (d := dd_is_wish) rfl
  d_sayings_of := c.t.d.def_ 10 (d := dd_sayings_of) rfl
  d_pieces_of := c.t.d.def_ 11 (d := dd_pieces_of) rfl
  d_is_book := c.t.d.def_ 12 (d := dd_is_book) rfl
  d_checked := c.t.d.def_ 13 (d := dd_checked) rfl
  d_is_setting := c.t.d.def_ 14 (d := dd_is_setting) rfl
  d_settings_of := c.t.d.def_ 15 (d := dd_settings_of) rfl
  d_is_stand := c.t.d.def_ 16 (d := dd_is_stand) rfl
  d_is_machine := c.t.d.def_ 17 (d := dd_is_machine) rfl
  d_need_machine := c.t.d.def_ 18 (d := dd_need_machine) rfl
  d_checked_machine := c.t.d.def_ 19 (d := dd_checked_machine) rfl
  d_numbered := c.t.d.def_ 20 (d := dd_numbered) rfl
  d_lesser_of := c.t.d.def_ 21 (d := dd_lesser_of) rfl
  d_lesser := c.t.d.def_ 22 (d := dd_lesser) rfl
  d_l_cell_at := c.t.d.def_ 23 (d := dd_l_cell_at) rfl
  d_l_mixed := c.t.d.def_ 24 (d := dd_l_mixed) rfl
  d_l_next := c.t.d.def_ 25 (d := dd_l_next) rfl
  d_l_names := c.t.d.def_ 26 (d := dd_l_names) rfl
  d_l_saying := c.t.d.def_ 27 (d := dd_l_saying) rfl
  d_l_promise := c.t.d.def_ 28 (d := dd_l_promise) rfl
  d_l_book := c.t.d.def_ 29 (d := dd_l_book) rfl
  d_l_settings := c.t.d.def_ 30 (d := dd_l_settings) rfl
  d_l_machine := c.t.d.def_ 31 (d := dd_l_machine) rfl
  d_l_whole := c.t.d.def_ 32 (d := dd_l_whole) rfl
  d_l_is_machine := c.t.d.def_ 33 (d := dd_l_is_machine) rfl
  d_l_are_apart := c.t.d.def_ 34 (d := dd_l_are_apart) rfl
  d_l_is_least := c.t.d.def_ 35 (d := dd_l_is_least) rfl
  d_l_same := c.t.d.def_ 36 (d := dd_l_same) rfl
  d_law := c.t.d.def_ 37 (d := dd_law) rfl
  c_DEPTH := He.int_ok X G (c.t.d.fact 49 (f := .int "DEPTH" 8) rfl)
  c_DOUBLE := ⟨_, He.glo_ok X G (c.t.d.fact 50 (f := .glo "DOUBLE") rfl), ktupB_ok (ex_at (He.ba c.more).1 (i := 0) rfl)⟩
  c_LETTERS := He.str_ok X G (c.t.d.fact 51 (f := .str "LETTERS" "abcdefghijklmnopqrstuvwxyz") rfl)
  c_PAST := ⟨_, He.glo_ok X G (c.t.d.fact 52 (f := .glo "PAST") rfl), ktupB_ok (ex_at (He.ba c.more).1 (i := 1) rfl)⟩
  c_PIECES := He.int_ok X G (c.t.d.fact 53 (f := .int "PIECES" 4) rfl)
  c_PRICE := He.int_ok X G (c.t.d.fact 54 (f := .int "PRICE" 99) rfl)
  c_SINGLE := ⟨_, He.glo_ok X G (c.t.d.fact 55 (f := .glo "SINGLE") rfl), ktupB_ok (ex_at (He.ba c.more).1 (i := 2) rfl)⟩
  c_STANDS := He.int_ok X G (c.t.d.fact 56 (f := .int "STANDS" 64) rfl)
  c_WORDS := ⟨_, He.glo_ok X G (c.t.d.fact 57 (f := .glo "WORDS") rfl), ktupB_ok (ex_at (He.ba c.more).1 (i := 3) rfl)⟩
  e_NoBook := He.glo_ok X G (c.t.d.fact 58 (f := .glo "NoBook") rfl)
  q_NoBook := c.t.d.fact 59 (f := .exc "NoBook") rfl
  e_NoMachine := He.glo_ok X G (c.t.d.fact 60 (f := .glo "NoMachine") rfl)
  q_NoMachine := c.t.d.fact 61 (f := .exc "NoMachine") rfl
theorem factsL {P : Program} {w : World} {K : PySem.W.Frag} {h : Heap} {mg : Str → Option Value} {f : Addr} (X : K.In h) (G : h.Ns mainGlobals mg) (hfa : mg ("law" : Str) = some (.ref f)) (c : He.SaysX faL fnL [] [] exaL w h K) :
    ∃ fd : FuncData, (∀ (s : Shared) (v : Value), BindsTo s fd ⟨[v], []⟩ [("_law_script", v)]) ∧ ∀ base : Heap, K.In base → base.Ns mainGlobals mg → FnOk P w K mg base CX0 31 f fd ["_law_script"] (spF K fun ts => noE (F_law_k20 ts)) := by
  have t := tx_of X G c
  obtain ⟨fd, F⟩ := t.d_law
  have e := hfa.symm.trans t.g_law
  cases e
  have b := FunD.bindsA (ps := ["_law_script"]) F fun _ _ _ _ _ _ us hl => match us, hl with | [_], _ => rfl
  refine ⟨fd, fun s v => b s [v] rfl, fun base _ _ => ?_⟩
  exact fn_law t F
end Lz
open PySem PySem.W PySem.Calls PyProof.Rows
theorem PySem.Challenge.cw_leastloss_k20_whole_lesser_holds : PySem.Challenge.rw_leastloss_k20_whole_lesser.Holds := by
  w_on; o_law
  refine HandSHeadRun.head_any (r := OpenLaw.row PySem.Challenge.rw_leastloss_k20_whole_lesser) (q := view (OpenLaw.row PySem.Challenge.rw_leastloss_k20_whole_lesser).prog [56]) (H := Lz.hkL) (ob := Lz.obL) (M := 12000) (loose := Lz.looseL) (d := HandSHeadRun.topDef (OpenLaw.row PySem.Challenge.rw_leastloss_k20_whole_lesser).prog 56) (kwd := []) Lz.obL_eq
    (by kernel_rfl) (fun s => by kernel_rfl) Lz.runL (by kernel_rfl) (by kernel_rfl) (by kernel_rfl) (by rfl) (by first | assumption | decide +kernel) (by decide +kernel) ⟨rfl, rfl, rfl, rfl, rfl, by decide +kernel⟩ ?hw ?hc
  case hw => w_witness2
  case hc =>
    refine L2.walk_ofE (l := PySem.Challenge.rw_leastloss_k20_whole_lesser) (n := 63) (k := 31) (x := "_law_script") (CX := L2.CX0) rfl (by decide) (by kernel_rfl) ⟨rfl, by decide, by decide⟩ ?F (fun _ _ _ _ z => z)
    intro w mg fa h Y G hmg0
    obtain ⟨K, KX, c⟩ := Y
    have hmg : mg ("law" : PySem.Str) = some (.ref fa) := by
      have e : (HandSHeadRun.topDef (OpenLaw.row PySem.Challenge.rw_leastloss_k20_whole_lesser).prog 56).name = ("law" : PySem.Str) := by kernel_rfl
      rw [← e]
      exact hmg0
    obtain ⟨fd, hb, hF⟩ := Lz.factsL (P := (PySem.Challenge.rw_leastloss_k20_whole_lesser).prog) (w := w) KX G hmg c
    exact ⟨K, fd, Lz.spF K fun ts => Lz.noE (Lz.F_law_k20 ts), KX, hb, fun H a ns hl hO hS => Lz.law_end0 hO hS (Nat.le_trans hl (by decide)) (Lz.law_k20 ns hl), hF⟩
#print axioms PySem.Challenge.cw_leastloss_k20_whole_lesser_holds
