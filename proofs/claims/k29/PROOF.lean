import PyProof.Rows.All
import HandS.ForMost
import HandS.ForExc
import HandS.Style
import HandS.TupAny
import HandS.Deep
import HandS.SortInts
import HandS.NoneIn
import HandS.DictComp
import HandS.DictEq
import HandS.Dict
import HandS.TupLen
import HandS.Conv
import KE.KSortedM
import HandS.Star
import HandS.IsInst
import HandS.Defaults
import HandS.Exc
import HandS.Comp
import HandS.Iter
import HandS.Zip
import KE.GoesMore
import HandS.Small
import OpenK.KMeth
import PyProof.InstNe
import OpenK.KOps
import HandS.ExcInit
import HandS.ExcField
import KE.KExcInit
import PyProof.ExcBaseAll.OverflowError
import PyProof.ExcBaseAll.RuntimeError
import HandS.TryMany
import HandS.GenList
import HandS.Words
import HandS.WordsExc
import HandS.Head0
import HandS.Head1
import HandS.Head2
import HandS.HeadEnd
import HandS.EndBits
import HandS.HeadHook1
import HandS.HeadHook2
import HandS.Codes
import PySem.Challenge.RW_mendedpasts_k29_known_changes
set_option Elab.async false
set_option linter.all false
set_option maxRecDepth 100000
set_option maxHeartbeats 4000000
namespace Rf
open PySem L2

/-- data as a tree -/
inductive D where
  | non | bl (b : Bool) | int (i : Int) | str (s : Str)
  | tup (l : List D) | lst (l : List D)
  | dK (ks : List Key) (vs : List D) | dT (ks : List (List Key)) (vs : List D)
  | set (l : List Int)
  | ins (c : Nat) (fs : List Str) (vs : List D)
  | fn (i : Nat) | cls (i : Nat)
  | scr (l : List Int)      -- the script: a list that is read only
  | kt (l : List D)         -- a tuple of the module's own
  | any                     -- nothing is known of it
  deriving Inhabited

/-- where defs and classes stand -/
structure G where
  fa : Nat → Addr
  ca : Nat → Addr
  xi : Option (Addr × Value × Option Addr) := none   -- the exception that is handled

/-- a class of one's own, plain, with such attributes -/
def ClsOk (K : PySem.W.Frag) (g : G) (c : Nat) (fs : List Str) : Prop := Cls K (g.ca c) ∧ ∀ f ∈ fs, NoAttr K (g.ca c) f
section
variable (K : PySem.W.Frag) (g : G)
mutual
/-- the value v is the tree d, in the heap H -/
def RD (H : Hp) : D → V → Prop
  | .non, v => v = .non
  | .bl b, v => v = .bl b
  | .int i, v => v = .int i
  | .str s, v => v = .str s
  | .tup l, v => ∃ a vs, v = .ref a ∧ H a = some (.tup vs) ∧ RDs H l vs
  | .lst l, v => ∃ a vs, v = .ref a ∧ H a = some (.lst vs) ∧ RDs H l vs
  | .dK ks ds, v => ∃ a kvs, v = .ref a ∧ Rd H a (.dK kvs) ∧ kvs.map (·.1) = ks ∧ RDs H ds (kvs.map (·.2))
  | .dT ks ds, v => ∃ a kvs, v = .ref a ∧ Rd H a (.dT kvs) ∧ kvs.map (·.1) = ks ∧ RDs H ds (kvs.map (·.2))
  | .set l, v => ∃ a S, v = .ref a ∧ H a = some (.set S l.length) ∧ l.Nodup ∧ ∀ i, S i = decide (i ∈ l)
  | .ins c fs ds, v => ∃ a dx vs, v = .ref a ∧ H a = some (.ins (g.ca c) dx (fs.zip vs)) ∧ RDs H ds vs ∧ fs.length = vs.length ∧ ClsOk K g c fs
  | .fn i, v => v = .ref (g.fa i)
  | .cls i, v => v = .ref (g.ca i)
  | .scr l, v => ∃ a, v = .ref a ∧ SqL K H a (l.map V.int)
  | .kt l, v => ∃ a vs, v = .ref a ∧ SqT K H a vs ∧ RDs H l vs
  | .any, _ => True
def RDs (H : Hp) : List D → List V → Prop
  | [], vs => vs = []
  | d :: ds, vs => ∃ v r, vs = v :: r ∧ RD H d v ∧ RDs H ds r
end
end

def isF : HO → Bool
  | .frz _ _ => true
  | _ => false
/-- what could be read can be read (an object may have been locked, or unlocked) -/
structure Sm (H H' : Hp) : Prop where
  rd : ∀ a u, isF u = false → Rd H a u → Rd H' a u
  ex : ∀ a C dx fs, H a = some (.ins C dx fs) → H' a = some (.ins C dx fs)
  st : ∀ a T n, H a = some (.set T n) → H' a = some (.set T n)
  ls : ∀ a vs, H a = some (.lst vs) → H' a = some (.lst vs)
  tp : ∀ a vs, H a = some (.tup vs) → H' a = some (.tup vs)
  xd : ∀ a fs, H a = some (.xd fs) → H' a = some (.xd fs)
theorem Sm.of {H H' : Hp} (e : Same H H') : Sm H H' :=
  ⟨fun a u _ h => h.elim (fun h => .inl (e _ _ h)) fun ⟨o, h⟩ => .inr ⟨o, e _ _ h⟩, fun a C dx fs h => e _ _ h, fun a T n h => e _ _ h, fun a vs h => e _ _ h, fun a vs h => e _ _ h, fun a vs h => e _ _ h⟩
theorem Sm.refl (H : Hp) : Sm H H := ⟨fun _ _ _ h => h, fun _ _ _ _ h => h, fun _ _ _ h => h, fun _ _ h => h, fun _ _ h => h, fun _ _ h => h⟩
theorem Sm.trans {H H1 H2 : Hp} (x : Sm H H1) (y : Sm H1 H2) : Sm H H2 :=
  ⟨fun a u f h => y.rd a u f (x.rd a u f h), fun a C dx fs h => y.ex a C dx fs (x.ex a C dx fs h), fun a T n h => y.st a T n (x.st a T n h), fun a vs h => y.ls a vs (x.ls a vs h), fun a vs h => y.tp a vs (x.tp a vs h), fun a vs h => y.xd a vs (x.xd a vs h)⟩
theorem Sm.sqT {K : PySem.W.Frag} {H H' : Hp} {a : Addr} {xs : List V} (e : Sm H H') (h : SqT K H a xs) : SqT K H' a xs := by
  rcases h with h | h
  · exact .inl (e.rd _ _ rfl h)
  · exact .inr h
theorem Sm.sqL {K : PySem.W.Frag} {H H' : Hp} {a : Addr} {xs : List V} (e : Sm H H') (h : SqL K H a xs) : SqL K H' a xs := by
  rcases h with h | h
  · exact .inl (e.rd _ _ rfl h)
  · exact .inr h

section
variable {K : PySem.W.Frag} {g : G} {H H' S S' : Hp}
mutual
theorem RD.mono (e : Sm H H') : ∀ (d : D) (v : V), RD K g H d v → RD K g H' d v
  | .non, v, h => h
  | .bl b, v, h => h
  | .int i, v, h => h
  | .str s, v, h => h
  | .tup l, v, h => by
    obtain ⟨a, vs, e1, h1, h2⟩ := h
    exact ⟨a, vs, e1, e.tp _ _ h1, RDs.mono e l vs h2⟩
  | .lst l, v, h => by
    obtain ⟨a, vs, e1, h1, h2⟩ := h
    exact ⟨a, vs, e1, e.ls _ _ h1, RDs.mono e l vs h2⟩
  | .dK ks ds, v, h => by
    obtain ⟨a, kvs, e1, h1, h2, h3⟩ := h
    exact ⟨a, kvs, e1, e.rd _ _ rfl h1, h2, RDs.mono e ds _ h3⟩
  | .dT ks ds, v, h => by
    obtain ⟨a, kvs, e1, h1, h2, h3⟩ := h
    exact ⟨a, kvs, e1, e.rd _ _ rfl h1, h2, RDs.mono e ds _ h3⟩
  | .set l, v, h => by
    obtain ⟨a, T, e1, h1, h2⟩ := h
    exact ⟨a, T, e1, e.st _ _ _ h1, h2⟩
  | .ins c fs ds, v, h => by
    obtain ⟨a, dx, vs, e1, h1, h2, h3⟩ := h
    exact ⟨a, dx, vs, e1, e.ex _ _ _ _ h1, RDs.mono e ds vs h2, h3⟩
  | .fn i, v, h => h
  | .cls i, v, h => h
  | .scr l, v, h => by
    obtain ⟨a, e1, h1⟩ := h
    exact ⟨a, e1, e.sqL h1⟩
  | .kt l, v, h => by
    obtain ⟨a, vs, e1, h1, h2⟩ := h
    exact ⟨a, vs, e1, e.sqT h1, RDs.mono e l vs h2⟩
  | .any, v, h => trivial
theorem RDs.mono (e : Sm H H') : ∀ (ds : List D) (vs : List V), RDs K g H ds vs → RDs K g H' ds vs
  | [], vs, h => h
  | d :: ds, vs, h => by
    obtain ⟨v, r, e1, h1, h2⟩ := h
    exact ⟨v, r, e1, RD.mono e d v h1, RDs.mono e ds r h2⟩
end

theorem RDs.length : ∀ {ds : List D} {vs : List V}, RDs K g H ds vs → ds.length = vs.length
  | [], vs, h => by cases (show vs = [] from h); rfl
  | d :: ds, vs, h => by
    obtain ⟨v, r, rfl, _, h2⟩ := h
    simp [RDs.length h2]
theorem RDs.append : ∀ {ds es : List D} {vs us : List V}, RDs K g H ds vs → RDs K g H es us → RDs K g H (ds ++ es) (vs ++ us)
  | [], es, vs, us, h, h' => by cases (show vs = [] from h); exact h'
  | d :: ds, es, vs, us, h, h' => by
    obtain ⟨v, r, rfl, h1, h2⟩ := h
    exact ⟨v, r ++ us, rfl, h1, RDs.append h2 h'⟩
theorem RDs.nil : RDs K g H [] [] := rfl
theorem RDs.cons {d : D} {v : V} {ds : List D} {vs : List V} (h : RD K g H d v) (t : RDs K g H ds vs) : RDs K g H (d :: ds) (v :: vs) := ⟨v, vs, rfl, h, t⟩
theorem RDs.one {d : D} {v : V} (h : RD K g H d v) : RDs K g H [d] [v] := .cons h .nil
theorem RDs.get : ∀ {ds : List D} {vs : List V} {i : Nat} {d : D}, RDs K g H ds vs → ds[i]? = some d → ∃ v, vs[i]? = some v ∧ RD K g H d v
  | [], vs, i, d, h, e => by simp at e
  | x :: ds, vs, 0, d, h, e => by
    obtain ⟨v, r, rfl, h1, h2⟩ := h
    simp at e; subst e
    exact ⟨v, rfl, h1⟩
  | x :: ds, vs, i + 1, d, h, e => by
    obtain ⟨v, r, rfl, h1, h2⟩ := h
    obtain ⟨u, e1, e2⟩ := RDs.get (i := i) (d := d) h2 (by simpa using e)
    exact ⟨u, by simpa using e1, e2⟩
theorem RDs.get' : ∀ {ds : List D} {vs : List V} {i : Nat} {v : V}, RDs K g H ds vs → vs[i]? = some v → ∃ d, ds[i]? = some d ∧ RD K g H d v
  | [], vs, i, v, h, e => by cases (show vs = [] from h); simp at e
  | x :: ds, vs, 0, v, h, e => by
    obtain ⟨u, r, rfl, h1, h2⟩ := h
    simp at e; subst e
    exact ⟨x, rfl, h1⟩
  | x :: ds, vs, i + 1, v, h, e => by
    obtain ⟨u, r, rfl, h1, h2⟩ := h
    obtain ⟨d, e1, e2⟩ := RDs.get' (i := i) (v := v) h2 (by simpa using e)
    exact ⟨d, by simpa using e1, e2⟩
theorem RDs.take : ∀ {ds : List D} {vs : List V} (n : Nat), RDs K g H ds vs → RDs K g H (ds.take n) (vs.take n)
  | ds, vs, 0, h => by simp; exact RDs.nil
  | [], vs, n + 1, h => by cases (show vs = [] from h); simp; exact RDs.nil
  | d :: ds, vs, n + 1, h => by
    obtain ⟨v, r, rfl, h1, h2⟩ := h
    exact .cons h1 (RDs.take n h2)
theorem RDs.drop : ∀ {ds : List D} {vs : List V} (n : Nat), RDs K g H ds vs → RDs K g H (ds.drop n) (vs.drop n)
  | ds, vs, 0, h => h
  | [], vs, n + 1, h => by cases (show vs = [] from h); exact RDs.nil
  | d :: ds, vs, n + 1, h => by
    obtain ⟨v, r, rfl, h1, h2⟩ := h
    exact RDs.drop n h2
theorem RDs.reverse : ∀ {ds : List D} {vs : List V}, RDs K g H ds vs → RDs K g H ds.reverse vs.reverse
  | [], vs, h => by cases (show vs = [] from h); exact RDs.nil
  | d :: ds, vs, h => by
    obtain ⟨v, r, rfl, h1, h2⟩ := h
    rw [List.reverse_cons, List.reverse_cons]
    exact RDs.append (RDs.reverse h2) (.one h1)
theorem RDs.set : ∀ {ds : List D} {vs : List V} {d : D} {v : V} (n : Nat), RDs K g H ds vs → RD K g H d v → RDs K g H (ds.set n d) (vs.set n v)
  | [], vs, d, v, n, h, hd => by cases (show vs = [] from h); exact RDs.nil
  | x :: ds, vs, d, v, 0, h, hd => by
    obtain ⟨u, r, rfl, h1, h2⟩ := h
    exact .cons hd h2
  | x :: ds, vs, d, v, n + 1, h, hd => by
    obtain ⟨u, r, rfl, h1, h2⟩ := h
    exact .cons h1 (RDs.set n h2 hd)

inductive W where
  | sh (d : D)
  | oL (l : List D)
  | oK (ks : List Key) (vs : List D)
  | oT (ks : List (List Key)) (vs : List D)
  | oI (c : Nat) (fs : List Str) (ws : List W)
  | xn (c : Nat) (f : Str) (d : D)      -- the exception that is handled
  deriving Inhabited
mutual
def W.frz : W → D
  | .sh d => d
  | .oL l => .lst l
  | .oK ks vs => .dK ks vs
  | .oT ks vs => .dT ks vs
  | .oI c fs ws => .ins c fs (W.frzs ws)
  | .xn _ _ _ => .any
def W.frzs : List W → List D
  | [] => []
  | w :: ws => w.frz :: W.frzs ws
end
end

section
variable (K : PySem.W.Frag) (g : G) (S H : Hp)
mutual
/-- v is w; the addresses that w owns; the trees within stand in S -/
def RW : W → V → List Addr → Prop
  | .sh d, v, ft => ft = [] ∧ RD K g S d v
  | .oL l, v, ft => ∃ a vs, v = .ref a ∧ ft = [a] ∧ H a = some (.lst vs) ∧ RDs K g S l vs
  | .oK ks ds, v, ft => ∃ a kvs, v = .ref a ∧ ft = [a] ∧ H a = some (.dK kvs) ∧ kvs.map (·.1) = ks ∧ RDs K g S ds (kvs.map (·.2))
  | .oT ks ds, v, ft => ∃ a kvs, v = .ref a ∧ ft = [a] ∧ H a = some (.dT kvs) ∧ kvs.map (·.1) = ks ∧ RDs K g S ds (kvs.map (·.2))
  | .oI c fs ws, v, ft => ∃ a dx vs ft', v = .ref a ∧ ft = a :: ft' ∧ H a = some (.ins (g.ca c) dx (fs.zip vs)) ∧ RWs ws vs ft' ∧ fs.length = vs.length ∧ ClsOk K g c fs
  | .xn c f d, v, ft => ft = [] ∧ ∃ a dd u, g.xi = some (a, .ref (g.ca c), some dd) ∧ v = .ref a ∧ S dd = some (.xd [(f, u)]) ∧ RD K g S d u
def RWs : List W → List V → List Addr → Prop
  | [], vs, ft => vs = [] ∧ ft = []
  | w :: ws, vs, ft => ∃ v r f1 f2, vs = v :: r ∧ ft = f1 ++ f2 ∧ RW w v f1 ∧ RWs ws r f2
end
end

section
variable {K : PySem.W.Frag} {g : G} {H H' S S' : Hp}
mutual
theorem RW.move (e : Sm S S') : ∀ (w : W) (v : V) (ft : List Addr), (∀ a ∈ ft, H' a = H a) → RW K g S H w v ft → RW K g S' H' w v ft
  | .sh d, v, ft, k, h => ⟨h.1, RD.mono e d v h.2⟩
  | .oL l, v, ft, k, h => by
    obtain ⟨a, vs, e1, e2, h1, h2⟩ := h
    exact ⟨a, vs, e1, e2, by rw [k a (by simp [e2])]; exact h1, RDs.mono e l vs h2⟩
  | .oK ks ds, v, ft, k, h => by
    obtain ⟨a, kvs, e1, e2, h1, h2, h3⟩ := h
    exact ⟨a, kvs, e1, e2, by rw [k a (by simp [e2])]; exact h1, h2, RDs.mono e ds _ h3⟩
  | .oT ks ds, v, ft, k, h => by
    obtain ⟨a, kvs, e1, e2, h1, h2, h3⟩ := h
    exact ⟨a, kvs, e1, e2, by rw [k a (by simp [e2])]; exact h1, h2, RDs.mono e ds _ h3⟩
  | .oI c fs ws, v, ft, k, h => by
    obtain ⟨a, dx, vs, ft', e1, e2, h1, h2, h3⟩ := h
    exact ⟨a, dx, vs, ft', e1, e2, by rw [k a (by simp [e2])]; exact h1, RWs.move e ws vs ft' (fun b hb => k b (by simp [e2, hb])) h2, h3⟩
  | .xn c f d, v, ft, k, h => by
    obtain ⟨e1, a, dd, u, h1, h2, h3, h4⟩ := h
    exact ⟨e1, a, dd, u, h1, h2, e.xd _ _ h3, RD.mono e d u h4⟩
theorem RWs.move (e : Sm S S') : ∀ (ws : List W) (vs : List V) (ft : List Addr), (∀ a ∈ ft, H' a = H a) → RWs K g S H ws vs ft → RWs K g S' H' ws vs ft
  | [], vs, ft, k, h => h
  | w :: ws, vs, ft, k, h => by
    obtain ⟨v, r, f1, f2, e1, e2, h1, h2⟩ := h
    exact ⟨v, r, f1, f2, e1, e2, RW.move e w v f1 (fun a ha => k a (by simp [e2, ha])) h1, RWs.move e ws r f2 (fun a ha => k a (by simp [e2, ha])) h2⟩
end
mutual
theorem RW.there : ∀ (w : W) (v : V) (ft : List Addr), RW K g S H w v ft → ∀ a ∈ ft, ∃ o, H a = some o
  | .sh d, v, ft, h, a, ha => by
    obtain ⟨e1, _⟩ := h
    subst e1; cases ha
  | .oL l, v, ft, h, a, ha => by
    obtain ⟨b, vs, e1, e2, h1, h2⟩ := h
    subst e2; simp at ha; subst ha
    exact ⟨_, h1⟩
  | .oK ks ds, v, ft, h, a, ha => by
    obtain ⟨b, vs, e1, e2, h1, h2⟩ := h
    subst e2; simp at ha; subst ha
    exact ⟨_, h1⟩
  | .oT ks ds, v, ft, h, a, ha => by
    obtain ⟨b, vs, e1, e2, h1, h2⟩ := h
    subst e2; simp at ha; subst ha
    exact ⟨_, h1⟩
  | .oI c fs ws, v, ft, h, a, ha => by
    obtain ⟨b, dx, vs, ft', e1, e2, h1, h2, h3⟩ := h
    subst e2
    rcases List.mem_cons.mp ha with e | ha
    · subst e; exact ⟨_, h1⟩
    · exact RWs.there ws vs ft' h2 a ha
  | .xn c f d, v, ft, h, a, ha => by
    obtain ⟨e1, _⟩ := h
    subst e1; cases ha
theorem RWs.there : ∀ (ws : List W) (vs : List V) (ft : List Addr), RWs K g S H ws vs ft → ∀ a ∈ ft, ∃ o, H a = some o
  | [], vs, ft, h, a, ha => by
    obtain ⟨_, e⟩ := h
    subst e; cases ha
  | w :: ws, vs, ft, h, a, ha => by
    obtain ⟨v, r, f1, f2, e1, e2, h1, h2⟩ := h
    subst e2
    rcases List.mem_append.mp ha with ha | ha
    · exact RW.there w v f1 h1 a ha
    · exact RWs.there ws r f2 h2 a ha
end
/-- S with the cells at ft as they stand in H -/
def addS (S H : Hp) (ft : List Addr) : Hp := fun a => if a ∈ ft then H a else S a
theorem addS_same {ft : List Addr} (sub : ∀ a o, S a = some o → H a = some o) : Sm S (addS S H ft) := Sm.of fun a o e => by
  unfold addS
  split
  · exact sub a o e
  · exact e
theorem addS_in {ft : List Addr} {a : Addr} (h : a ∈ ft) : addS S H ft a = H a := if_pos h
theorem addS_out {ft : List Addr} {a : Addr} (h : a ∉ ft) : addS S H ft a = S a := if_neg h
theorem addS_sub {ft : List Addr} (sub : ∀ a o, S a = some o → H a = some o) : ∀ a o, addS S H ft a = some o → H a = some o := fun a o e => by
  unfold addS at e
  split at e
  · exact e
  · exact sub a o e
mutual
theorem RW.frz {F : List Addr} (sub : ∀ a o, S a = some o → H a = some o) : ∀ (w : W) (v : V) (ft : List Addr), (∀ a ∈ ft, a ∈ F) → RW K g S H w v ft → RD K g (addS S H F) w.frz v
  | .sh d, v, ft, k, h => by
    rw [W.frz]; exact RD.mono (addS_same sub) d v h.2
  | .oL l, v, ft, k, h => by
    obtain ⟨a, vs, e1, e2, h1, h2⟩ := h
    rw [W.frz]
    exact ⟨a, vs, e1, (by rw [addS_in (k a (by simp [e2]))]; exact h1), RDs.mono (addS_same sub) l vs h2⟩
  | .oK ks ds, v, ft, k, h => by
    obtain ⟨a, vs, e1, e2, h1, h2, h3⟩ := h
    rw [W.frz]
    exact ⟨a, vs, e1, Or.inl ((addS_in (k a (by simp [e2]))).trans h1), h2, RDs.mono (addS_same sub) ds _ h3⟩
  | .oT ks ds, v, ft, k, h => by
    obtain ⟨a, vs, e1, e2, h1, h2, h3⟩ := h
    rw [W.frz]
    exact ⟨a, vs, e1, Or.inl ((addS_in (k a (by simp [e2]))).trans h1), h2, RDs.mono (addS_same sub) ds _ h3⟩
  | .oI c fs ws, v, ft, k, h => by
    obtain ⟨a, dx, vs, ft', e1, e2, h1, h2, h3⟩ := h
    rw [W.frz]
    exact ⟨a, dx, vs, e1, (by rw [addS_in (k a (by simp [e2]))]; exact h1), RWs.frz sub ws vs ft' (fun b hb => k b (by simp [e2, hb])) h2, h3⟩
  | .xn c f d, v, ft, k, h => by
    rw [W.frz]; trivial
theorem RWs.frz {F : List Addr} (sub : ∀ a o, S a = some o → H a = some o) : ∀ (ws : List W) (vs : List V) (ft : List Addr), (∀ a ∈ ft, a ∈ F) → RWs K g S H ws vs ft → RDs K g (addS S H F) (W.frzs ws) vs
  | [], vs, ft, k, h => by
    obtain ⟨e, _⟩ := h
    rw [W.frzs]; exact e
  | w :: ws, vs, ft, k, h => by
    obtain ⟨v, r, f1, f2, e1, e2, h1, h2⟩ := h
    rw [W.frzs]
    exact ⟨v, r, e1, RW.frz sub w v f1 (fun a ha => k a (by simp [e2, ha])) h1, RWs.frz sub ws r f2 (fun a ha => k a (by simp [e2, ha])) h2⟩
end
end

abbrev Env := List (Option W)
abbrev Ft := Nat → List Addr
/-- the slots σ in the heap H are the environment; S: the shared part; ft: what each slot owns -/
structure Rel (K : PySem.W.Frag) (g : G) (env : Env) (S : Hp) (σ : St) (H : Hp) (ft : Ft) : Prop where
  sub : ∀ a o, S a = some o → H a = some o
  len : env.length = σ.length
  slot : ∀ (i : Nat) (w : W), env[i]? = some (some w) → ∃ v, σ[i]? = some (some v) ∧ RW K g S H w v (ft i)
  off : ∀ i, (∀ w, env[i]? ≠ some (some w)) → ft i = []
  nd : ∀ i, (ft i).Nodup
  dj : ∀ i j a, i ≠ j → a ∈ ft i → a ∉ ft j
  out : ∀ i a, a ∈ ft i → S a = none
/-- all that the slots own -/
def Ft.own (ft : Ft) : Addr → Prop := fun a => ∃ i, a ∈ ft i
/-- what a piece of code leaves as it is; O, O': what is owned ahead, behind -/
structure Step (S H : Hp) (O : Addr → Prop) (S' H' : Hp) (O' : Addr → Prop) : Prop where
  same : Sm S S'
  keep : ∀ a o, H a = some o → ¬ O a → H' a = some o
  own : ∀ a, O' a → O a ∨ H a = none
  grow : ∀ a o, S' a = some o → S a = some o ∨ H a = none ∨ O a
  there : ∀ a o, H a = some o → ∃ o', H' a = some o'
section
variable {K : PySem.W.Frag} {g : G} {S H S1 H1 S2 H2 S' H' : Hp} {O O1 O2 O' : Addr → Prop} {ft ft1 ft2 ft' : Ft} {env env' : Env} {σ σ' : St}
theorem Step.refl : Step S H O S H O := ⟨Sm.refl S, fun _ _ h _ => h, fun a h => .inl h, fun _ _ h => .inl h, fun _ o h => ⟨o, h⟩⟩
theorem Step.free (x : Step S H O S1 H1 O1) {a : Addr} (z : H1 a = none) : H a = none := by
  cases q : H a with
  | none => rfl
  | some o =>
    obtain ⟨o', e⟩ := x.there a o q
    rw [e] at z; cases z
theorem Step.trans (x : Step S H O S1 H1 O1) (y : Step S1 H1 O1 S2 H2 O2) : Step S H O S2 H2 O2 := by
  refine ⟨x.same.trans y.same, fun a o h n => ?_, fun a h => ?_, fun a o h => ?_, fun a o h => ?_⟩
  · refine y.keep a o (x.keep a o h n) fun hi => ?_
    rcases x.own a hi with z | z
    · exact n z
    · rw [h] at z; cases z
  · rcases y.own a h with z | z
    · exact x.own a z
    · exact .inr (x.free z)
  · rcases y.grow a o h with z | z | z
    · exact x.grow a o z
    · exact .inr (.inl (x.free z))
    · rcases x.own a z with q | q
      · exact .inr (.inr q)
      · exact .inr (.inl q)
  · obtain ⟨o', e⟩ := x.there a o h
    exact y.there a o' e
/-- fewer owned addresses behind -/
theorem Step.post (x : Step S H O S1 H1 O1) (h : ∀ a, O2 a → O1 a) : Step S H O S1 H1 O2 :=
  ⟨x.same, x.keep, fun a ha => x.own a (h a ha), x.grow, x.there⟩
/-- more ahead -/
theorem Step.pre (x : Step S H O S1 H1 O1) (h : ∀ a, O a → O2 a) : Step S H O2 S1 H1 O1 :=
  ⟨x.same, fun a o e n => x.keep a o e fun hi => n (h a hi), fun a ha => (x.own a ha).imp (h a) id, fun a o e => (x.grow a o e).imp id (Or.imp id (h a)), x.there⟩
/-- something else that is owned stands aside -/
theorem Step.frame (x : Step S H O S1 H1 O1) (B : Addr → Prop) : Step S H (fun a => O a ∨ B a) S1 H1 (fun a => O1 a ∨ B a) :=
  ⟨x.same, fun a o e n => x.keep a o e fun hi => n (.inl hi), fun a ha => ha.elim (fun z => (x.own a z).imp .inl id) fun z => .inl (.inr z), fun a o e => (x.grow a o e).imp id (Or.imp id .inl), x.there⟩

theorem Rel.hasAt (R : Rel K g env S σ H ft) {i : Nat} {a : Addr} (h : a ∈ ft i) : ∃ o, H a = some o := by
  cases q : env[i]? with
  | none =>
    have := R.off i (fun w => by rw [q]; exact fun z => nomatch z)
    rw [this] at h; cases h
  | some x =>
    cases x with
    | none =>
      have := R.off i (fun w => by rw [q]; exact fun z => nomatch z)
      rw [this] at h; cases h
    | some w =>
      obtain ⟨v, _, r⟩ := R.slot i w q
      exact RW.there w v _ r a h
theorem Rel.sh (R : Rel K g env S σ H ft) {i : Nat} {d : D} (h : env[i]? = some (some (.sh d))) : ∃ v, σ[i]? = some (some v) ∧ RD K g S d v := by
  obtain ⟨v, e, r⟩ := R.slot i _ h
  exact ⟨v, e, r.2⟩
theorem Rel.fresh (R : Rel K g env S σ H ft) {p : Addr} (h : H p = none) : ∀ i, p ∉ ft i := fun i hi => by
  obtain ⟨o, e⟩ := R.hasAt hi
  rw [h] at e; cases e
theorem Rel.freshS (R : Rel K g env S σ H ft) {p : Addr} (h : H p = none) : S p = none := by
  cases q : S p with
  | none => rfl
  | some o => rw [R.sub p o q] at h; cases h

/-- a new shared object -/
theorem Rel.laid (R : Rel K g env S σ H ft) {p : Addr} {o : HO} (h : H p = none) : Rel K g env (upd S p o) σ (upd H p o) ft := by
  have nf := R.fresh h
  have sS : Sm S (upd S p o) := Sm.of fun a u e => by
    rw [upd_ne (ne_of_none e (R.freshS h))]; exact e
  refine ⟨fun a u e => ?_, R.len, fun i w e => ?_, R.off, R.nd, R.dj, fun i a ha => ?_⟩
  · by_cases q : a = p
    · subst q; rw [upd_same] at e ⊢; exact e
    · rw [upd_ne q] at e ⊢; exact R.sub a u e
  · obtain ⟨v, e1, r⟩ := R.slot i w e
    exact ⟨v, e1, RW.move sS w v _ (fun a ha => upd_ne fun (q : a = p) => nf i (by rw [← q]; exact ha)) r⟩
  · rw [upd_ne fun (q : a = p) => nf i (by rw [← q]; exact ha)]; exact R.out i a ha
theorem Step.laid {p : Addr} {o : HO} (R : Rel K g env S σ H ft) (h : H p = none) : Step S H ft.own (upd S p o) (upd H p o) ft.own :=
  ⟨Sm.of fun a u e => by rw [upd_ne (ne_of_none e (R.freshS h))]; exact e, fun a u e _ => by rw [upd_ne (ne_of_none e h)]; exact e, fun a ha => .inl ha, fun a u e => by
    by_cases q : a = p
    · subst q; exact .inr (.inl h)
    · rw [upd_ne q] at e; exact .inl e, fun a u e => ⟨u, by rw [upd_ne (ne_of_none e h)]; exact e⟩⟩

/-- what a slot owns, forgotten: the slot is lent out -/
def Ft.off (ft : Ft) (i : Nat) : Ft := fun j => if j = i then [] else ft j
theorem Ft.off_sub {i j : Nat} {a : Addr} (h : a ∈ ft.off i j) : a ∈ ft j := by
  unfold Ft.off at h
  split at h
  · cases h
  · exact h
theorem Rel.lend (R : Rel K g env S σ H ft) (i : Nat) : Rel K g (env.set i none) S σ H (ft.off i) := by
  refine ⟨R.sub, by rw [List.length_set]; exact R.len, fun j w e => ?_, fun j h => ?_, fun j => ?_, fun j k a n h1 h2 => R.dj j k a n (Ft.off_sub h1) (Ft.off_sub h2), fun j a h => R.out j a (Ft.off_sub h)⟩
  · by_cases q : i = j
    · subst q
      by_cases l : i < env.length
      · rw [List.getElem?_set_self l] at e; cases e
      · rw [List.getElem?_eq_none (by simpa using l)] at e; cases e
    · rw [List.getElem?_set_ne q] at e
      obtain ⟨v, e1, r⟩ := R.slot j w e
      refine ⟨v, e1, ?_⟩
      unfold Ft.off
      rw [if_neg (Ne.symm q)]; exact r
  · unfold Ft.off
    split
    · rfl
    · rename_i q
      exact R.off j fun w e => h w (by rw [List.getElem?_set_ne (Ne.symm q)]; exact e)
  · unfold Ft.off
    split
    · exact List.nodup_nil
    · exact R.nd j
/-- put a content into a slot -/
def Ft.put (ft : Ft) (i : Nat) (l : List Addr) : Ft := fun j => if j = i then l else ft j
theorem Ft.put_self {i : Nat} {l : List Addr} : ft.put i l i = l := if_pos rfl
theorem Ft.put_ne {i j : Nat} {l : List Addr} (h : j ≠ i) : ft.put i l j = ft j := if_neg h
theorem Rel.store (R : Rel K g env S σ H ft) {i : Nat} {w : W} {v : V} {l : List Addr} (hi : i < env.length) (r : RW K g S H w v l) (nd : l.Nodup) (dj : ∀ j a, j ≠ i → a ∈ l → a ∉ ft j) (out : ∀ a ∈ l, S a = none) :
    Rel K g (env.set i (some w)) S (σ.set i (some v)) H (ft.put i l) := by
  refine ⟨R.sub, by rw [List.length_set, List.length_set]; exact R.len, fun j x e => ?_, fun j h => ?_, fun j => ?_, fun j k a n h1 h2 => ?_, fun j a h => ?_⟩
  · by_cases q : i = j
    · subst q
      rw [List.getElem?_set_self hi] at e
      cases e
      refine ⟨v, by rw [List.getElem?_set_self (by rw [← R.len]; exact hi)], ?_⟩
      rw [Ft.put_self]; exact r
    · rw [List.getElem?_set_ne q] at e
      obtain ⟨u, e1, r1⟩ := R.slot j x e
      refine ⟨u, by rw [List.getElem?_set_ne q]; exact e1, ?_⟩
      rw [Ft.put_ne (Ne.symm q)]; exact r1
  · by_cases q : i = j
    · subst q
      exact absurd (List.getElem?_set_self hi) (h w)
    · rw [Ft.put_ne (Ne.symm q)]
      exact R.off j fun x e => h x (by rw [List.getElem?_set_ne q]; exact e)
  · by_cases q : i = j
    · subst q; rw [Ft.put_self]; exact nd
    · rw [Ft.put_ne (Ne.symm q)]; exact R.nd j
  · by_cases q : j = i
    · subst q
      rw [Ft.put_self] at h1
      rw [Ft.put_ne (Ne.symm n)] at h2
      exact dj k a (Ne.symm n) h1 h2
    · rw [Ft.put_ne q] at h1
      by_cases q2 : k = i
      · subst q2
        rw [Ft.put_self] at h2
        exact dj j a q h2 h1
      · rw [Ft.put_ne q2] at h2
        exact R.dj j k a n h1 h2
  · by_cases q : j = i
    · subst q
      rw [Ft.put_self] at h; exact out a h
    · rw [Ft.put_ne q] at h; exact R.out j a h
end
end Rf

namespace Rf
open PySem L2

/-- the largest length -/
abbrev lim : Nat := 16777216

inductive R (α : Type) where
  | ok (a : α) (env : Env)
  | exc (x : D) (env : Env)
  | bad
def R.bind {α β : Type} : R α → (α → Env → R β) → R β
  | .ok a env, f => f a env
  | .exc x env, _ => .exc x env
  | .bad, _ => .bad
@[simp] theorem R.bind_ok {α β : Type} (a : α) (env : Env) (f : α → Env → R β) : (R.ok a env).bind f = f a env := rfl
@[simp] theorem R.bind_exc {α β : Type} (x : D) (env : Env) (f : α → Env → R β) : (R.exc x env : R α).bind f = .exc x env := rfl
@[simp] theorem R.bind_bad {α β : Type} (f : α → Env → R β) : (R.bad : R α).bind f = .bad := rfl

inductive Out where
  | ok (w : W) (outs : Env)
  | exc (x : D) (outs : Env)
  | bad

inductive Ty where | int | bool | str | list | tuple | dict | own (c : Nat)
  deriving DecidableEq
inductive Op where
  | add | sub | mul | fdiv | mod | pow
  | eq | ne | lt | le | gt | ge | is | isnot | isin | notin
  | neg | idx | rev
  | len | int | abs | max2 | min2 | maxL | minL | sum | sorted | list | tuple | dict | all | any | str | repr
  | get1 | get2 | index | join | split | upper
  | inst (cs : List Nat) (ts : List Ty)

mutual
def D.py : D → Option PyData
  | .non => some .none
  | .bl b => some (.bool b)
  | .int i => some (.int i)
  | .str s => some (.str s)
  | .lst l => (D.pys l).map .list
  | .tup l => (D.pys l).map .tuple
  | .kt l => (D.pys l).map .tuple
  | _ => none
def D.pys : List D → Option (List PyData)
  | [] => some []
  | d :: ds => match d.py, D.pys ds with
    | some x, some xs => some (x :: xs)
    | _, _ => none
end
def deq (a b : D) : Option Bool :=
  match a.py, b.py with
  | some x, some y => if SeqAt.shaped x && SeqAt.shaped y then some (PyData.eqv x y) else none
  | _, _ => none
def replOk (p : PyData) : Bool := SeqAt.shaped p && p.showable && decide (p.shown.length ≤ lim)
def reprD (a : D) : Option Str := match a.py with
  | some p => if replOk p then some p.shown else none
  | none => none
def D.truth : D → Option Bool
  | .non => some false
  | .bl b => some b
  | .int i => some (i != 0)
  | .str s => if s.length ≤ lim then some ((s.length : Int) != 0) else none
  | .lst l => some (!l.isEmpty)
  | .tup l => some (!l.isEmpty)
  | _ => none
def W.truth : W → Option Bool
  | .sh d => d.truth
  | .oL l => some (!l.isEmpty)
  | _ => none
def D.isTy (cs : List Nat) : D → Ty → Option Bool
  | .non, _ => some false
  | .bl _, t => some (t == .bool || t == .int)
  | .int _, t => some (t == .int)
  | .str _, t => some (t == .str)
  | .lst _, t => some (t == .list)
  | .tup _, t => some (t == .tuple)
  | .dK _ _, t => some (t == .dict)
  | .ins c _ _, t => if c ∈ cs then some (t == .own c) else none
  | _, _ => none
def D.isTys (cs : List Nat) (d : D) : List Ty → Option Bool
  | [] => some false
  | t :: ts => match d.isTy cs t with
    | some true => some true
    | some false => D.isTys cs d ts
    | none => none
def atD (l : List D) (i : Int) : Option D :=
  if 0 ≤ i then l[i.toNat]? else if 0 ≤ (l.length : Int) + i then l[((l.length : Int) + i).toNat]? else none
def cutD (l : List D) (lo hi : Option Int) : List D := (l.drop (HT.sIx l.length 0 lo)).take (HT.sIx l.length l.length hi - HT.sIx l.length 0 lo)
def keyD : D → Option Key
  | .int i => some (.inl i)
  | .str s => some (.inr s)
  | _ => none
def keysD : List D → Option (List Key)
  | [] => some []
  | d :: ds => match keyD d, keysD ds with
    | some k, some r => some (k :: r)
    | _, _ => none
def lookD {κ : Type} [DecidableEq κ] : List κ → List D → κ → Option D
  | k :: ks, d :: ds, j => if k = j then some d else lookD ks ds j
  | _, _, _ => none
def keyTo : Key → D
  | .inl i => .int i
  | .inr s => .str s
def intsD : List D → Option (List Int)
  | [] => some []
  | .int i :: ds => (intsD ds).map (i :: ·)
  | _ => none
def boolsD : List D → Option (List Bool)
  | [] => some []
  | .bl b :: ds => (boolsD ds).map (b :: ·)
  | _ => none
def insI (x : Int) : List Int → List Int
  | [] => [x]
  | y :: ys => if x ≤ y then x :: y :: ys else y :: insI x ys
def sortI : List Int → List Int
  | [] => []
  | x :: xs => insI x (sortI xs)
def maxI : List Int → Option Int
  | [] => none
  | x :: xs => some (xs.foldl (fun m y => if y > m then y else m) x)
def minI : List Int → Option Int
  | [] => none
  | x :: xs => some (xs.foldl (fun m y => if y < m then y else m) x)
def inD (d : D) (l : List D) : Option Bool :=
  match d.py, D.pys l with
  | some x, some xs => if SeqAt.shaped x && SeqAt.shaped (.list xs) then some (xs.any fun z => PyData.eqv z x) else none
  | _, _ => none
/-- a dict's items among another one's -/
def dkEq : List Key → List D → List Key → List D → Option Bool
  | k :: ks, d :: ds, ls, es => match lookD ls es k with
    | none => some false
    | some e => match deq d e, dkEq ks ds ls es with
      | some b, some r => some (b && r)
      | _, _ => none
  | _, _, _, _ => some true
def eqD (a b : D) : Option Bool :=
  match a with
  | .dK ks ds => match b with
    | .dK ls es => if ks.length = ls.length then dkEq ks ds ls es else some false
    | _ => none
  | _ => deq a b
def mulOk (i j : Int) : Bool := (decide (-(2 ^ 64) < i) && decide (i < 2 ^ 64)) || (decide (-(2 ^ 64) < j) && decide (j < 2 ^ 64))

def D.int? : D → Option Int | .int i => some i | _ => none
def D.str? : D → Option Str | .str i => some i | _ => none
def D.lst? : D → Option (List D) | .lst i => some i | _ => none
def D.tup? : D → Option (List D) | .tup i => some i | _ => none
def D.bl? : D → Option Bool | .bl i => some i | _ => none
def D.dK? : D → Option (List Key × List D) | .dK a b => some (a, b) | _ => none
def D.dT? : D → Option (List (List Key) × List D) | .dT a b => some (a, b) | _ => none
def D.scr? : D → Option (List Int) | .scr i => some i | _ => none
def D.isNon : D → Bool | .non => true | _ => false
@[simp] theorem D.int?_int (i : Int) : (D.int i).int? = some i := rfl
@[simp] theorem D.str?_str (i : Str) : (D.str i).str? = some i := rfl
@[simp] theorem D.lst?_lst (i : List D) : (D.lst i).lst? = some i := rfl
@[simp] theorem D.tup?_tup (i : List D) : (D.tup i).tup? = some i := rfl
@[simp] theorem D.bl?_bl (i : Bool) : (D.bl i).bl? = some i := rfl
@[simp] theorem D.dK?_dK (a : List Key) (b : List D) : (D.dK a b).dK? = some (a, b) := rfl
@[simp] theorem D.dT?_dT (a : List (List Key)) (b : List D) : (D.dT a b).dT? = some (a, b) := rfl
def i2 (a b : D) (f : Int → Int → Option W) : Option W := match a.int? with
  | some i => match b.int? with
    | some j => f i j
    | none => none
  | none => none
def addD (a b : D) : Option W :=
  match a with
  | .int i => match b.int? with | some j => some (.sh (.int (i + j))) | none => none
  | .str s => match b.str? with | some t => if s.length + t.length ≤ lim then some (.sh (.str (s ++ t))) else none | none => none
  | .lst l => match b.lst? with | some m => if l.length + m.length ≤ lim then some (.oL (l ++ m)) else none | none => none
  | .tup l => match b.tup? with | some m => if l.length + m.length ≤ lim then some (.sh (.tup (l ++ m))) else none | none => none
  | _ => none
def D.isAny : D → Bool | .any => true | _ => false
def isD (a b : D) : Option Bool :=
  match b with
  | .non => if a.isAny then none else some a.isNon
  | .bl k => match a.bl? with | some j => some (j == k) | none => none
  | _ => none
def keyN : D → Option (Option Key)
  | .non => some none
  | .int i => some (some (.inl i))
  | .str s => some (some (.inr s))
  | _ => none
def memD (a b : D) : Option Bool :=
  match b with
  | .lst l => inD a l
  | .tup l => inD a l
  | .kt l => inD a l
  | .dK ks vs => match keyN a with
    | some (some k) => some (lookD ks vs k).isSome
    | some none => some false
    | none => none
  | .dT ks vs => match a.tup? with | some l => (match keysD l with | some k => some (lookD ks vs k).isSome | none => none) | none => none
  | _ => none
def getD (a b : D) : Option (Option D) :=
  match a with
  | .dK ks vs => match keyD b with | some k => some (lookD ks vs k) | none => none
  | .dT ks vs => match b.tup? with | some l => (match keysD l with | some k => some (lookD ks vs k) | none => none) | none => none
  | _ => none
def idxD (a b : D) : Option D :=
  match a with
  | .lst l => match b.int? with | some i => atD l i | none => none
  | .tup l => match b.int? with | some i => atD l i | none => none
  | .scr l => match b.int? with | some i => if 0 ≤ i then (l[i.toNat]?).map .int else none | none => none
  | a => (getD a b).join
def lenD : D → Option Nat
  | .lst l => some l.length
  | .tup l => some l.length
  | .scr l => some l.length
  | .dK ks _ => some ks.length
  | .str s => if s.length ≤ lim then some s.length else none
  | _ => none
def slcD (a : D) (lo hi : Option Int) : Option W :=
  match a with
  | .lst l => some (.oL (cutD l lo hi))
  | .tup l => some (.sh (.tup (cutD l lo hi)))
  | .scr l => some (.oL (cutD (l.map .int) lo hi))
  | _ => none
def int?? : D → Option Int
  | .int i => some i
  | .bl b => some (if b then 1 else 0)
  | _ => none
def intsOf (a : D) : Option (List Int) := match a with
  | .lst l => intsD l
  | .scr l => some l
  | _ => none
def replD {κ : Type} [DecidableEq κ] (k : κ) (d : D) : List κ → List D → List D
  | j :: js, e :: es => (if j = k then d else e) :: replD k d js es
  | _, _ => []
def putD {κ : Type} [DecidableEq κ] (k : κ) (d : D) (ks : List κ) (vs : List D) : List κ × List D := if k ∈ ks then (ks, replD k d ks vs) else (ks ++ [k], vs ++ [d])
def dcMerge : List (D × D) → List Key × List D → Option (List Key × List D)
  | [], acc => some acc
  | (k, d) :: r, acc => match keyD k with
    | some k => dcMerge r (putD k d acc.1 acc.2)
    | none => none
def unpairs : List D → Option (List (D × D))
  | [] => some []
  | .tup [a, b] :: r => (unpairs r).map ((a, b) :: ·)
  | _ => none
def dictD (a : D) : Option W := match a with
  | .dK ks vs => some (.oK ks vs)
  | .lst l => match unpairs l with
    | some ps => (dcMerge ps ([], [])).map fun r => .oK r.1 r.2
    | none => none
  | _ => none
/-- an operation on data, without effects; its answer may be a new list -/
def opD : Op → List D → Option W
  | .add, [a, b] => addD a b
  | .sub, [a, b] => i2 a b fun i j => some (.sh (.int (i - j)))
  | .mul, [a, b] => i2 a b fun i j => if mulOk i j then some (.sh (.int (i * j))) else none
  | .fdiv, [a, b] => i2 a b fun i j => if 0 < j ∧ j < 1073741824 then some (.sh (.int (i / j))) else none
  | .mod, [a, b] => i2 a b fun i j => if 0 < j then some (.sh (.int (i % j))) else none
  | .pow, [a, b] => i2 a b fun i j => if 0 ≤ j ∧ j ≤ 1000000 ∧ i.natAbs < 2 ^ 64 then some (.sh (.int (i ^ j.toNat))) else none
  | .neg, [a] => match a.int? with | some i => some (.sh (.int (-i))) | none => none
  | .eq, [a, b] => (eqD a b).map fun k => .sh (.bl k)
  | .ne, [a, b] => (deq a b).map fun k => .sh (.bl (!k))
  | .lt, [a, b] => i2 a b fun i j => some (.sh (.bl (decide (i < j))))
  | .le, [a, b] => i2 a b fun i j => some (.sh (.bl (decide (i ≤ j))))
  | .gt, [a, b] => i2 a b fun i j => some (.sh (.bl (decide (j < i))))
  | .ge, [a, b] => i2 a b fun i j => some (.sh (.bl (decide (j ≤ i))))
  | .is, [a, b] => (isD a b).map fun k => .sh (.bl k)
  | .isnot, [a, b] => (isD a b).map fun k => .sh (.bl (!k))
  | .isin, [a, b] => (memD a b).map fun k => .sh (.bl k)
  | .notin, [a, b] => (memD a b).map fun k => .sh (.bl (!k))
  | .idx, [a, b] => (idxD a b).map .sh
  | .get1, [a, b] => (getD a b).map fun o => .sh (o.getD .non)
  | .get2, [a, b, c] => (getD a b).map fun o => .sh (o.getD c)
  | .rev, [a] => match a.lst? with | some l => some (.oL l.reverse) | none => none
  | .len, [a] => (lenD a).map fun (n : Nat) => W.sh (.int (n : Int))
  | .int, [a] => (int?? a).map fun i => .sh (.int i)
  | .abs, [a] => match a.int? with | some i => some (.sh (.int (if i < 0 then -i else i))) | none => none
  | .max2, [a, b] => i2 a b fun i j => some (.sh (.int (if j > i then j else i)))
  | .min2, [a, b] => i2 a b fun i j => some (.sh (.int (if j < i then j else i)))
  | .maxL, [a] => match intsOf a with | some xs => (maxI xs).map fun i => .sh (.int i) | none => none
  | .minL, [a] => match intsOf a with | some xs => (minI xs).map fun i => .sh (.int i) | none => none
  | .sum, [a] => (intsOf a).map fun xs => .sh (.int xs.sum)
  | .sorted, [a] => (intsOf a).map fun xs => .oL ((sortI xs).map .int)
  | .list, [a] => match a with
    | .lst l => some (.oL l)
    | .tup l => some (.oL l)
    | .dK ks _ => some (.oL (ks.map keyTo))
    | _ => none
  | .tuple, [a] => match a with
    | .lst l => some (.sh (.tup l))
    | .tup l => some (.sh (.tup l))
    | _ => none
  | .dict, [a] => dictD a
  | .all, [a] => match a.lst? with | some l => (boolsD l).map fun bs => .sh (.bl (bs.all id)) | none => none
  | .any, [a] => match a.lst? with | some l => (boolsD l).map fun bs => .sh (.bl (bs.any id)) | none => none
  | .inst cs ts, [a] => (a.isTys cs ts).map fun k => .sh (.bl k)
  | .repr, [a] => (reprD a).map fun s => .sh (.str s)
  | _, _ => none

inductive Pk where | no | var (i : Nat) | fld (i : Nat) (f : Str)
  deriving DecidableEq
structure Ev where
  w : Env → R W
  t : Env → R Bool
  pk : Pk := .no
  star : Bool := false
  lit : Bool := false      -- a constant

def lookF : List Str → List W → Str → Option W
  | g :: gs, w :: ws, f => if g = f then some w else lookF gs ws f
  | _, _, _ => none
def lookFD : List Str → List D → Str → Option D
  | g :: gs, w :: ws, f => if g = f then some w else lookFD gs ws f
  | _, _, _ => none
def tOf (r : R W) : R Bool := r.bind fun x env => match x.truth with | some k => .ok k env | none => .bad
def mkEv (w : Env → R W) : Ev := { w := w, t := fun env => tOf (w env) }

/-- a slot's content as a tree; the slot keeps it, shared from then on -/
def shareAt (i : Nat) (env : Env) : R D :=
  match env[i]? with
  | some (some (.sh d)) => .ok d env
  | some (some w) => .ok w.frz (env.set i (some (.sh w.frz)))
  | _ => .bad
def moveAt (i : Nat) (env : Env) : R W :=
  match env[i]? with
  | some (some (.sh d)) => .ok (.sh d) env
  | some (some w) => .ok w (env.set i none)
  | _ => .bad
def truthAt (i : Nat) (env : Env) : R Bool :=
  match env[i]? with
  | some (some w) => match w.truth with | some k => .ok k env | none => .bad
  | _ => .bad
/-- the truth of a value -/
def Ev.tv (E : Ev) (env : Env) : R Bool :=
  match E.pk with
  | .var _ => E.t env
  | _ => tOf (E.w env)
/-- as a tree -/
def Ev.e (E : Ev) (env : Env) : R D :=
  match E.pk with
  | .var i => shareAt i env
  | _ => (E.w env).bind fun w env' => .ok w.frz env'
/-- an operand: known, or a slot that is looked at when all operands are known -/
inductive Pv where | val (d : D) | var (i : Nat)
def W.peek : W → Option D
  | .sh d => some d
  | .oL l => some (.lst l)
  | .oK ks vs => some (.dK ks vs)
  | .oT ks vs => some (.dT ks vs)
  | .oI _ _ _ => none
  | .xn _ _ _ => none
def Pv.res (env : Env) : Pv → Option D
  | .val d => some d
  | .var i => match env[i]? with
    | some (some w) => w.peek
    | _ => none
def resAll (env : Env) : List Pv → Option (List D)
  | [] => some []
  | p :: ps => match p.res env, resAll env ps with
    | some d, some ds => some (d :: ds)
    | _, _ => none
def runP : List Ev → Env → R (List Pv)
  | [], env => .ok [] env
  | E :: Es, env => match E.pk with
    | .var i => match env[i]? with
      | some (some _) => (runP Es env).bind fun ps env' => .ok (.var i :: ps) env'
      | _ => .bad
    | _ => (E.e env).bind fun d env1 => (runP Es env1).bind fun ps env2 => .ok (.val d :: ps) env2
def D.isIns : D → Bool
  | .ins _ _ _ => true
  | _ => false
/-- does an own class answer -/
def ownAns : Op → List D → Bool
  | .len, [a] => a.isIns
  | .idx, [a, _] => a.isIns
  | .eq, [a, _] => a.isIns
  | .ne, [a, _] => a.isIns
  | .isin, [_, b] => b.isIns
  | .notin, [_, b] => b.isIns
  | _, _ => false
/-- operands that are handed to an own class are shared from then on -/
def shareAll : List Pv → Env → Env
  | [], env => env
  | .val _ :: ps, env => shareAll ps env
  | .var i :: ps, env => shareAll ps (match env[i]? with
    | some (some (.sh _)) => env
    | some (some w) => env.set i (some (.sh w.frz))
    | _ => env)
/-- all operands, by value -/
def runE : List Ev → Env → R (List D)
  | [], env => .ok [] env
  | E :: Es, env => (E.e env).bind fun d env1 => (runE Es env1).bind fun ds env2 => .ok (d :: ds) env2
def D.seq? : D → Option (List D)
  | .lst l => some l
  | .tup l => some l
  | _ => none
/-- the items of a display, starred ones spliced -/
def runS : List Ev → Env → R (List D)
  | [], env => .ok [] env
  | E :: Es, env => (E.e env).bind fun d env1 =>
      if E.star then
        match d.seq? with
        | some l => (runS Es env1).bind fun ds env2 => .ok (l ++ ds) env2
        | none => .bad
      else (runS Es env1).bind fun ds env2 => .ok (d :: ds) env2

structure Sig where
  ps : List Str
  df : List (Option D)
  mu : List Bool
structure Gam where
  sig : Nat → Option Sig
  meth : Nat → Str → Option Nat
  ini : Nat → Option Nat
  exm : Nat → Nat → Option Bool := fun _ _ => none
  exf : Nat → Option Str := fun _ => none
  gm : Nat → Str → Option Nat := fun _ _ => none
  fuel : Nat
/-- in an except suite nothing of one's own is called -/
def Gam.bare (G : Gam) : Gam := { G with sig := fun _ => none, meth := fun _ _ => none, ini := fun _ => none, gm := fun _ _ => none }
abbrev Call := Nat → List W → Out

/-- where a lent content goes back to -/
inductive Bk where | no | var (i : Nat)
def putW (f : Str) (w : W) : List Str → List W → List Str × List W
  | g :: gs, x :: xs => if g = f then (g :: gs, w :: xs) else let r := putW f w gs xs; (g :: r.1, x :: r.2)
  | _, _ => ([f], [w])
def lendAt (p : Pk) (env : Env) : Option (W × Bk × Env) :=
  match p with
  | .var i => match env[i]? with
    | some (some w) => some (w, .var i, env.set i none)
    | _ => none
  | _ => none
def backAt (env : Env) (o : Option W) : Bk → Env
  | .no => env
  | .var i => env.set i o
def backs : List Bk → Env → Env → Env
  | b :: bs, o :: os, env => backs bs os (backAt env o b)
  | _, _, env => env
/-- arguments from the left -/
def runA : List Bool → List Ev → Env → R (List W × List Bk)
  | _, [], env => .ok ([], []) env
  | mu, E :: Es, env =>
    if mu.headD false then
      match E.pk with
      | .var _ => match lendAt E.pk env with
        | some (w, b, env1) => (runA mu.tail Es env1).bind fun r env2 => .ok (w :: r.1, b :: r.2) env2
        | none => .bad
      | _ => (E.w env).bind fun w env1 => (runA mu.tail Es env1).bind fun r env2 => .ok (w :: r.1, .no :: r.2) env2
    else (E.e env).bind fun d env1 => (runA mu.tail Es env1).bind fun r env2 => .ok (.sh d :: r.1, .no :: r.2) env2
/-- positional values, then keywords' by name, then defaults, in the parameters' order -/
def arr {α : Type} (kws : List (Str × α)) : List Str → List (Option α) → List α → Option (List α)
  | [], _, [] => some []
  | p :: ps, df, w :: ws => (arr kws ps df.tail ws).map (w :: ·)
  | p :: ps, df, [] =>
    match kws.lookup p, df.headD none with
    | some d, _ => (arr kws ps df.tail []).map (d :: ·)
    | none, some d => (arr kws ps df.tail []).map (d :: ·)
    | none, none => none
  | [], _, _ :: _ => none
/-- which names may be keywords: parameters behind the positional ones, each once -/
def kwOk (ps : List Str) (n : Nat) (ks : List Str) : Bool := ks.all (fun k => (ps.drop n).contains k) && decide ks.Nodup
def finish (bs : List Bk) (env : Env) : Out → R W
  | .ok w outs => .ok w (backs bs outs env)
  | .exc x outs => .exc x (backs bs outs env)
  | .bad => .bad
def callEv (G : Gam) (C : Call) (f : Nat) (first : List W) (fb : List Bk) (Es : List Ev) (ks : List Str) (Ks : List Ev) (env : Env) : R W :=
  match G.sig f with
  | none => .bad
  | some s =>
    (runA (s.mu.drop first.length) Es env).bind fun r env1 =>
    (runE Ks env1).bind fun kv env2 =>
      if kwOk s.ps (first.length + Es.length) ks && ks.length == Ks.length then
        match arr (ks.zip (kv.map W.sh)) s.ps (s.df.map fun o => o.map W.sh) (first ++ r.1) with
        | some ws => finish (fb ++ r.2) env2 (C f ws)
        | none => .bad
      else .bad
/-- an operation that an own class answers -/
def dunder : Op → Option (Str × Bool)
  | .eq => some ("__eq__", false)
  | .idx => some ("__getitem__", false)
  | .len => some ("__len__", false)
  | .isin => some ("__contains__", true)
  | _ => none
/-- what an own class may be compared with -/
def eqTy (G : Gam) : D → Bool
  | .non => true | .bl _ => true | .int _ => true | .str _ => true | .lst _ => true | .tup _ => true | .dK _ _ => true
  | .ins c _ _ => (G.meth c "__eq__").isSome
  | _ => false
def evOp (G : Gam) (C : Call) (o : Op) (ds : List D) (env : Env) : R W :=
  match o, ds with
  | .len, [.ins c fs vs] => match G.meth c "__len__" with
    | some f => (finish [] env (C f [.sh (.ins c fs vs)])).bind fun w env' => match w with | .sh (.int i) => if 0 ≤ i ∧ i ≤ lim then .ok w env' else .bad | _ => .bad
    | none => .bad
  | .idx, [.ins c fs vs, i] => match G.meth c "__getitem__" with
    | some f => finish [] env (C f [.sh (.ins c fs vs), .sh i])
    | none => .bad
  | .eq, [.ins c fs vs, b] => match G.meth c "__eq__" with
    | some f => if eqTy G b then (finish [] env (C f [.sh (.ins c fs vs), .sh b])).bind fun w env' => match w with | .sh (.bl k) => .ok w env' | _ => .bad else .bad
    | none => .bad
  | .ne, [.ins c fs vs, b] => match G.meth c "__eq__" with
    | some f => if eqTy G b then (finish [] env (C f [.sh (.ins c fs vs), .sh b])).bind fun w env' => match w with | .sh (.bl k) => .ok (.sh (.bl (!k))) env' | _ => .bad else .bad
    | none => .bad
  | .isin, [x, .ins c fs vs] => match G.meth c "__contains__" with
    | some f => (finish [] env (C f [.sh (.ins c fs vs), .sh x])).bind fun w env' => match w with | .sh (.bl k) => .ok w env' | _ => .bad
    | none => .bad
  | .notin, [x, .ins c fs vs] => match G.meth c "__contains__" with
    | some f => (finish [] env (C f [.sh (.ins c fs vs), .sh x])).bind fun w env' => match w with | .sh (.bl k) => .ok (.sh (.bl (!k))) env' | _ => .bad
    | none => .bad
  | o, ds => match opD o ds with
    | some w => .ok w env
    | none => .bad

inductive CT where | name (i : Nat) | tup (l : List CT)
  deriving Inhabited
mutual
def CT.asg : CT → D → Env → Option Env
  | .name i, d, env => some (env.set i (some (.sh d)))
  | .tup l, .tup ds, env => CT.asgs l ds env
  | .tup _, _, _ => none
def CT.asgs : List CT → List D → Env → Option Env
  | [], [], env => some env
  | t :: ts, d :: ds, env => match t.asg d env with
    | some env' => CT.asgs ts ds env'
    | none => none
  | _, _, _ => none
end
mutual
def CT.names : CT → List Nat
  | .name i => [i]
  | .tup l => CT.namess l
def CT.namess : List CT → List Nat
  | [] => []
  | t :: ts => t.names ++ CT.namess ts
end
inductive IK where | val | range | enum | zip
  deriving DecidableEq
def rangeD (lo hi : Int) : List D := (List.range (hi - lo).toNat).map fun (k : Nat) => D.int (lo + (k : Int))
def D.items : D → Option (List D)
  | .lst l => some l
  | .tup l => some l
  | .kt l => some l
  | .dK ks _ => some (ks.map keyTo)
  | .scr l => some (l.map .int)
  | _ => none
def enumD : Nat → List D → List D
  | _, [] => []
  | n, d :: ds => .tup [.int n, d] :: enumD (n + 1) ds
def zipD : List D → List D → List D
  | a :: as, b :: bs => .tup [a, b] :: zipD as bs
  | _, _ => []
def inLim (i : Int) : Bool := decide (-(2 ^ 62) ≤ i) && decide (i < 2 ^ 62)
/-- the items that a for goes over; a slot that alone holds the list is lent out meanwhile -/
def runI (k : IK) (Es : List Ev) (env : Env) : R (List D × Option (Nat × W)) :=
  match k, Es with
  | .val, [E] => match E.pk with
    | .var i => match env[i]? with
      | some (some (.sh d)) => match d.items with
        | some l => .ok (l, none) env
        | none => .bad
      | some (some w) => match w.peek with
        | some d => match d.items with
          | some l => .ok (l, some (i, w)) (env.set i none)
          | none => .bad
        | none => .bad
      | _ => .bad
    | _ => (E.e env).bind fun d env1 => match d.items with
        | some l => .ok (l, none) env1
        | none => .bad
  | .range, [E] => (E.e env).bind fun d env1 => match d with
      | .int j => if inLim j && decide (j ≤ lim) then .ok (rangeD 0 j, none) env1 else .bad
      | _ => .bad
  | .range, [E, F] => (E.e env).bind fun d env1 => (F.e env1).bind fun e env2 => match d, e with
      | .int i, .int j => if inLim i && inLim j && decide (j - i ≤ lim) then .ok (rangeD i j, none) env2 else .bad
      | _, _ => .bad
  | .enum, [E] => match E.pk with
    | .var i => match env[i]? with
      | some (some (.sh d)) => match d.seq? with
        | some l => .ok (enumD 0 l, none) env
        | none => .bad
      | some (some (.oL l)) => .ok (enumD 0 l, some (i, .oL l)) (env.set i none)
      | _ => .bad
    | _ => (E.e env).bind fun d env1 => match d.seq? with
        | some l => .ok (enumD 0 l, none) env1
        | none => .bad
  | .zip, [E, F] => (E.e env).bind fun d env1 => (F.e env1).bind fun e env2 => match d, e with
      | .lst l, .lst m => .ok (zipD l m, none) env2
      | _, _ => .bad
  | _, _ => .bad
def unlend (env : Env) : Option (Nat × W) → Env
  | none => env
  | some (i, w) => env.set i (some w)
def wipeE (env : Env) : List Nat → Env
  | [] => env
  | v :: vs => (wipeE env vs).set v none
/-- the names of a block, as they were outside -/
def restE (env : Env) (old : Env) : List Nat → Env
  | [] => env
  | v :: vs => (restE env old vs).set v (old[v]?.join)
def runC : List Ev → Env → R Bool
  | [], env => .ok true env
  | E :: Es, env => (E.t env).bind fun k env1 => if k then runC Es env1 else .ok false env1
/-- the items of a comprehension -/
def lcLoop (own : List Nat) (tg : CT) (ifs : List Ev) (E : Ev) : List D → Env → R (List D)
  | [], env => .ok [] env
  | d :: ds, env => match tg.asg d env with
    | none => .bad
    | some env1 => (runC ifs env1).bind fun k env2 =>
      if k then (E.e env2).bind fun x env3 => (lcLoop own tg ifs E ds (wipeE env3 own)).bind fun r env4 => .ok (x :: r) env4
      else lcLoop own tg ifs E ds (wipeE env2 own)
/-- the slots of a block's own names hold nothing of their own -/
def lightE (env : Env) (own : List Nat) : Bool := own.all fun v => match env[v]? with
  | some (some (.sh _)) => true
  | some (some _) => false
  | _ => true
def lentAt : Option (Nat × W) → Nat → Bool
  | some (i, _), j => i == j
  | none, _ => false
def blkE (own : List Nat) (tg : CT) (s : Option (Nat × W)) (env : Env) : Bool := lightE env own && tg.names.all own.contains && !own.any (lentAt s)
def lcEv (own : List Nat) (E : Ev) (tg : CT) (k : IK) (Es ifs : List Ev) (env : Env) : R (List D) :=
  (runI k Es env).bind fun s env1 => if blkE own tg s.2 env1 then
    match lcLoop own tg ifs E s.1 (wipeE env1 own) with
    | .ok l env2 => .ok l (unlend (restE env2 env1 own) s.2)
    | _ => .bad
  else .bad
/-- two clauses -/
def lcLoop2 (own : List Nat) (tg : CT) (ifs : List Ev) (inner : Env → R (List D)) : List D → Env → R (List D)
  | [], env => .ok [] env
  | d :: ds, env => match tg.asg d env with
    | none => .bad
    | some env1 => (runC ifs env1).bind fun k env2 =>
      if k then (inner env2).bind fun x env3 => (lcLoop2 own tg ifs inner ds (wipeE env3 own)).bind fun r env4 => .ok (x ++ r) env4
      else lcLoop2 own tg ifs inner ds (wipeE env2 own)
def lc2Ev (own own1 : List Nat) (E : Ev) (tg : CT) (k : IK) (Es ifs : List Ev) (tg1 : CT) (k1 : IK) (Es1 ifs1 : List Ev) (env : Env) : R (List D) :=
  (runI k Es env).bind fun s env1 => if blkE own tg s.2 env1 then
    match lcLoop2 own tg ifs (fun env => (runI k1 Es1 env).bind fun s1 env2 =>
        (lcLoop own1 tg1 ifs1 E s1.1 env2).bind fun l env3 => if s1.2.isNone && tg1.names.all own1.contains then .ok l env3 else .bad) s.1 (wipeE env1 own) with
    | .ok l env2 => .ok l (unlend (restE env2 env1 own) s.2)
    | _ => .bad
  else .bad
def setAdd (l : List Int) (i : Int) : List Int := if i ∈ l then l else l ++ [i]
/-- the pairs of a dict's comprehension, one by one -/
def dcLoop (own : List Nat) (tg : CT) (ifs : List Ev) (E F : Ev) : List D → List Key × List D → Env → R (List Key × List D)
  | [], acc, env => .ok acc env
  | d :: ds, acc, env => match tg.asg d env with
    | none => .bad
    | some env1 => (runC ifs env1).bind fun k env2 =>
      if k then (E.e env2).bind fun a env3 => (F.e env3).bind fun b env4 => match keyD a with
        | some kk => dcLoop own tg ifs E F ds (putD kk b acc.1 acc.2) (wipeE env4 own)
        | none => .bad
      else dcLoop own tg ifs E F ds acc (wipeE env2 own)
def dcEv (own : List Nat) (E F : Ev) (tg : CT) (k : IK) (Es ifs : List Ev) (env : Env) : R (List Key × List D) :=
  (runI k Es env).bind fun s env1 => if blkE own tg s.2 env1 then
    match dcLoop own tg ifs E F s.1 ([], []) (wipeE env1 own) with
    | .ok l env2 => .ok l (unlend (restE env2 env1 own) s.2)
    | _ => .bad
  else .bad

inductive CE where
  | var (i : Nat)
  | cst (d : D)
  | star (e : CE)
  | tup (es : List CE) | lst (es : List CE)
  | dct (t : Bool) (ks vs : List CE)
  | op (o : Op) (es : List CE)
  | chain (o o' : Op) (a b c : CE)
  | slc (a : CE) (lo hi : List CE)
  | not (a : CE) | and (es : List CE) | or (es : List CE) | ite (c a b : CE)
  | fld (e : CE) (f : Str)
  | call (f : Nat) (es : List CE) (ks : List Str) (kes : List CE)
  | meth (m : Str) (o : CE) (es : List CE) (ks : List Str) (kes : List CE)
  | mk (c : Nat) (es : List CE) (ks : List Str) (kes : List CE)
  | lc (own : List Nat) (e : CE) (tg : CT) (k : IK) (ia : List CE) (ifs : List CE)
  | lc2 (own own1 : List Nat) (e : CE) (tg : CT) (k : IK) (ia : List CE) (ifs : List CE) (tg1 : CT) (k1 : IK) (ia1 : List CE) (ifs1 : List CE)
  | sc (own : List Nat) (e : CE) (tg : CT) (k : IK) (ia : List CE) (ifs : List CE)
  | sc2 (own own1 : List Nat) (e : CE) (tg : CT) (k : IK) (ia : List CE) (ifs : List CE) (tg1 : CT) (k1 : IK) (ia1 : List CE) (ifs1 : List CE)
  | dc (own : List Nat) (e f : CE) (tg : CT) (k : IK) (ia : List CE) (ifs : List CE)
  | xfld (i : Nat) (f : Str)
  | never
  | gen (m : Str) (o : CE)
  | pure (e : CE)
  | callv (i : Nat) (es : List CE) (ks : List Str) (kes : List CE)
  deriving Inhabited

def andV : List Ev → Env → R W
  | [], _ => .bad
  | [E], env => E.w env
  | E :: Es, env => (E.e env).bind fun d env1 => match d with
    | .bl true => andV Es env1
    | .bl false => .ok (.sh (.bl false)) env1
    | _ => .bad
def orV : List Ev → Env → R W
  | [], _ => .bad
  | [E], env => E.w env
  | E :: Es, env => (E.e env).bind fun d env1 => match d with
    | .bl false => orV Es env1
    | .bl true => .ok (.sh (.bl true)) env1
    | _ => .bad
def andT : List Ev → Env → R Bool
  | [], env => .ok true env
  | E :: Es, env => (E.t env).bind fun k env1 => if k then andT Es env1 else .ok false env1
def orT : List Ev → Env → R Bool
  | [], env => .ok false env
  | E :: Es, env => (E.t env).bind fun k env1 => if k then .ok true env1 else orT Es env1
def opEv (G : Gam) (C : Call) (o : Op) (Es : List Ev) (env : Env) : R W :=
  (runP Es env).bind fun ps env1 => match resAll env1 ps with
    | some ds => evOp G C o ds (if ownAns o ds then shareAll ps env1 else env1)
    | none => .bad
def chainEv (o o' : Op) (A B F : Ev) (env : Env) : R W :=
  (A.e env).bind fun a env1 => (B.e env1).bind fun b env2 => match opD o [a, b] with
    | some (.sh (.bl true)) => (F.e env2).bind fun c env3 => match opD o' [b, c] with
      | some (.sh (.bl k)) => .ok (.sh (.bl k)) env3
      | _ => .bad
    | some (.sh (.bl false)) => .ok (.sh (.bl false)) env2
    | _ => .bad
def partEv : List Ev → Env → R (Option Int)
  | [E], env => (E.e env).bind fun d env' => match d.int? with
    | some i => .ok (some i) env'
    | none => .bad
  | _, env => .ok none env
def slcEv (A : Ev) (lo hi : List Ev) (env : Env) : R W :=
  match A.pk with
  | .var i => match env[i]? with
    | some (some _) => (partEv lo env).bind fun l env1 => (partEv hi env1).bind fun h env2 => match (Pv.var i).res env2 with
      | some d => (match slcD d l h with | some w => .ok w env2 | none => .bad)
      | none => .bad
    | _ => .bad
  | _ => (A.e env).bind fun d env0 => (partEv lo env0).bind fun l env1 => (partEv hi env1).bind fun h env2 => match slcD d l h with
      | some w => .ok w env2
      | none => .bad
def fldOf (f : Str) (d : D) (env : Env) : R W :=
  match d with
  | .ins _ fs ds => match lookFD fs ds f with
    | some d => .ok (.sh d) env
    | none => .bad
  | _ => .bad
def fldEv (E : Ev) (f : Str) (env : Env) : R W :=
  match E.pk with
  | .var i => match env[i]? with
    | some (some (.sh (.ins c fs ds))) => match lookFD fs ds f with
      | some d => .ok (.sh d) env
      | none => .bad
    | some (some (.oI c fs ws)) => match lookF fs ws f with
      | some (.sh d) => .ok (.sh d) env
      | some (.oL l) => .ok (.sh (.lst l)) (env.set i (some (.oI c (putW f (.sh (.lst l)) fs ws).1 (putW f (.sh (.lst l)) fs ws).2)))
      | _ => .bad
    | _ => .bad
  | _ => (E.e env).bind (fldOf f)
/-- a caught exception's field -/
def xfldEv (G : Gam) (i : Nat) (f : Str) (env : Env) : R W := match env[i]? with
  | some (some (.xn c f' d)) => if f' = f ∧ G.exf c = some f then .ok (.sh d) env else .bad
  | _ => .bad
def methOf (G : Gam) (C : Call) (m : Str) (Es : List Ev) (ks : List Str) (Ks : List Ev) (d : D) (env : Env) : R W :=
  match d with
  | .ins c fs ds => match G.meth c m with
    | some f => match G.sig f with
      | some s => if s.mu.headD false then .bad else callEv G C f [.sh (.ins c fs ds)] [.no] Es ks Ks env
      | none => .bad
    | none => .bad
  | _ => .bad
/-- a slot that holds an object of its own -/
def ownAt (p : Pk) (env : Env) : Option (Nat × Nat × List Str × List W) :=
  match p with
  | .var i => match env[i]? with
    | some (some (.oI c fs ws)) => some (i, c, fs, ws)
    | _ => none
  | _ => none
def methEv (G : Gam) (C : Call) (m : Str) (O : Ev) (Es : List Ev) (ks : List Str) (Ks : List Ev) (env : Env) : R W :=
  match ownAt O.pk env with
  | some (i, c, fs, ws) => match G.meth c m with
    | some f => match G.sig f with
      | some s => if s.mu.headD false then callEv G C f [.oI c fs ws] [.var i] Es ks Ks (env.set i none) else .bad
      | none => .bad
    | none => .bad
  | none => (O.e env).bind (methOf G C m Es ks Ks)
def mkObj (G : Gam) (C : Call) (c : Nat) (Es : List Ev) (ks : List Str) (Ks : List Ev) (env : Env) : R W :=
  match G.ini c with
  | none => .bad
  | some f => match G.sig f with
    | none => .bad
    | some s =>
      if s.mu.headD false then
        (runA (s.mu.drop 1) Es env).bind fun r env1 =>
        (runE Ks env1).bind fun kv env2 =>
          if kwOk s.ps (1 + Es.length) ks && ks.length == Ks.length then
            match arr (ks.zip (kv.map W.sh)) s.ps (s.df.map fun o => o.map W.sh) (.oI c [] [] :: r.1) with
            | some ws => match C f ws with
              | .ok (.sh .non) (some w :: outs) => .ok w (backs r.2 outs env2)
              | .exc x (_ :: outs) => .exc x (backs r.2 outs env2)
              | _ => .bad
            | none => .bad
          else .bad
      else .bad
def dctEv (t : Bool) (Ks Vs : List Ev) (env : Env) : R W :=
  match Ks, Vs with
  | [], [] => if t then .ok (.oT [] []) env else .ok (.oK [] []) env
  | Ks, Vs => if t then .bad else
    if Ks.length = Vs.length ∧ Ks.length ≤ 15 then
      (go Ks Vs env).bind fun ps env1 => match dcMerge ps ([], []) with
        | some r => .ok (.oK r.1 r.2) env1
        | none => .bad
    else .bad
where
  go : List Ev → List Ev → Env → R (List (D × D))
  | E :: Es, F :: Fs, env => (E.e env).bind fun a env1 => (F.e env1).bind fun b env2 => (go Es Fs env2).bind fun r env3 => .ok ((a, b) :: r) env3
  | _, _, env => .ok [] env
/-- list(o.m()) of a generator method -/
def genOf (G : Gam) (C : Call) (m : Str) (d : D) (env : Env) : R W :=
  match d with
  | .ins c fs ds => match G.gm c m with
    | some f => match C f [.sh (.ins c fs ds)] with
      | .ok (.oL l) _ => .ok (.oL l) env
      | _ => .bad
    | none => .bad
  | _ => .bad
def genEv (G : Gam) (C : Call) (m : Str) (O : Ev) (env : Env) : R W := (O.e env).bind (genOf G C m)
/-- a def that stands in a slot is called -/
def callvEv (G : Gam) (C : Call) (i : Nat) (Es : List Ev) (ks : List Str) (Ks : List Ev) (env : Env) : R W :=
  match env[i]? with
  | some (some (.sh (.fn f))) => callEv G C f [] [] Es ks Ks env
  | _ => .bad
/-- the list that a field of an own object holds -/
def peF : CE → Env → Option (List D)
  | .fld (.var j) f => fun env => match env[j]? with
    | some (some (.oI _ fs ws)) => match lookF fs ws f with
      | some (.oL l) => some l
      | _ => none
    | _ => none
  | _ => fun _ => none
mutual
def puE : CE → Env → Option D
  | .var j => fun env => match env[j]? with
    | some (some (.sh d)) => some d
    | _ => none
  | .cst d => fun _ => some d
  | .fld e f => match e with
    | .var j => fun env => match env[j]? with
      | some (some (.sh (.ins _ fs ds))) => lookFD fs ds f
      | some (some (.oI _ fs ws)) => match lookF fs ws f with
        | some (.sh d) => some d
        | _ => none
      | _ => none
    | _ => fun _ => none
  | .op _ es => match es with
    | [a, .cst (.int k)] => fun env => match peF a env with
      | some l => atD l k
      | none => match puE a env with
        | some (.lst l) => atD l k
        | some (.tup l) => atD l k
        | _ => none
    | _ => fun _ => none
  | .ite c a b => fun env => match puE c env with
    | some (.bl k) => if k then puE a env else puE b env
    | _ => none
  | .tup es => fun env => match puEs es env with
    | some ds => if ds.length ≤ lim then some (.tup ds) else none
    | none => none
  | _ => fun _ => none
def puEs : List CE → Env → Option (List D)
  | [] => fun _ => some []
  | e :: es => fun env => match puE e env, puEs es env with
    | some d, some ds => some (d :: ds)
    | _, _ => none
end
def scFin (r : R (List D)) : R W := r.bind fun l env => match intsD l with
  | some xs => .ok (.sh (.set (xs.foldl setAdd []))) env
  | none => .bad
mutual
def ev (G : Gam) (C : Call) : CE → Ev
  | .var i => { w := moveAt i, t := truthAt i, pk := .var i }
  | .cst d => { w := fun env => .ok (.sh d) env, t := fun env => tOf (.ok (.sh d) env), lit := true }
  | .star e => { ev G C e with star := true }
  | .tup es => mkEv fun env => (runS (evs G C es) env).bind fun ds env' => if ds.length ≤ lim then .ok (.sh (.tup ds)) env' else .bad
  | .lst es => mkEv fun env => (runS (evs G C es) env).bind fun ds env' => if ds.length ≤ lim then .ok (.oL ds) env' else .bad
  | .dct t ks vs => mkEv (dctEv t (evs G C ks) (evs G C vs))
  | .op o es => mkEv (opEv G C o (evs G C es))
  | .slc a lo hi => mkEv (slcEv (ev G C a) (evs G C lo) (evs G C hi))
  | .chain o o' a b c => mkEv (chainEv o o' (ev G C a) (ev G C b) (ev G C c))
  | .not a => { w := fun env => ((ev G C a).tv env).bind fun k env' => .ok (.sh (.bl (!k))) env', t := fun env => ((ev G C a).t env).bind fun k env' => .ok (!k) env' }
  | .and es => { w := andV (evs G C es), t := andT (evs G C es) }
  | .or es => { w := orV (evs G C es), t := orT (evs G C es) }
  | .ite c a b => { w := fun env => ((ev G C c).t env).bind fun k env' => if k then (ev G C a).w env' else (ev G C b).w env',
                    t := fun env => ((ev G C c).t env).bind fun k env' => if k then (ev G C a).t env' else (ev G C b).t env' }
  | .fld e f => { mkEv (fldEv (ev G C e) f) with pk := match (ev G C e).pk with | .var i => .fld i f | _ => .no }
  | .call f es ks kes => mkEv (callEv G C f [] [] (evs G C es) ks (evs G C kes))
  | .meth m o es ks kes => mkEv (methEv G C m (ev G C o) (evs G C es) ks (evs G C kes))
  | .mk c es ks kes => mkEv (mkObj G C c (evs G C es) ks (evs G C kes))
  | .lc own e tg k ia ifs => mkEv fun env => (lcEv own (ev G C e) tg k (evs G C ia) (evs G C ifs) env).bind fun l env' => .ok (.oL l) env'
  | .lc2 own own1 e tg k ia ifs tg1 k1 ia1 ifs1 => mkEv fun env => (lc2Ev own own1 (ev G C e) tg k (evs G C ia) (evs G C ifs) tg1 k1 (evs G C ia1) (evs G C ifs1) env).bind fun l env' => if l.length ≤ lim then .ok (.oL l) env' else .bad
  | .sc own e tg k ia ifs => mkEv fun env => scFin (lcEv own (ev G C e) tg k (evs G C ia) (evs G C ifs) env)
  | .sc2 own own1 e tg k ia ifs tg1 k1 ia1 ifs1 => mkEv fun env => scFin (lc2Ev own own1 (ev G C e) tg k (evs G C ia) (evs G C ifs) tg1 k1 (evs G C ia1) (evs G C ifs1) env)
  | .dc own e f tg k ia ifs => mkEv fun env => (dcEv own (ev G C e) (ev G C f) tg k (evs G C ia) (evs G C ifs) env).bind fun r env' => .ok (.oK r.1 r.2) env'
  | .xfld i f => mkEv (xfldEv G i f)
  | .never => { w := fun _ => .bad, t := fun _ => .bad }
  | .gen m o => mkEv (genEv G C m (ev G C o))
  | .pure e => mkEv fun env => match puE e env with
    | some d => .ok (.sh d) env
    | none => .bad
  | .callv i es ks kes => mkEv (callvEv G C i (evs G C es) ks (evs G C kes))
def evs (G : Gam) (C : Call) : List CE → List Ev
  | [] => []
  | c :: cs => ev G C c :: evs G C cs
end

inductive Fl where
  | nx (env : Env) | rt (w : W) (env : Env) | bk (env : Env) | ct (env : Env) | exc (x : D) (env : Env) | bad
mutual
inductive CS where
  | expr (e : CE)
  | asg (own : Bool) (i : Nat) (e : CE)
  | asgT (t : CT) (e : CE)
  | par (l : List (Bool × Nat)) (es : List CE)
  | setf (own : Bool) (i c : Nat) (f : Str) (e : CE)
  | seti (i : Nat) (k e : CE)
  | aug (i : Nat) (o : Op) (e : CE)
  | augf (i : Nat) (f : Str) (o : Op) (e : CE)
  | app (i : Nat) (f : Option Str) (e : CE)
  | ext (i : Nat) (f : Option Str) (e : CE)
  | upd (i : Nat) (e : CE)
  | iff (c : CE) (a b : List CS)
  | whl (c : CE) (a : List CS)
  | forr (tg : CT) (k : IK) (ia : List CE) (a : List CS)
  | ret (e : CE) | retN
  | rais (c : Nat) (f : Str) (e : CE)
  | pass | brk | cnt | never
  | tryy (a : List CS) (hs : CH)
/-- except clauses: the class, the name's slot, the suite -/
inductive CH where
  | nil
  | cons (c : Nat) (i : Option Nat) (a : List CS) (r : CH)
end
instance : Inhabited CS := ⟨.pass⟩
abbrev ES := Env → Fl
def R.fl {α : Type} (r : R α) (f : α → Env → Fl) : Fl := match r with
  | .ok a env => f a env
  | .exc x env => .exc x env
  | .bad => .bad
def asgEv (own : Bool) (i : Nat) (E : Ev) (pr : Nat → Bool) (env : Env) : Fl :=
  if pr i || decide (env.length ≤ i) then .bad
  else if own then (E.w env).fl fun w env' => .nx (env'.set i (some w))
  else (E.e env).fl fun d env' => .nx (env'.set i (some (.sh d)))
def forLoop (tg : CT) (body : ES) : List D → Env → Fl
  | [], env => .nx env
  | d :: ds, env => match tg.asg d env with
    | none => .bad
    | some env1 => match body env1 with
      | .nx env2 => forLoop tg body ds env2
      | .ct env2 => forLoop tg body ds env2
      | .bk env2 => .nx env2
      | r => r
def Fl.un (o : Option (Nat × W)) : Fl → Fl
  | .nx env => .nx (unlend env o)
  | .rt w env => .rt w (unlend env o)
  | .exc x env => .exc x (unlend env o)
  | _ => .bad
def whlLoop (test : Env → R Bool) (body : ES) : Nat → Env → Fl
  | 0, _ => .bad
  | n + 1, env => (test env).fl fun k env1 => if k then
      match body env1 with
      | .nx env2 => whlLoop test body n env2
      | .ct env2 => whlLoop test body n env2
      | .bk env2 => .nx env2
      | r => r
    else .nx env1
def inField (f : Option Str) (h : W → Option W) (w : W) : Option W :=
  match f with
  | none => h w
  | some f => match w with
    | .oI c fs ws => match lookF fs ws f with
      | some x => (h x).map fun y => .oI c (putW f y fs ws).1 (putW f y fs ws).2
      | none => none
    | _ => none
def chgAt (i : Nat) (f : Option Str) (h : W → Option W) (env : Env) : Fl :=
  match env[i]? with
  | some (some w) => match inField f h w with
    | some w' => .nx (env.set i (some w'))
    | none => .bad
  | _ => .bad
def isOL : W → Bool
  | .oL _ => true
  | _ => false
def preAt (i : Nat) (f : Option Str) (p : W → Bool) (env : Env) : Bool :=
  match env[i]? with
  | some (some w) => match f with
    | none => p w
    | some f => match w with
      | .oI _ fs ws => match lookF fs ws f with
        | some x => p x
        | none => false
      | _ => false
  | _ => false
def appW (d : D) : W → Option W
  | .oL l => if l.length < lim then some (.oL (l ++ [d])) else none
  | _ => none
def extW (d : D) : W → Option W
  | .oL l => match d with
    | .lst m => if l.length + m.length ≤ lim then some (.oL (l ++ m)) else none
    | _ => none
  | _ => none
def updW (d : D) : W → Option W
  | .oK ks vs => match d with
    | .dK js us => if ks.length + js.length ≤ lim then (let r := (js.zip us).foldl (fun acc p => putD p.1 p.2 acc.1 acc.2) (ks, vs); some (.oK r.1 r.2)) else none
    | _ => none
  | _ => none
def putI (k d : D) : W → Option W
  | .oL l => match k with
    | .int i => if 0 ≤ i ∧ i < l.length then some (.oL (l.set i.toNat d)) else none
    | _ => none
  | .oK ks vs => match keyD k with
    | some k => if ks.length < lim then some (.oK (putD k d ks vs).1 (putD k d ks vs).2) else none
    | none => none
  | .oT ks vs => match k with
    | .tup l => match keysD l with
      | some k => if ks.length < lim then some (.oT (putD k d ks vs).1 (putD k d ks vs).2) else none
      | none => none
    | _ => none
  | _ => none
def setfEv (own : Bool) (i c : Nat) (f : Str) (E : Ev) (env : Env) : Fl :=
  (if own then E.w env else (E.e env).bind fun d env' => .ok (.sh d) env').fl fun w env' =>
    match env'[i]? with
    | some (some (.oI c' fs ws)) => if c' = c ∧ fs.length < 1000 then .nx (env'.set i (some (.oI c (putW f w fs ws).1 (putW f w fs ws).2))) else .bad
    | _ => .bad
def augD (o : Op) (a b : D) : Option D := match o with
  | .add => match a, b with | .int i, .int j => some (.int (i + j)) | _, _ => none
  | .sub => match a, b with | .int i, .int j => some (.int (i - j)) | _, _ => none
  | _ => none
def augEv (i : Nat) (o : Op) (E : Ev) (pr : Nat → Bool) (env : Env) : Fl :=
  if pr i then .bad else
  match env[i]? with
  | some (some (.sh a)) => (E.e env).fl fun b env' => match augD o a b with
    | some d => .nx (env'.set i (some (.sh d)))
    | none => .bad
  | _ => .bad
def augfEv (i : Nat) (f : Str) (o : Op) (E : Ev) (env : Env) : Fl :=
  match env[i]? with
  | some (some (.oI c fs ws)) => match lookF fs ws f with
    | some (.sh a) => (E.e env).fl fun b env' => match augD o a b with
      | some d => match env'[i]? with
        | some (some (.oI c' fs' ws')) => if c' = c ∧ fs'.length < 1000 then .nx (env'.set i (some (.oI c (putW f (.sh d) fs' ws').1 (putW f (.sh d) fs' ws').2))) else .bad
        | _ => .bad
      | none => .bad
    | _ => .bad
  | _ => .bad
/-- several names, one value each, all values first -/
def setAll : List Nat → List W → Env → Env
  | i :: is, w :: ws, env => setAll is ws (env.set i (some w))
  | _, _, env => env
def parEv (pr : Nat → Bool) (l : List (Bool × Nat)) (Es : List Ev) (env : Env) : Fl :=
  if l.any (fun p => pr p.2 || decide (env.length ≤ p.2)) || !decide ((l.map (·.2)).Nodup) || !decide (l.length = Es.length) then .bad else
  (runA (l.map (·.1)) Es env).fl fun r env1 => .nx (setAll (l.map (·.2)) r.1 env1)
mutual
def W.noXn : W → Bool
  | .xn _ _ _ => false
  | .oI _ _ ws => W.noXns ws
  | _ => true
def W.noXns : List W → Bool
  | [] => true
  | w :: ws => w.noXn && W.noXns ws
end
def noXnE : Env → Bool
  | [] => true
  | some w :: env => w.noXn && noXnE env
  | none :: env => noXnE env
/-- behind an except suite: the exception's name is gone -/
def outX (i : Option Nat) : Fl → Fl
  | .nx env => let env' := match i with | some i => env.set i none | none => env
    if noXnE env' then .nx env' else .bad
  | .rt w env => let env' := match i with | some i => env.set i none | none => env
    if w.noXn && noXnE env' then .rt w env' else .bad
  | _ => .bad
mutual
def ex (G : Gam) (C : Call) (pr : Nat → Bool) : CS → ES
  | .expr e => fun env => ((ev G C e).w env).fl fun _ env' => .nx env'
  | .asg own i e => asgEv own i (ev G C e) pr
  | .asgT t e => fun env => if t.names.any pr then .bad else ((ev G C e).e env).fl fun d env' => match t.asg d env' with | some env2 => .nx env2 | none => .bad
  | .par l es => parEv pr l (evs G C es)
  | .setf own i c f e => setfEv own i c f (ev G C e)
  | .seti i k e => fun env => ((ev G C e).e env).fl fun d env1 => if preAt i none (fun _ => true) env1 then ((ev G C k).e env1).fl fun kd env2 => chgAt i none (putI kd d) env2 else .bad
  | .aug i o e => augEv i o (ev G C e) pr
  | .augf i f o e => augfEv i f o (ev G C e)
  | .app i f e => match f with
    | none => fun env => if preAt i none isOL env then ((ev G C e).e env).fl fun d env1 => chgAt i none (appW d) env1 else .bad
    | some f => fun env => match puE e env with
      | some d => chgAt i (some f) (appW d) env
      | none => .bad
  | .ext i f e => fun env => if preAt i f isOL env then ((ev G C e).e env).fl fun d env1 => chgAt i f (extW d) env1 else .bad
  | .upd i e => fun env => ((ev G C e).e env).fl fun d env1 => chgAt i none (updW d) env1
  | .iff c a b => fun env => ((ev G C c).t env).fl fun k env' => if k then exs G C pr a env' else exs G C pr b env'
  | .whl c a => fun env => whlLoop (ev G C c).t (exs G C pr a) G.fuel env
  | .forr tg k ia a => fun env => (runI k (evs G C ia) env).fl fun s env1 => if tg.names.any fun j => pr j || lentAt s.2 j then .bad else (forLoop tg (exs G C (fun j => pr j || lentAt s.2 j) a) s.1 env1).un s.2
  | .ret e => fun env => ((ev G C e).w env).fl fun w env' => .rt w env'
  | .retN => fun env => .rt (.sh .non) env
  | .rais c f e => fun env => ((ev G C e).e env).fl fun d env' => .exc (.ins c [f] [d]) env'
  | .pass => fun env => .nx env
  | .brk => fun env => .bk env
  | .cnt => fun env => .ct env
  | .never => fun _ => .bad
  | .tryy a hs => fun env => match exs G C pr a env with
    | .exc (.ins c fs ds) env' => exh G C pr c fs ds hs env'
    | .exc _ _ => .bad
    | r => r
def exs (G : Gam) (C : Call) (pr : Nat → Bool) : List CS → ES
  | [] => fun env => .nx env
  | s :: ss => fun env => match ex G C pr s env with
    | .nx env' => exs G C pr ss env'
    | r => r
/-- the except clauses -/
def exh (G : Gam) (C : Call) (pr : Nat → Bool) (c : Nat) (fs : List Str) (ds : List D) : CH → ES
  | .nil => fun env => .exc (.ins c fs ds) env
  | .cons k i a hs => fun env => match G.exm c k with
    | some true => (match i with
      | some i => match fs, ds with
        | [f], [d] => if pr i || decide (env.length ≤ i) then .bad else outX (some i) (exs G.bare C pr a (env.set i (some (.xn c f d))))
        | _, _ => .bad
      | none => outX none (exs G.bare C pr a env))
    | some false => exh G C pr c fs ds hs env
    | none => .bad
end

inductive GS where
  | pl (s : CS) | yld (e : CE) | forr (tg : CT) (e : CE) (a : List GS)
def gLoop (tg : CT) (body : Env → List D → Option (Env × List D)) : List D → Env → List D → Option (Env × List D)
  | [], env, l => some (env, l)
  | d :: ds, env, l => match tg.asg d env with
    | none => none
    | some env1 => match body env1 l with
      | some r => gLoop tg body ds r.1 r.2
      | none => none
mutual
def exG (G : Gam) (C : Call) : GS → Env → List D → Option (Env × List D)
  | .pl s => fun env l => match ex G C (fun _ => false) s env with
    | .nx env' => some (env', l)
    | _ => none
  | .yld e => fun env l => match (ev G C e).e env with
    | .ok d env' => if l.length < lim then some (env', l ++ [d]) else none
    | _ => none
  | .forr tg e a => fun env l => match (ev G C e).e env with
    | .ok d env1 => match d.seq? with
      | some ds => gLoop tg (exGs G C a) ds env1 l
      | none => none
    | _ => none
def exGs (G : Gam) (C : Call) : List GS → Env → List D → Option (Env × List D)
  | [] => fun env l => some (env, l)
  | s :: ss => fun env l => match exG G C s env l with
    | some r => exGs G C ss r.1 r.2
    | none => none
end

structure FI where
  sig : Sig
  ns : Nat
  body : List CS
structure GI where
  sig : Sig
  ns : Nat
  body : List GS
structure Prg where
  fn : Nat → Option FI
  meth : Nat → Str → Option Nat
  ini : Nat → Option Nat
  exm : Nat → Nat → Option Bool := fun _ _ => none
  exf : Nat → Option Str := fun _ => none
  gn : Nat → Option GI := fun _ => none
  gm : Nat → Str → Option Nat := fun _ _ => none
  fuel : Nat
def Prg.gam (P : Prg) : Gam := ⟨fun i => (P.fn i).map (·.sig), P.meth, P.ini, P.exm, P.exf, P.gm, P.fuel⟩
def runG (P : Prg) (C : Call) (gi : GI) (ws : List W) : Out :=
  if ws.length = gi.sig.ps.length ∧ ws.length ≤ gi.ns then
    match exGs P.gam C gi.body (ws.map some ++ List.replicate (gi.ns - ws.length) none) [] with
    | some r => .ok (.oL r.2) []
    | none => .bad
  else .bad
def outsOf (mu : List Bool) (n : Nat) (env : Env) : Env :=
  match n with
  | 0 => []
  | n + 1 => match env with
    | [] => none :: outsOf mu.tail n []
    | w :: env => (if mu.headD false then w else none) :: outsOf mu.tail n env
def prOf (mu : List Bool) (i : Nat) : Bool := mu.getD i false
def callF (P : Prg) : Nat → Nat → List W → Out
  | 0, _, _ => .bad
  | n + 1, f, ws => match P.fn f with
    | none => match P.gn f with
      | none => .bad
      | some gi => runG P (callF P n) gi ws
    | some fi =>
      if ws.length = fi.sig.ps.length ∧ ws.length ≤ fi.ns then
        match exs P.gam (callF P n) (prOf fi.sig.mu) fi.body (ws.map some ++ List.replicate (fi.ns - ws.length) none) with
        | .nx env => .ok (.sh .non) (outsOf fi.sig.mu ws.length env)
        | .rt w env => .ok w (outsOf fi.sig.mu ws.length env)
        | .exc x env => .exc x (outsOf fi.sig.mu ws.length env)
        | _ => .bad
      else .bad
end Rf

namespace Rf
open PySem L2

section
variable {K : PySem.W.Frag} {g : G} {S H S1 H1 S2 H2 S' H' : Hp} {ft ft1 ft2 ft' : Ft} {env env' : Env} {σ σ' : St}

theorem getElem?_snoc {α : Type} {l : List α} {x : α} {i : Nat} : (l ++ [x])[i]? = if i < l.length then l[i]? else if i = l.length then some x else none := by
  by_cases h : i < l.length
  · rw [if_pos h, List.getElem?_append_left h]
  · rw [if_neg h]
    by_cases q : i = l.length
    · subst q; simp
    · rw [if_neg q, List.getElem?_eq_none (by simp; omega)]

theorem Rel.lt (R : Rel K g env S σ H ft) {i : Nat} {a : Addr} (h : a ∈ ft i) : i < env.length := by
  refine Classical.byContradiction fun q => ?_
  have := R.off i (fun w z => q (List.getElem?_eq_some_iff.mp z).1)
  rw [this] at h; cases h
/-- the last slot goes -/
theorem Rel.drop {o : Option W} {v : Option V} (R : Rel K g (env ++ [o]) S (σ ++ [v]) H ft) : Rel K g env S σ H (ft.off env.length) := by
  have hl : env.length = σ.length := by have := R.len; simpa using this
  refine ⟨R.sub, hl, fun i w e => ?_, fun i h => ?_, fun j => ?_, fun j k a n h1 h2 => R.dj j k a n (Ft.off_sub h1) (Ft.off_sub h2), fun j a h => R.out j a (Ft.off_sub h)⟩
  · have hi : i < env.length := (List.getElem?_eq_some_iff.mp e).1
    obtain ⟨u, e1, r⟩ := R.slot i w (by rw [List.getElem?_append_left hi]; exact e)
    refine ⟨u, by rwa [List.getElem?_append_left (by omega)] at e1, ?_⟩
    unfold Ft.off
    rw [if_neg (by omega)]; exact r
  · unfold Ft.off
    split
    · rfl
    · rename_i q
      refine R.off i fun w e => ?_
      rw [getElem?_snoc] at e
      split at e
      · exact h w e
      · first
        | cases e
        | (rw [if_neg q] at e; cases e)
  · unfold Ft.off
    split
    · exact List.nodup_nil
    · exact R.nd j
/-- a content behind the last slot -/
theorem Rel.push (R : Rel K g env S σ H ft) {w : W} {v : V} {l : List Addr} (r : RW K g S H w v l) (nd : l.Nodup) (dj : ∀ j a, a ∈ l → a ∉ ft j) (out : ∀ a ∈ l, S a = none) :
    Rel K g (env ++ [some w]) S (σ ++ [some v]) H (ft.put env.length l) := by
  have hl := R.len
  refine ⟨R.sub, by simp [hl], fun i x e => ?_, fun j h => ?_, fun j => ?_, fun j k a n h1 h2 => ?_, fun j a h => ?_⟩
  · rw [getElem?_snoc] at e
    by_cases hi : i < env.length
    · rw [if_pos hi] at e
      obtain ⟨u, e1, r1⟩ := R.slot i x e
      refine ⟨u, by rw [List.getElem?_append_left (by omega)]; exact e1, ?_⟩
      rw [Ft.put_ne (by omega)]; exact r1
    · rw [if_neg hi] at e
      by_cases q : i = env.length
      · rw [if_pos q] at e
        cases e
        subst q
        refine ⟨v, by rw [hl]; simp, ?_⟩
        rw [Ft.put_self]; exact r
      · rw [if_neg q] at e; cases e
  · by_cases q : j = env.length
    · subst q
      exact absurd (by simp) (h w)
    · rw [Ft.put_ne q]
      refine R.off j fun x e => h x ?_
      have hi : j < env.length := (List.getElem?_eq_some_iff.mp e).1
      rw [List.getElem?_append_left hi]; exact e
  · by_cases q : j = env.length
    · subst q; rw [Ft.put_self]; exact nd
    · rw [Ft.put_ne q]; exact R.nd j
  · by_cases q : j = env.length
    · subst q
      rw [Ft.put_self] at h1
      rw [Ft.put_ne (Ne.symm n)] at h2
      exact dj k a h1 h2
    · rw [Ft.put_ne q] at h1
      by_cases q2 : k = env.length
      · subst q2
        rw [Ft.put_self] at h2
        exact dj j a h2 h1
      · rw [Ft.put_ne q2] at h2
        exact R.dj j k a n h1 h2
  · by_cases q : j = env.length
    · subst q
      rw [Ft.put_self] at h; exact out a h
    · rw [Ft.put_ne q] at h; exact R.out j a h
theorem Rel.last {w : W} {v : Option V} (R : Rel K g (env ++ [some w]) S (σ ++ [v]) H ft) : ∃ u, v = some u ∧ RW K g S H w u (ft env.length) := by
  have hl : env.length = σ.length := by have := R.len; simpa using this
  obtain ⟨u, e, r⟩ := R.slot env.length w (by simp)
  rw [hl] at e
  simp at e
  exact ⟨u, e, r⟩
/-- the last slot's content goes to another one -/
theorem Rel.settle {w : W} {v : V} {i : Nat} (R : Rel K g (env ++ [some w]) S (σ ++ [some v]) H ft) (hi : i < env.length) :
    Rel K g (env.set i (some w)) S (σ.set i (some v)) H ((ft.off env.length).put i (ft env.length)) := by
  obtain ⟨u, e, r⟩ := R.last
  cases e
  refine R.drop.store hi r (R.nd _) (fun j a hj ha hb => ?_) fun a ha => R.out _ a ha
  unfold Ft.off at hb
  split at hb
  · cases hb
  · rename_i q
    exact R.dj env.length j a (Ne.symm q) ha hb
theorem settle_sub {i n : Nat} {a : Addr} (h : ((ft.off n).put i (ft n)).own a) : ft.own a := by
  obtain ⟨j, h⟩ := h
  by_cases q : j = i
  · subst q; rw [Ft.put_self] at h; exact ⟨_, h⟩
  · rw [Ft.put_ne q] at h; exact ⟨_, Ft.off_sub h⟩
/-- a slot's content becomes shared -/
theorem Rel.share (R : Rel K g env S σ H ft) {i : Nat} {w : W} (h : env[i]? = some (some w)) :
    Rel K g (env.set i (some (.sh w.frz))) (addS S H (ft i)) σ H (ft.off i) ∧ ∃ v, σ[i]? = some (some v) ∧ RD K g (addS S H (ft i)) w.frz v := by
  obtain ⟨v, e, r⟩ := R.slot i w h
  have hd := RW.frz R.sub w v (ft i) (fun a ha => ha) r
  have hi : i < env.length := (List.getElem?_eq_some_iff.mp h).1
  refine ⟨?_, v, e, hd⟩
  have L := R.lend i
  have sm := addS_same (ft := ft i) R.sub
  refine ⟨addS_sub R.sub, by rw [List.length_set]; exact R.len, fun j x ej => ?_, fun j hj => ?_, L.nd, L.dj, fun j a ha => ?_⟩
  · by_cases q : i = j
    · subst q
      rw [List.getElem?_set_self hi] at ej
      cases ej
      refine ⟨v, e, ?_⟩
      unfold Ft.off
      rw [if_pos rfl]
      exact ⟨rfl, hd⟩
    · rw [List.getElem?_set_ne q] at ej
      obtain ⟨u, e1, r1⟩ := R.slot j x ej
      refine ⟨u, e1, ?_⟩
      unfold Ft.off
      rw [if_neg (Ne.symm q)]
      exact RW.move sm x u _ (fun _ _ => rfl) r1
  · by_cases q : i = j
    · subst q; unfold Ft.off; rw [if_pos rfl]
    · unfold Ft.off
      rw [if_neg (Ne.symm q)]
      exact R.off j fun x ex => hj x (by rw [List.getElem?_set_ne q]; exact ex)
  · have ha' := Ft.off_sub ha
    have nm : a ∉ ft i := fun z => by
      unfold Ft.off at ha
      split at ha
      · cases ha
      · rename_i q
        exact R.dj j i a q ha z
    rw [addS_out nm]; exact R.out j a ha'
theorem off_own {i : Nat} {a : Addr} (h : (ft.off i).own a) : ft.own a := let ⟨j, h⟩ := h; ⟨j, Ft.off_sub h⟩
theorem Step.share (R : Rel K g env S σ H ft) {i : Nat} : Step S H ft.own (addS S H (ft i)) H (ft.off i).own :=
  ⟨addS_same R.sub, fun _ _ h _ => h, fun a h => .inl (off_own h), fun a o h => by
    unfold addS at h
    split at h
    · exact .inr (.inr ⟨i, by assumption⟩)
    · exact .inl h, fun _ o h => ⟨o, h⟩⟩
/-- .. of the last slot -/
theorem Rel.shareLast {w : W} {v : V} (R : Rel K g (env ++ [some w]) S (σ ++ [some v]) H ft) :
    Rel K g env (addS S H (ft env.length)) σ H (ft.off env.length) ∧ RD K g (addS S H (ft env.length)) w.frz v := by
  obtain ⟨R1, u, e, r⟩ := R.share (i := env.length) (w := w) (by simp)
  have hl : env.length = σ.length := by have := R.len; simpa using this
  rw [hl] at e
  simp at e
  subst e
  rw [List.set_append_right _ _ (Nat.le_refl _)] at R1
  simp at R1
  have R2 := R1.drop
  have : (ft.off env.length).off env.length = ft.off env.length := by
    funext j
    unfold Ft.off
    split <;> rfl
  rw [this] at R2
  exact ⟨R2, r⟩

/-- the heap grows, nothing that stood changes -/
theorem Rel.grow (R : Rel K g env S σ H ft) (sm : Sm S S') (hh : Same H H') (sub : ∀ a o, S' a = some o → H' a = some o) (gr : ∀ a o, S' a = some o → S a = some o ∨ H a = none) : Rel K g env S' σ H' ft := by
  refine ⟨sub, R.len, fun i w e => ?_, R.off, R.nd, R.dj, fun i a h => ?_⟩
  · obtain ⟨v, e1, r⟩ := R.slot i w e
    refine ⟨v, e1, RW.move sm w v _ (fun a ha => ?_) r⟩
    obtain ⟨o, q⟩ := R.hasAt ha
    rw [q, hh a o q]
  · cases q : S' a with
    | none => rfl
    | some o =>
      rcases gr a o q with z | z
      · rw [R.out i a h] at z; cases z
      · obtain ⟨u, e⟩ := R.hasAt h
        rw [e] at z; cases z
theorem Step.grow' {O : Addr → Prop} (sm : Sm S S') (hh : Same H H') (gr : ∀ a o, S' a = some o → S a = some o ∨ H a = none) : Step S H O S' H' O :=
  ⟨sm, fun a o h _ => hh a o h, fun a h => .inl h, fun a o h => (gr a o h).elim .inl fun z => .inr (.inl z), fun a o h => ⟨o, hh a o h⟩⟩

/-- a content that stands aside while something else runs -/
theorem aside {O O' : Addr → Prop} {w : W} {v : V} {l : List Addr} (r : RW K g S H w v l) (dj : ∀ a ∈ l, ¬ O a) (out : ∀ a ∈ l, S a = none) (x : Step S H O S' H' O') :
    RW K g S' H' w v l ∧ (∀ a ∈ l, ¬ O' a) ∧ ∀ a ∈ l, S' a = none := by
  have there := RW.there w v l r
  refine ⟨RW.move x.same w v l (fun a ha => ?_) r, fun a ha hb => ?_, fun a ha => ?_⟩
  · obtain ⟨o, e⟩ := there a ha
    rw [e, x.keep a o e (dj a ha)]
  · obtain ⟨o, e⟩ := there a ha
    rcases x.own a hb with z | z
    · exact dj a ha z
    · rw [e] at z; cases z
  · obtain ⟨o, e⟩ := there a ha
    cases q : S' a with
    | none => rfl
    | some u =>
      rcases x.grow a u q with z | z | z
      · rw [out a ha] at z; cases z
      · rw [e] at z; cases z
      · exact absurd z (dj a ha)
/-- slots that stand aside -/
theorem Rel.aside {O O' : Addr → Prop} (R : Rel K g env S σ H ft) (dj : ∀ a, ft.own a → ¬ O a) (x : Step S H O S' H' O') (sub : ∀ a o, S' a = some o → H' a = some o) :
    Rel K g env S' σ H' ft ∧ ∀ a, ft.own a → ¬ O' a := by
  refine ⟨⟨sub, R.len, fun i w e => ?_, R.off, R.nd, R.dj, fun i a h => ?_⟩, fun a ⟨i, h⟩ hb => ?_⟩
  · obtain ⟨v, e1, r⟩ := R.slot i w e
    exact ⟨v, e1, (Rf.aside r (fun a ha => dj a ⟨i, ha⟩) (fun a ha => R.out i a ha) x).1⟩
  · obtain ⟨o, e⟩ := R.hasAt h
    cases q : S' a with
    | none => rfl
    | some u =>
      rcases x.grow a u q with z | z | z
      · rw [R.out i a h] at z; cases z
      · rw [e] at z; cases z
      · exact absurd z (dj a ⟨i, h⟩)
  · obtain ⟨o, e⟩ := R.hasAt h
    rcases x.own a hb with z | z
    · exact dj a ⟨i, h⟩ z
    · rw [e] at z; cases z

/-- v is d as it stands now; the trees right below stand in S -/
def PD (K : PySem.W.Frag) (g : G) (S H : Hp) : D → V → Prop
  | .lst l, v => ∃ a vs, v = .ref a ∧ H a = some (.lst vs) ∧ RDs K g S l vs
  | .dK ks ds, v => ∃ a kvs, v = .ref a ∧ Rd H a (.dK kvs) ∧ kvs.map (·.1) = ks ∧ RDs K g S ds (kvs.map (·.2))
  | .dT ks ds, v => ∃ a kvs, v = .ref a ∧ Rd H a (.dT kvs) ∧ kvs.map (·.1) = ks ∧ RDs K g S ds (kvs.map (·.2))
  | d, v => RD K g S d v
theorem PD.of (sub : ∀ a o, S a = some o → H a = some o) : ∀ {d : D} {v : V}, RD K g S d v → PD K g S H d v := fun {d v} h => by
  have sm : Sm S H := Sm.of sub
  cases d with
  | lst l =>
    obtain ⟨a, vs, e, h1, h2⟩ := h
    exact ⟨a, vs, e, sm.ls _ _ h1, h2⟩
  | dK ks ds =>
    obtain ⟨a, vs, e, h1, h2⟩ := h
    exact ⟨a, vs, e, sm.rd _ _ rfl h1, h2⟩
  | dT ks ds =>
    obtain ⟨a, vs, e, h1, h2⟩ := h
    exact ⟨a, vs, e, sm.rd _ _ rfl h1, h2⟩
  | _ => exact h
/-- as a tree of the whole heap -/
theorem PD.full (sub : ∀ a o, S a = some o → H a = some o) : ∀ {d : D} {v : V}, PD K g S H d v → RD K g H d v := fun {d v} h => by
  have sm : Sm S H := Sm.of sub
  cases d with
  | lst l =>
    obtain ⟨a, vs, e, h1, h2⟩ := h
    exact ⟨a, vs, e, h1, RDs.mono sm _ _ h2⟩
  | dK ks ds =>
    obtain ⟨a, vs, e, h1, h2, h3⟩ := h
    exact ⟨a, vs, e, h1, h2, RDs.mono sm _ _ h3⟩
  | dT ks ds =>
    obtain ⟨a, vs, e, h1, h2, h3⟩ := h
    exact ⟨a, vs, e, h1, h2, RDs.mono sm _ _ h3⟩
  | _ => exact RD.mono sm _ _ h
theorem RW.peek (sub : ∀ a o, S a = some o → H a = some o) {w : W} {v : V} {l : List Addr} {d : D} (r : RW K g S H w v l) (h : w.peek = some d) : PD K g S H d v := by
  cases w with
  | sh e =>
    have : e = d := by simpa [W.peek] using h
    subst this
    exact PD.of sub r.2
  | oL l =>
    have : D.lst l = d := by simpa [W.peek] using h
    subst this
    obtain ⟨a, vs, e1, e2, h1, h2⟩ := r
    exact ⟨a, vs, e1, h1, h2⟩
  | oK ks ds =>
    have : D.dK ks ds = d := by simpa [W.peek] using h
    subst this
    obtain ⟨a, vs, e1, e2, h1, h2, h3⟩ := r
    exact ⟨a, vs, e1, .inl h1, h2, h3⟩
  | oT ks ds =>
    have : D.dT ks ds = d := by simpa [W.peek] using h
    subst this
    obtain ⟨a, vs, e1, e2, h1, h2, h3⟩ := r
    exact ⟨a, vs, e1, .inl h1, h2, h3⟩
  | oI c fs ws => simp [W.peek] at h
  | xn c f d => simp [W.peek] at h
inductive PDs (K : PySem.W.Frag) (g : G) (S H : Hp) : List D → List V → Prop
  | nil : PDs K g S H [] []
  | cons {d : D} {v : V} {ds : List D} {vs : List V} : PD K g S H d v → PDs K g S H ds vs → PDs K g S H (d :: ds) (v :: vs)

/-- Q of every value and heap that stand for w, the heap grown only -/
def FinW (K : PySem.W.Frag) (g : G) (S H : Hp) (w : W) (Q : VK) : Prop :=
  ∀ v S' H' l, RW K g S' H' w v l → l.Nodup → (∀ a ∈ l, S' a = none ∧ H a = none) → Sm S S' → Same H H' → (∀ a o, S' a = some o → H' a = some o) → (∀ a o, S' a = some o → S a = some o ∨ H a = none) → Q v H'
theorem FinW.sh (sub : ∀ a o, S a = some o → H a = some o) {d : D} {v : V} {Q : VK} (h : RD K g S d v) (q : FinW K g S H (.sh d) Q) : Q v H :=
  q v S H [] ⟨rfl, h⟩ List.nodup_nil (fun a ha => by cases ha) (Sm.refl S) (Same.refl H) sub fun a o e => .inl e
/-- a new list -/
theorem FinW.newL (sub : ∀ a o, S a = some o → H a = some o) {ds : List D} {vs : List V} {p : Addr} {Q : VK} (hp : H p = none) (h : RDs K g S ds vs) (q : FinW K g S H (.oL ds) Q) : Q (.ref p) (upd H p (.lst vs)) := by
  have sp : S p = none := by
    cases e : S p with
    | none => rfl
    | some o => rw [sub p o e] at hp; cases hp
  have sm : Same H (upd H p (.lst vs)) := fun a o e => by rw [upd_ne (ne_of_none e hp)]; exact e
  exact q _ S _ [p] ⟨p, vs, rfl, rfl, upd_same, h⟩ (by simp) (fun a ha => by
    have : a = p := by simpa using ha
    subst this
    exact ⟨sp, hp⟩) (Sm.refl S) sm (fun a o e => sm a o (sub a o e)) fun a o e => .inl e
/-- a new shared object -/
theorem FinW.newO (sub : ∀ a o, S a = some o → H a = some o) {d : D} {o : HO} {p : Addr} {Q : VK} (hp : H p = none) (h : RD K g (upd S p o) d (.ref p)) (q : FinW K g S H (.sh d) Q) : Q (.ref p) (upd H p o) := by
  have sp : S p = none := by
    cases e : S p with
    | none => rfl
    | some o => rw [sub p o e] at hp; cases hp
  refine q _ (upd S p o) _ [] ⟨rfl, h⟩ List.nodup_nil (fun a ha => by cases ha) (Sm.of fun a u e => by rw [upd_ne (ne_of_none e sp)]; exact e) (fun a u e => by rw [upd_ne (ne_of_none e hp)]; exact e) (fun a u e => ?_) fun a u e => ?_
  · by_cases z : a = p
    · subst z; rw [upd_same] at e ⊢; exact e
    · rw [upd_ne z] at e ⊢; exact sub a u e
  · by_cases z : a = p
    · subst z; exact .inr hp
    · rw [upd_ne z] at e; exact .inl e
theorem Same.upd' {p : Addr} {o : HO} (hp : H p = none) : Same H (upd H p o) := fun a u e => by rw [upd_ne (ne_of_none e hp)]; exact e
theorem subS (sub : ∀ a o, S a = some o → H a = some o) {p : Addr} (hp : H p = none) : S p = none := by
  cases e : S p with
  | none => rfl
  | some o => rw [sub p o e] at hp; cases hp
theorem FinW.newT (sub : ∀ a o, S a = some o → H a = some o) {ds : List D} {vs : List V} {p : Addr} {Q : VK} (hp : H p = none) (h : RDs K g S ds vs) (q : FinW K g S H (.sh (.tup ds)) Q) : Q (.ref p) (upd H p (.tup vs)) :=
  FinW.newO (d := .tup ds) (o := .tup vs) sub hp (show ∃ a us, V.ref p = V.ref a ∧ upd S p (.tup vs) a = some (.tup us) ∧ RDs K g (upd S p (.tup vs)) ds us from ⟨p, vs, rfl, upd_same, RDs.mono (Sm.of (Same.upd' (subS sub hp))) _ _ h⟩) q
end

section
variable (K : PySem.W.Frag) (g : G)
/-- an exception of the class at cls with its own dict at dx is the tree x -/
def RX (H : Hp) (x : D) (cls : Value) (dx : Option Addr) : Prop :=
  match x with
  | .ins c fs ds => cls = .ref (g.ca c) ∧ ∃ d vs, dx = some d ∧ H d = some (.xd (fs.zip vs)) ∧ RDs K g H ds vs ∧ fs.length = vs.length
  | _ => False
end

section
variable (K : PySem.W.Frag) (g : G) (Wx : WX)
def tW (r : Env → R W) : TE := fun σ H Q => ∃ env S ft, Rel K g env S σ H ft ∧ match r env with
  | .ok w env' => ∀ v S' H' ft', Rel K g (env' ++ [some w]) S' (σ ++ [some v]) H' ft' → Step S H ft.own S' H' ft'.own → Q v H'
  | .exc x env' => ∀ cls dx S' H' ft', Rel K g env' S' σ H' ft' → Step S H ft.own S' H' ft'.own → RX K g S' x cls dx → Wx cls dx σ H'
  | .bad => False
def tE (r : Env → R D) : TE := fun σ H Q => ∃ env S ft, Rel K g env S σ H ft ∧ match r env with
  | .ok d env' => ∀ v S' H' ft', Rel K g env' S' σ H' ft' → Step S H ft.own S' H' ft'.own → RD K g S' d v → Q v H'
  | .exc x env' => ∀ cls dx S' H' ft', Rel K g env' S' σ H' ft' → Step S H ft.own S' H' ft'.own → RX K g S' x cls dx → Wx cls dx σ H'
  | .bad => False
def tT (r : Env → R Bool) : TT := fun σ H Q => ∃ env S ft, Rel K g env S σ H ft ∧ match r env with
  | .ok k env' => ∀ S' H' ft', Rel K g env' S' σ H' ft' → Step S H ft.own S' H' ft'.own → Q k H'
  | .exc x env' => ∀ cls dx S' H' ft', Rel K g env' S' σ H' ft' → Step S H ft.own S' H' ft'.own → RX K g S' x cls dx → Wx cls dx σ H'
  | .bad => False
def tDs (r : Env → R (List D)) : TA := fun σ H Q => ∃ env S ft, Rel K g env S σ H ft ∧ match r env with
  | .ok ds env' => ∀ vs S' H' ft', Rel K g env' S' σ H' ft' → Step S H ft.own S' H' ft'.own → RDs K g S' ds vs → Q vs H'
  | .exc x env' => ∀ cls dx S' H' ft', Rel K g env' S' σ H' ft' → Step S H ft.own S' H' ft'.own → RX K g S' x cls dx → Wx cls dx σ H'
  | .bad => False
/-- the slots under pr hold the values that they held -/
def Kp (pr : Nat → Bool) (σ σ' : St) : Prop := ∀ j, pr j = true → σ'[j]? = σ[j]?
def tS (pr : Nat → Bool) (f : ES) : TS := fun D σ H => ∃ env S ft, Rel K g env S σ H ft ∧ match f env with
  | .nx env' => ∀ σ' S' H' ft', Rel K g env' S' σ' H' ft' → Step S H ft.own S' H' ft'.own → Kp pr σ σ' → D.nx σ' H'
  | .bk env' => ∀ σ' S' H' ft', Rel K g env' S' σ' H' ft' → Step S H ft.own S' H' ft'.own → Kp pr σ σ' → D.bk σ' H'
  | .ct env' => ∀ σ' S' H' ft', Rel K g env' S' σ' H' ft' → Step S H ft.own S' H' ft'.own → Kp pr σ σ' → D.ct σ' H'
  | .rt w env' => ∀ v σ' S' H' ft', Rel K g (env' ++ [some w]) S' (σ' ++ [some v]) H' ft' → Step S H ft.own S' H' ft'.own → Kp pr σ σ' → D.rt v H'
  | .exc x env' => ∀ cls dx σ' S' H' ft', Rel K g env' S' σ' H' ft' → Step S H ft.own S' H' ft'.own → Kp pr σ σ' → RX K g S' x cls dx → Wx cls dx σ' H'
  | .bad => False
end

/-- weaker readings -/
theorem PE.imp {X : Cx} {e : Expr} {t t' : TE} (h : PE X e t) (w : ∀ σ H Q, t' σ H Q → t σ H Q) : PE X e t' := ⟨fun pins s σ H Q I q => h.run pins s σ H Q I (w _ _ _ q)⟩
theorem PT.imp {X : Cx} {e : Expr} {t t' : TT} (h : PT X e t) (w : ∀ σ H Q, t' σ H Q → t σ H Q) : PT X e t' := ⟨fun pins s σ H Q I q => h.run pins s σ H Q I (w _ _ _ q)⟩
theorem PS.imp {X : Cx} {st : Stmt} {t t' : TS} (h : PS X st t) (w : ∀ D σ H, t' D σ H → t D σ H) : PS X st t' := ⟨fun pins s σ H D I q => h.run pins s σ H D I (w _ _ _ q)⟩
theorem PSs.imp {X : Cx} {st : List Stmt} {t t' : TS} (h : PSs X st t) (w : ∀ D σ H, t' D σ H → t D σ H) : PSs X st t' := ⟨fun pins s σ H D I q => h.run pins s σ H D I (w _ _ _ q)⟩
end Rf

namespace Rf
open PySem L2

section
variable (K : PySem.W.Frag) (g : G)
/-- an operation's reading by values -/
def rOp (o : Op) : List V → Hp → VK → Prop := fun xs H Q => ∃ S ds w, (∀ a u, S a = some u → H a = some u) ∧ PDs K g S H ds xs ∧ opD o ds = some w ∧ FinW K g S H w Q
end
section
variable {K : PySem.W.Frag} {g : G} {S H : Hp}
theorem PDs.two {ds : List D} {x y : V} (h : PDs K g S H ds [x, y]) : ∃ d e, ds = [d, e] ∧ PD K g S H d x ∧ PD K g S H e y := by
  cases h with
  | cons h1 h2 =>
    cases h2 with
    | cons h3 h4 => cases h4; exact ⟨_, _, rfl, h1, h3⟩
theorem PDs.one {ds : List D} {x : V} (h : PDs K g S H ds [x]) : ∃ d, ds = [d] ∧ PD K g S H d x := by
  cases h with
  | cons h1 h2 => cases h2; exact ⟨_, rfl, h1⟩
theorem PDs.three {ds : List D} {x y z : V} (h : PDs K g S H ds [x, y, z]) : ∃ d e f, ds = [d, e, f] ∧ PD K g S H d x ∧ PD K g S H e y ∧ PD K g S H f z := by
  cases h with
  | cons h1 h2 =>
    cases h2 with
    | cons h3 h4 =>
      cases h4 with
      | cons h5 h6 => cases h6; exact ⟨_, _, _, rfl, h1, h3, h5⟩

mutual
theorem dp_of : ∀ (d : D) (v : V) (p : PyData), RD K g H d v → d.py = some p → Dp K H v p
  | .non, v, p, h, e => by
    cases (show v = .non from h)
    have e' : PyData.none = p := by simpa [D.py] using e
    subst e'; exact .non
  | .bl b, v, p, h, e => by
    cases (show v = .bl b from h)
    have e' : PyData.bool b = p := by simpa [D.py] using e
    subst e'; exact .bl b
  | .int i, v, p, h, e => by
    cases (show v = .int i from h)
    have e' : PyData.int i = p := by simpa [D.py] using e
    subst e'; exact .int i
  | .str s, v, p, h, e => by
    cases (show v = .str s from h)
    have e' : PyData.str s = p := by simpa [D.py] using e
    subst e'; exact .str s
  | .lst l, v, p, h, e => by
    obtain ⟨a, vs, rfl, h1, h2⟩ := h
    simp only [D.py, Option.map_eq_some_iff] at e
    obtain ⟨ps, e1, e2⟩ := e
    subst e2
    exact .lst (SqL.of h1) (dps_of l vs ps h2 e1)
  | .tup l, v, p, h, e => by
    obtain ⟨a, vs, rfl, h1, h2⟩ := h
    simp only [D.py, Option.map_eq_some_iff] at e
    obtain ⟨ps, e1, e2⟩ := e
    subst e2
    exact .tup (SqT.of h1) (dps_of l vs ps h2 e1)
  | .kt l, v, p, h, e => by
    obtain ⟨a, vs, rfl, h1, h2⟩ := h
    simp only [D.py, Option.map_eq_some_iff] at e
    obtain ⟨ps, e1, e2⟩ := e
    subst e2
    exact .tup h1 (dps_of l vs ps h2 e1)
  | .dK _ _, v, p, h, e => by simp [D.py] at e
  | .dT _ _, v, p, h, e => by simp [D.py] at e
  | .set _, v, p, h, e => by simp [D.py] at e
  | .ins _ _ _, v, p, h, e => by simp [D.py] at e
  | .fn _, v, p, h, e => by simp [D.py] at e
  | .cls _, v, p, h, e => by simp [D.py] at e
  | .scr _, v, p, h, e => by simp [D.py] at e
theorem dps_of : ∀ (ds : List D) (vs : List V) (ps : List PyData), RDs K g H ds vs → D.pys ds = some ps → DpAll K H vs ps
  | [], vs, ps, h, e => by
    cases (show vs = [] from h)
    have e' : ([] : List PyData) = ps := by simpa [D.pys] using e
    subst e'; exact .nil
  | d :: ds, vs, ps, h, e => by
    obtain ⟨v, r, rfl, h1, h2⟩ := h
    rw [D.pys] at e
    cases q1 : d.py with
    | none => rw [q1] at e; cases e
    | some x =>
      cases q2 : D.pys ds with
      | none => rw [q1, q2] at e; cases e
      | some xs =>
        rw [q1, q2] at e
        have e' : x :: xs = ps := by simpa using e
        subst e'
        exact .cons (dp_of d v x h1 q1) (dps_of ds r xs h2 q2)
end
theorem deq_some {a b : D} {k : Bool} (h : deq a b = some k) : ∃ x y, a.py = some x ∧ b.py = some y ∧ SeqAt.shaped x = true ∧ SeqAt.shaped y = true ∧ PyData.eqv x y = k := by
  unfold deq at h
  split at h
  · rename_i x y q1 q2
    split at h
    · rename_i c
      have c' := Bool.and_eq_true_iff.mp c
      exact ⟨x, y, q1, q2, c'.1, c'.2, by simpa using h⟩
    · cases h
  · cases h
theorem vbl {k : Bool} {Q : VK} (sub : ∀ a u, S a = some u → H a = some u) (q : FinW K g S H (.sh (.bl k)) Q) : Q (.bl k) H := FinW.sh (d := .bl k) sub (show V.bl k = V.bl k from rfl) q
theorem vint {k : Int} {Q : VK} (sub : ∀ a u, S a = some u → H a = some u) (q : FinW K g S H (.sh (.int k)) Q) : Q (.int k) H := FinW.sh (d := .int k) sub (show V.int k = V.int k from rfl) q
theorem vstr {k : Str} {Q : VK} (sub : ∀ a u, S a = some u → H a = some u) (q : FinW K g S H (.sh (.str k)) Q) : Q (.str k) H := FinW.sh (d := .str k) sub (show V.str k = V.str k from rfl) q
theorem slim : sizeLine = lim := sizeLine_eq
end

section
variable {X : Cx} {g : G}
/-- two operands -/
theorem op2 {o : Op} {f : Value → Value → Sem Value} {r : R2} (h : OpR X f r) (w : ∀ x y H Q, rOp X.K g o [x, y] H Q → r x y H Q) : OpR X f (fun x y H Q => rOp X.K g o [x, y] H Q) :=
  fun pins s σ H x y v u Q I rx ry q => h pins s σ H x y v u Q I rx ry (w x y H Q q)

theorem int?_inv {d : D} {i : Int} (h : d.int? = some i) : d = .int i := by cases d <;> simp [D.int?] at h; rw [h]
theorem str?_inv {d : D} {i : Str} (h : d.str? = some i) : d = .str i := by cases d <;> simp [D.str?] at h; rw [h]
theorem lst?_inv {d : D} {i : List D} (h : d.lst? = some i) : d = .lst i := by cases d <;> simp [D.lst?] at h; rw [h]
theorem tup?_inv {d : D} {i : List D} (h : d.tup? = some i) : d = .tup i := by cases d <;> simp [D.tup?] at h; rw [h]
theorem bl?_inv {d : D} {i : Bool} (h : d.bl? = some i) : d = .bl i := by cases d <;> simp [D.bl?] at h; rw [h]
theorem i2_inv {a b : D} {f : Int → Int → Option W} {w : W} (h : i2 a b f = some w) : ∃ i j, a = .int i ∧ b = .int j ∧ f i j = some w := by
  unfold i2 at h
  split at h
  · rename_i i e1
    split at h
    · rename_i j e2
      exact ⟨i, j, int?_inv e1, int?_inv e2, h⟩
    · cases h
  · cases h
theorem iteS {α : Type} {c : Prop} [Decidable c] {a b : α} (h : (if c then some a else none) = some b) : c ∧ a = b := by
  by_cases q : c
  · rw [if_pos q] at h; exact ⟨q, Option.some.inj h⟩
  · rw [if_neg q] at h; cases h
theorem mulOk_of {i j : Int} (h : mulOk i j = true) : CMul i j := by
  unfold mulOk at h
  rcases Bool.or_eq_true_iff.mp h with h | h
  · have := Bool.and_eq_true_iff.mp h
    exact .inl ⟨of_decide_eq_true this.1, of_decide_eq_true this.2⟩
  · have := Bool.and_eq_true_iff.mp h
    exact .inr ⟨of_decide_eq_true this.1, of_decide_eq_true this.2⟩
theorem r_sub : OpR X (binaryOp .Sub) (fun x y H Q => rOp X.K g .sub [x, y] H Q) := op2 op_sub fun x y H Q h => by
  obtain ⟨S, ds, w, sub, p, e, q⟩ := h
  obtain ⟨d, f, rfl, h1, h2⟩ := p.two
  obtain ⟨i, j, rfl, rfl, e⟩ := i2_inv e
  have e := Option.some.inj e
  subst e
  exact ⟨i, j, h1, h2, vint sub q⟩
theorem r_mul : OpR X (binaryOp .Mult) (fun x y H Q => rOp X.K g .mul [x, y] H Q) := op2 op_mul fun x y H Q h => by
  obtain ⟨S, ds, w, sub, p, e, q⟩ := h
  obtain ⟨d, f, rfl, h1, h2⟩ := p.two
  obtain ⟨i, j, rfl, rfl, e⟩ := i2_inv e
  have e := iteS e
  obtain ⟨c, e⟩ := e
  subst e
  exact ⟨i, j, h1, h2, mulOk_of c, vint sub q⟩
theorem r_fdiv : OpR X (binaryOp .FloorDiv) (fun x y H Q => rOp X.K g .fdiv [x, y] H Q) := op2 op_fdiv fun x y H Q h => by
  obtain ⟨S, ds, w, sub, p, e, q⟩ := h
  obtain ⟨d, f, rfl, h1, h2⟩ := p.two
  obtain ⟨i, j, rfl, rfl, e⟩ := i2_inv e
  have e := iteS e
  obtain ⟨c, e⟩ := e
  subst e
  exact ⟨i, j, h1, h2, c, vint sub q⟩
theorem r_mod : OpR X (binaryOp .Mod) (fun x y H Q => rOp X.K g .mod [x, y] H Q) := op2 op_mod fun x y H Q h => by
  obtain ⟨S, ds, w, sub, p, e, q⟩ := h
  obtain ⟨d, f, rfl, h1, h2⟩ := p.two
  obtain ⟨i, j, rfl, rfl, e⟩ := i2_inv e
  have e := iteS e
  obtain ⟨c, e⟩ := e
  subst e
  exact ⟨i, j, h1, h2, c, vint sub q⟩
theorem r_pow : OpR X (binaryOp .Pow) (fun x y H Q => rOp X.K g .pow [x, y] H Q) := op2 op_pow fun x y H Q h => by
  obtain ⟨S, ds, w, sub, p, e, q⟩ := h
  obtain ⟨d, f, rfl, h1, h2⟩ := p.two
  obtain ⟨i, j, rfl, rfl, e⟩ := i2_inv e
  have e := iteS e
  obtain ⟨c, e⟩ := e
  subst e
  exact ⟨i, j, h1, h2, c, vint sub q⟩
theorem r_lt : OpR X (compareOp .Lt) (fun x y H Q => rOp X.K g .lt [x, y] H Q) := op2 op_lt fun x y H Q h => by
  obtain ⟨S, ds, w, sub, p, e, q⟩ := h
  obtain ⟨d, f, rfl, h1, h2⟩ := p.two
  obtain ⟨i, j, rfl, rfl, e⟩ := i2_inv e
  have e := Option.some.inj e
  subst e
  exact ⟨i, j, h1, h2, vbl sub q⟩
theorem r_le : OpR X (compareOp .LtE) (fun x y H Q => rOp X.K g .le [x, y] H Q) := op2 op_le fun x y H Q h => by
  obtain ⟨S, ds, w, sub, p, e, q⟩ := h
  obtain ⟨d, f, rfl, h1, h2⟩ := p.two
  obtain ⟨i, j, rfl, rfl, e⟩ := i2_inv e
  have e := Option.some.inj e
  subst e
  exact ⟨i, j, h1, h2, vbl sub q⟩
theorem r_gt : OpR X (compareOp .Gt) (fun x y H Q => rOp X.K g .gt [x, y] H Q) := op2 op_gt fun x y H Q h => by
  obtain ⟨S, ds, w, sub, p, e, q⟩ := h
  obtain ⟨d, f, rfl, h1, h2⟩ := p.two
  obtain ⟨i, j, rfl, rfl, e⟩ := i2_inv e
  have e := Option.some.inj e
  subst e
  exact ⟨i, j, h1, h2, vbl sub q⟩
theorem r_ge : OpR X (compareOp .GtE) (fun x y H Q => rOp X.K g .ge [x, y] H Q) := op2 op_ge fun x y H Q h => by
  obtain ⟨S, ds, w, sub, p, e, q⟩ := h
  obtain ⟨d, f, rfl, h1, h2⟩ := p.two
  obtain ⟨i, j, rfl, rfl, e⟩ := i2_inv e
  have e := Option.some.inj e
  subst e
  exact ⟨i, j, h1, h2, vbl sub q⟩
theorem r_add : OpR X (binaryOp .Add) (fun x y H Q => rOp X.K g .add [x, y] H Q) := op2 (OpR.or op_add (OpR.or op_add_str (OpR.or op_cat op_catA))) fun x y H Q h => by
  obtain ⟨S, ds, w, sub, p, e, q⟩ := h
  obtain ⟨d, f, rfl, h1, h2⟩ := p.two
  replace e : addD d f = some w := e
  unfold addD at e
  split at e
  · rename_i i
    split at e
    · rename_i j e2
      cases int?_inv e2
      have e := Option.some.inj e
      subst e
      exact .inl ⟨i, j, h1, h2, vint sub q⟩
    · cases e
  · rename_i i
    split at e
    · rename_i j e2
      cases str?_inv e2
      obtain ⟨c, e⟩ := iteS e
      subst e
      exact .inr (.inl ⟨i, j, h1, h2, by rw [slim]; exact c, vstr sub q⟩)
    · cases e
  · rename_i l
    split at e
    · rename_i m e2
      cases lst?_inv e2
      obtain ⟨c, e⟩ := iteS e
      subst e
      obtain ⟨a, xs, rfl, e1, r1⟩ := h1
      obtain ⟨b, ys, rfl, e2, r2⟩ := h2
      exact .inr (.inr (.inl ⟨a, b, xs, ys, rfl, rfl, e1, e2, by rw [slim, ← r1.length, ← r2.length]; exact c, fun p hp => q.newL sub hp (r1.append r2)⟩))
    · cases e
  · rename_i l
    split at e
    · rename_i m e2
      cases tup?_inv e2
      obtain ⟨c, e⟩ := iteS e
      subst e
      obtain ⟨a, xs, rfl, e1, r1⟩ := h1
      obtain ⟨b, ys, rfl, e2, r2⟩ := h2
      have sm := Sm.of sub
      refine .inr (.inr (.inr ⟨a, b, xs, ys, rfl, rfl, SqT.of (sub _ _ e1), SqT.of (sub _ _ e2), by rw [slim, ← r1.length, ← r2.length]; exact c, fun z => ?_, fun z z2 => ?_, fun z z2 p hp => ?_⟩))
      · subst z
        have : l = [] := List.eq_nil_of_length_eq_zero r1.length
        subst this
        exact FinW.sh (d := .tup ([] ++ m)) sub (show ∃ _ _, _ ∧ _ ∧ _ from ⟨b, ys, rfl, e2, by simpa using r2⟩) q
      · subst z2
        have : m = [] := List.eq_nil_of_length_eq_zero r2.length
        subst this
        exact FinW.sh (d := .tup (l ++ [])) sub (show ∃ _ _, _ ∧ _ ∧ _ from ⟨a, xs, rfl, e1, by simpa using r1⟩) q
      · exact q.newT sub hp (r1.append r2)
    · cases e
  · cases e
theorem lookD_ok' {K : PySem.W.Frag} {H : Hp} {k : Key} : ∀ {kvs : List (Key × V)} {ds : List D}, RDs K g H ds (kvs.map (·.2)) →
    (lookD (kvs.map (·.1)) ds k = none ∧ valV kvs k = none) ∨ ∃ d v, lookD (kvs.map (·.1)) ds k = some d ∧ valV kvs k = some v ∧ RD K g H d v
  | [], ds, r => .inl ⟨by simp [lookD], rfl⟩
  | (j, v) :: kvs, [], r => by obtain e := r.length; simp at e
  | (j, v) :: kvs, d :: ds, r => by
    obtain ⟨u, us, e, r1, r2⟩ := r
    simp at e
    obtain ⟨rfl, rfl⟩ := e
    by_cases h : j = k
    · subst h
      refine .inr ⟨d, v, by simp [lookD], valV_pos rfl, r1⟩
    · have e1 : lookD (((j, v) :: kvs).map (·.1)) (d :: ds) k = lookD (kvs.map (·.1)) ds k := by simp [lookD, h]
      have e2 : valV ((j, v) :: kvs) k = valV kvs k := valV_neg h
      rw [e1, e2]
      exact lookD_ok' r2
/-- equal data, one by one -/
theorem eqP_of {pins : List (Addr × Obj)} {σ : L2.St} {H : Hp} {s : Shared} (I : L2.Inv X pins σ H s) (hu : X.A.units + 64 < cLine) {d e : D} {x y : V} {u v : Value} {b : Bool} (hd : RD X.K g H d x) (he : RD X.K g H e y) (ru : RelV x u) (rv : RelV y v) (h : deq d e = some b) (hu2 : X.A.units + 65 < cLine) : SeqAt.EqP X.prog X.w X.A.in1 s u v b := by
  obtain ⟨p, q, e1, e2, s1, s2, ek⟩ := deq_some h
  subst ek
  obtain ⟨as, r1⟩ := Dp.reads I p x u (dp_of d x p hd e1) ru
  obtain ⟨bs, r2⟩ := Dp.reads I q y v (dp_of e y q he e2) rv
  exact (SeqAt.eqAt_reads p q X.A.in1 s u v as bs r1 r2 (SeqAt.canLay_of_shaped s1) (SeqAt.canLay_of_shaped s2) (SeqAt.room_of_shaped s1 (by show X.A.units + 1 + 64 < cLine; omega))).eqP
theorem hits_of {pins : List (Addr × Obj)} {σ : L2.St} {H : Hp} {s : Shared} (I : L2.Inv X pins σ H s) (hu : X.A.units + 65 < cLine) {es : List D} {kb : List (Key × V)} {vb : List (Key × Value)} (hr : RDs X.K g H es (kb.map (·.2))) (rb : KV kb vb) :
    ∀ {ds : List D} {ka : List (Key × V)} {va : List (Key × Value)} {r : Bool}, RDs X.K g H ds (ka.map (·.2)) → KV ka va → dkEq (ka.map (·.1)) ds (kb.map (·.1)) es = some r → PySem.W.KeqHitsP X.prog X.w X.A.in1 s vb va r
  | [], [], va, r, _, ra, h => by
    unfold KV at ra
    cases ra
    have h : some true = some r := h
    cases h
    exact .nil
  | [], _ :: _, va, r, hd, ra, h => by cases (show _ :: _ = [] from hd)
  | _ :: _, [], va, r, hd, ra, h => by
    obtain ⟨_, _, e, _⟩ := hd
    cases e
  | d :: ds, (k, x) :: ka, va, r, hd, ra, h => by
    obtain ⟨x', us, e, hx, hds⟩ := hd
    cases e
    unfold KV at ra
    cases ra with
    | @cons _ q _ qs h1 h2 =>
      obtain ⟨key, v⟩ := q
      obtain ⟨hk, rx⟩ := h1
      have hk : k = key := hk
      subst hk
      have h : (match lookD (kb.map (·.1)) es k with
        | none => some false
        | some e => match deq d e, dkEq (ka.map (·.1)) ds (kb.map (·.1)) es with
          | some b, some r => some (b && r)
          | _, _ => none) = some r := h
      have rr := rb.val k
      rcases lookD_ok' (k := k) hr with ⟨e1, e2⟩ | ⟨d2, y, e1, e2, ry⟩
      · rw [e1] at h
        cases h
        rw [e2] at rr
        refine .miss ?_
        cases q : valueAt vb k with
        | none => rfl
        | some z => rw [q] at rr; exact rr.elim
      · rw [e1] at h
        simp only at h
        cases e3 : deq d d2 with
        | none => rw [e3] at h; cases h
        | some b =>
          cases e4 : dkEq (ka.map (·.1)) ds (kb.map (·.1)) es with
          | none => rw [e3, e4] at h; cases h
          | some r' =>
            rw [e3, e4] at h
            cases h
            rw [e2] at rr
            obtain ⟨z, hz, rz⟩ := rr.some_of
            exact .hit hz (eqP_of I (by omega) hx ry rx rz e3 hu) (hits_of I hu hr rb hds h2 e4)
theorem eqD_of {a b : D} {k : Bool} (h : eqD a b = some k) : deq a b = some k ∨ ∃ ks ds ls es, a = .dK ks ds ∧ b = .dK ls es ∧ (if ks.length = ls.length then dkEq ks ds ls es else some false) = some k := by
  unfold eqD at h
  split at h
  · split at h
    · exact .inr ⟨_, _, _, _, rfl, rfl, h⟩
    · cases h
  · exact .inl h
theorem r_eq (hu : X.A.units + 65 < cLine) : OpR X (compareOp .Eq) (fun x y H Q => rOp X.K g .eq [x, y] H Q) := by
  intro pins s σ H x y v u Q I rx ry h
  obtain ⟨S, ds, w, sub, p, e, q⟩ := h
  obtain ⟨d, f, rfl, h1, h2⟩ := p.two
  obtain ⟨k, e0, rfl⟩ := Option.map_eq_some_iff.mp (show (eqD d f).map _ = some w from e)
  rcases eqD_of e0 with e0 | ⟨ks, ds, ls, es, rfl, rfl, e9⟩
  · refine op_eqD (by omega) pins s σ H x y v u Q I rx ry ?_
    obtain ⟨a, b, e1, e2, s1, s2, ek⟩ := deq_some e0
    subst ek
    exact ⟨a, b, dp_of d x a (PD.full sub h1) e1, dp_of f y b (PD.full sub h2) e2, s1, s2, vbl sub q⟩
  · obtain ⟨a, ka, rfl, ha, rfl, ra⟩ := PD.full sub h1
    obtain ⟨b, kb, rfl, hb, rfl, rb⟩ := PD.full sub h2
    cases (show v = Value.ref a from rx)
    cases (show u = Value.ref b from ry)
    obtain ⟨_, ya, va, kva, da⟩ := (show ObjOk X.prog X.w H s.heap a (.dK ka) from ha.ok I.hok)
    obtain ⟨_, yb, vb, kvb, db⟩ := (show ObjOk X.prog X.w H s.heap b (.dK kb) from hb.ok I.hok)
    have la : va.length = ka.length := (Paired.length kva).symm
    have lb : vb.length = kb.length := (Paired.length kvb).symm
    by_cases hl : ka.length = kb.length
    · rw [if_pos (by simpa using hl)] at e9
      refine PySem.W.rcP_dicts (knd := mixKind X.prog X.w) (r := k) ya yb da db (by omega) (fun _ => hits_of I hu rb kvb ra kva e9) _ _ ?_
      have e : (va.length == vb.length) = true := by rw [la, lb, hl]; simp
      rw [e, Bool.true_and]
      exact ⟨.bl k, H, I, rfl, vbl sub q⟩
    · rw [if_neg (by simpa using hl)] at e9
      cases e9
      refine PySem.W.rcP_dicts (knd := mixKind X.prog X.w) (r := false) ya yb da db (by omega) (fun z => absurd (by omega) hl) _ _ ?_
      rw [Bool.and_false]
      exact ⟨.bl false, H, I, rfl, vbl sub q⟩
/-- repr of data -/
theorem call_repr {K : PySem.W.Frag} (hg : X.A.guards = some []) (hu : X.A.units + 66 < cLine) : CallR X (.builtin "repr") (rOp X.K g .repr) := by
  intro pins s σ H xs us Q I r h
  obtain ⟨S, ds, w, sub, p, e, q⟩ := h
  match ds, e with
  | [a], e =>
    cases p with
    | cons h1 h2 =>
      cases h2
      obtain ⟨z, e0, rfl⟩ := Option.map_eq_some_iff.mp (show (reprD a).map _ = some w from e)
      obtain ⟨u, rfl, ru⟩ := vals1 r
      unfold reprD at e0
      cases e1 : a.py with
      | none => rw [e1] at e0; cases e0
      | some d =>
        rw [e1] at e0
        obtain ⟨c, rfl⟩ := iteS e0
        unfold replOk at c
        simp only [Bool.and_eq_true, decide_eq_true_eq] at c
        obtain ⟨⟨c1, c2⟩, c3⟩ := c
        have hz : d.shown.length ≤ sizeLine := by rw [slim]; exact c3
        have dp := dp_of a _ d (PD.full sub h1) e1
        have hd := SeqAt.depth_of_shaped c1
        obtain ⟨as, rd⟩ := Dp.reads I d _ u dp ru
        have fin : ∀ t s', L2.Inv X pins σ H s' → EP X pins σ Q (.str d.shown t) s' := fun t s' I' => ⟨.str _, H, I', ⟨_, rfl⟩, vstr sub q⟩
        cases rd with
        | none => exact PySem.P.repr_of_none (fin _ _ (I.tok _))
        | bool b => exact PySem.P.repr_of_bool (by cases b <;> exact fin _ _ (I.tok _))
        | int i t => exact PySem.P.repr_of_int (of_decide_eq_true c2) (fin _ _ (I.tok _))
        | str x t => exact PySem.P.repr_of_str (fin _ _ (I.tok _)) hz
        | list q1 q2 q3 q4 =>
          refine repr_of_reads' (.list q1 q2 q3 q4) c2 (fun hh => absurd hh ?_) hg (by omega) (fun b o e => e) (fun h' u tk k => ?_) hz
          · rw [PyData.hasDict_of_canLay _ (SeqAt.canLay_of_shaped c1)]; decide
          · exact fin _ _ (I.kept k)
        | tuple q1 q2 q3 q4 =>
          refine repr_of_reads' (.tuple q1 q2 q3 q4) c2 (fun hh => absurd hh ?_) hg (by omega) (fun b o e => e) (fun h' u tk k => ?_) hz
          · rw [PyData.hasDict_of_canLay _ (SeqAt.canLay_of_shaped c1)]; decide
          · exact fin _ _ (I.kept k)
        | dict _ _ _ _ _ => cases c1
theorem r_ne (hu : X.A.units + 64 < cLine) : OpR X (compareOp .NotEq) (fun x y H Q => rOp X.K g .ne [x, y] H Q) := op2 (op_neD hu) fun x y H Q h => by
  obtain ⟨S, ds, w, sub, p, e, q⟩ := h
  obtain ⟨d, f, rfl, h1, h2⟩ := p.two
  obtain ⟨k, e0, rfl⟩ := Option.map_eq_some_iff.mp (show (deq d f).map _ = some w from e)
  obtain ⟨a, b, e1, e2, s1, s2, ek⟩ := deq_some e0
  subst ek
  exact ⟨a, b, dp_of d x a (PD.full sub h1) e1, dp_of f y b (PD.full sub h2) e2, s1, s2, vbl sub q⟩
theorem rd_non {K : PySem.W.Frag} {S H : Hp} {d : D} {v : V} (hd : d ≠ .any) (h : PD K g S H d v) : d.isNon = decide (v = .non) := by
  cases d with
  | non => cases (show v = .non from h); rfl
  | bl _ => cases (show v = .bl _ from h); rfl
  | int _ => cases (show v = .int _ from h); rfl
  | str _ => cases (show v = .str _ from h); rfl
  | tup _ => obtain ⟨a, vs, rfl, _⟩ := h; rfl
  | lst _ => obtain ⟨a, vs, rfl, _⟩ := h; rfl
  | dK _ _ => obtain ⟨a, vs, rfl, _⟩ := h; rfl
  | dT _ _ => obtain ⟨a, vs, rfl, _⟩ := h; rfl
  | set _ => obtain ⟨a, vs, rfl, _⟩ := h; rfl
  | ins _ _ _ => obtain ⟨a, dx, vs, rfl, _⟩ := h; rfl
  | fn _ => cases (show v = .ref _ from h); rfl
  | cls _ => cases (show v = .ref _ from h); rfl
  | scr _ => obtain ⟨a, rfl, _⟩ := h; rfl
  | kt _ => obtain ⟨a, vs, rfl, _⟩ := h; rfl
  | any => exact absurd rfl hd
theorem isD_inv {a b : D} {k : Bool} (h : isD a b = some k) : (b = .non ∧ k = a.isNon ∧ a ≠ .any) ∨ ∃ i j, a = .bl i ∧ b = .bl j ∧ k = (i == j) := by
  unfold isD at h
  split at h
  · split at h
    · cases h
    · rename_i q
      exact .inl ⟨rfl, (Option.some.inj h).symm, fun z => by subst z; exact q rfl⟩
  · rename_i j
    split at h
    · rename_i i e
      cases bl?_inv e
      exact .inr ⟨i, j, rfl, rfl, (Option.some.inj h).symm⟩
    · cases h
  · cases h
theorem r_is : OpR X (compareOp .Is) (fun x y H Q => rOp X.K g .is [x, y] H Q) := op2 (OpR.or op_isN op_isBl) fun x y H Q h => by
  obtain ⟨S, ds, w, sub, p, e, q⟩ := h
  obtain ⟨d, f, rfl, h1, h2⟩ := p.two
  obtain ⟨k, ek, rfl⟩ := Option.map_eq_some_iff.mp (show (isD d f).map _ = some w from e)
  rcases isD_inv ek with ⟨rfl, rfl, hn⟩ | ⟨i, j, rfl, rfl, rfl⟩
  · refine .inl ⟨h2, ?_⟩
    rw [← rd_non hn h1]
    exact vbl sub q
  · refine .inr ⟨i, j, h1, h2, ?_⟩
    rw [show decide (i = j) = (i == j) by cases i <;> cases j <;> rfl]
    exact vbl sub q
theorem r_isnot : OpR X (compareOp .IsNot) (fun x y H Q => rOp X.K g .isnot [x, y] H Q) := op2 (OpR.or op_notN op_notBl) fun x y H Q h => by
  obtain ⟨S, ds, w, sub, p, e, q⟩ := h
  obtain ⟨d, f, rfl, h1, h2⟩ := p.two
  obtain ⟨k, ek, rfl⟩ := Option.map_eq_some_iff.mp (show (isD d f).map _ = some w from e)
  rcases isD_inv ek with ⟨rfl, rfl, hn⟩ | ⟨i, j, rfl, rfl, rfl⟩
  · refine .inl ⟨h2, ?_⟩
    rw [← rd_non hn h1]
    exact vbl sub q
  · refine .inr ⟨i, j, h1, h2, ?_⟩
    rw [show decide (i = j) = (i == j) by cases i <;> cases j <;> rfl]
    exact vbl sub q
end
end Rf

namespace Rf
open PySem L2 PyProof.Rows

section
variable {X : Cx} {g : G}
def rInDT (K : PySem.W.Frag) (neg : Bool) : R2 := fun x y H Q => ∃ d ds, Dp K H x d ∧ Dp K H y (.tuple ds) ∧ SeqAt.shaped d = true ∧ SeqAt.shaped (.list ds) = true ∧ Q (.bl (if neg then !(ds.any fun z => PyData.eqv z d) else ds.any fun z => PyData.eqv z d)) H
theorem op_inDT (hu : X.A.units + 65 < cLine) : OpR X (compareOp .In) (rInDT X.K false) := by
  intro pins s σ H x y v u Q I rx ry h
  obtain ⟨d, ds, hd, he, sd, se, q⟩ := h
  obtain ⟨as, r1⟩ := Dp.reads I d x v hd rx
  obtain ⟨bs, r2⟩ := Dp.reads I (.tuple ds) y u he ry
  have cl : PyData.canLayAll0 ds = true := by
    have := SeqAt.canLay_of_shaped se
    simpa [PyData.canLay0] using this
  exact SeqAt.in_tuple_reads r2 r1 cl (SeqAt.canLay_of_shaped sd) (room_in_shaped sd hu) ⟨.bl _, H, I, rfl, q⟩
theorem op_notInDT (hu : X.A.units + 65 < cLine) : OpR X (compareOp .NotIn) (rInDT X.K true) := by
  intro pins s σ H x y v u Q I rx ry h
  obtain ⟨d, ds, hd, he, sd, se, q⟩ := h
  obtain ⟨as, r1⟩ := Dp.reads I d x v hd rx
  obtain ⟨bs, r2⟩ := Dp.reads I (.tuple ds) y u he ry
  have cl : PyData.canLayAll0 ds = true := by
    have := SeqAt.canLay_of_shaped se
    simpa [PyData.canLay0] using this
  exact SeqAt.notIn_tuple_reads r2 r1 cl (SeqAt.canLay_of_shaped sd) (room_in_shaped sd hu) ⟨.bl _, H, I, rfl, q⟩
/-- in a dict -/
def rInK (neg : Bool) : R2 := fun x y H Q => (∃ a o, y = .ref a ∧ DGet H a x o ∧ Q (.bl (if neg then !o.isSome else o.isSome)) H) ∨ ∃ a kvs, y = .ref a ∧ x = .non ∧ Rd H a (.dK kvs) ∧ Q (.bl neg) H
theorem op_inK (hu : X.A.units + 1 < cLine) : OpR X (compareOp .In) (rInK false) := by
  intro pins s σ H x y v u Q I rx ry h
  rcases h with ⟨a, o, rfl, hd, q⟩ | ⟨a, kvs, rfl, rfl, hd, q⟩
  · cases ry
    exact d_in hu I hd rx fun s' I' => ⟨.bl _, H, I', rfl, q⟩
  · cases ry
    cases rx
    exact d_inNone I hd fun s' I' => ⟨.bl _, H, I', rfl, q⟩
theorem op_notInK (hu : X.A.units + 1 < cLine) : OpR X (compareOp .NotIn) (rInK true) := by
  intro pins s σ H x y v u Q I rx ry h
  rcases h with ⟨a, o, rfl, hd, q⟩ | ⟨a, kvs, rfl, rfl, hd, q⟩
  · cases ry
    exact d_notIn hu I hd rx fun s' I' => ⟨.bl _, H, I', rfl, q⟩
  · cases ry
    cases rx
    exact d_notInNone I hd fun s' I' => ⟨.bl _, H, I', rfl, q⟩

theorem keyD_inv {d : D} {k : Key} (h : keyD d = some k) : (∃ i, d = .int i ∧ k = .inl i) ∨ ∃ s, d = .str s ∧ k = .inr s := by
  cases d <;> simp [keyD] at h
  · exact .inl ⟨_, rfl, h.symm⟩
  · exact .inr ⟨_, rfl, h.symm⟩
theorem keyD_kV {K : PySem.W.Frag} {H : Hp} {d : D} {k : Key} {v : V} (h : keyD d = some k) (r : RD K g H d v) : v = kV k := by
  rcases keyD_inv h with ⟨i, rfl, rfl⟩ | ⟨s, rfl, rfl⟩
  · exact r
  · exact r
theorem keysD_kV {K : PySem.W.Frag} {H : Hp} : ∀ {ds : List D} {ks : List Key} {vs : List V}, keysD ds = some ks → RDs K g H ds vs → vs = ks.map kV
  | [], ks, vs, h, r => by
    cases (show vs = [] from r)
    have : ([] : List Key) = ks := by simpa [keysD] using h
    subst this; rfl
  | d :: ds, ks, vs, h, r => by
    obtain ⟨v, u, rfl, r1, r2⟩ := r
    unfold keysD at h
    split at h
    · rename_i k r' e1 e2
      have : k :: r' = ks := by simpa using h
      subst this
      rw [keyD_kV e1 r1, keysD_kV e2 r2]; rfl
    · cases h
theorem look_val {κ : Type} [DecidableEq κ] {K : PySem.W.Frag} {H : Hp} {k : κ} : ∀ {kvs : List (κ × V)} {ds : List D}, RDs K g H ds (kvs.map (·.2)) →
    (lookD (kvs.map (·.1)) ds k = none ∧ valV kvs k = none) ∨ ∃ d v, lookD (kvs.map (·.1)) ds k = some d ∧ valV kvs k = some v ∧ RD K g H d v
  | [], ds, r => .inl ⟨by simp [lookD], rfl⟩
  | (j, v) :: kvs, [], r => by obtain e := r.length; simp at e
  | (j, v) :: kvs, d :: ds, r => by
    obtain ⟨u, us, e, r1, r2⟩ := r
    simp at e
    obtain ⟨rfl, rfl⟩ := e
    by_cases h : j = k
    · subst h
      refine .inr ⟨d, v, by simp [lookD], valV_pos rfl, r1⟩
    · have e1 : lookD (((j, v) :: kvs).map (·.1)) (d :: ds) k = lookD (kvs.map (·.1)) ds k := by simp [lookD, h]
      have e2 : valV ((j, v) :: kvs) k = valV kvs k := valV_neg h
      rw [e1, e2]
      exact look_val r2
/-- what a dict has at a key -/
theorem getD_ok {K : PySem.W.Frag} {S H : Hp} {a b : D} {x y : V} {o : Option D} (sub : ∀ a u, S a = some u → H a = some u) (h : getD a b = some o) (h1 : PD K g S H a x) (h2 : PD K g S H b y) :
    ∃ p r, x = .ref p ∧ IsD H p ∧ DGet H p y r ∧ ((o = none ∧ r = none) ∨ ∃ d v, o = some d ∧ r = some v ∧ RD K g S d v) := by
  unfold getD at h
  split at h
  · rename_i ks vs
    split at h
    · rename_i k e
      have h := Option.some.inj h
      subst h
      obtain ⟨p, kvs, rfl, e1, e2, r⟩ := h1
      have hy : y = kV k := by
        rcases keyD_inv e with ⟨i, rfl, rfl⟩ | ⟨s, rfl, rfl⟩
        · exact h2
        · exact h2
      subst hy e2
      refine ⟨p, valV kvs k, rfl, .inl ⟨kvs, e1⟩, .inl ⟨kvs, k, e1, rfl, rfl⟩, ?_⟩
      rcases look_val (k := k) r with ⟨q1, q2⟩ | ⟨d, v, q1, q2, q3⟩
      · exact .inl ⟨q1, q2⟩
      · exact .inr ⟨d, v, q1, q2, q3⟩
    · cases h
  · rename_i ks vs
    split at h
    · rename_i l e0
      cases tup?_inv e0
      split at h
      · rename_i k e
        have h := Option.some.inj h
        subst h
        obtain ⟨p, kvs, rfl, e1, e2, r⟩ := h1
        obtain ⟨b, us, rfl, e3, r3⟩ := h2
        have := keysD_kV e r3
        subst this e2
        refine ⟨p, valV kvs k, rfl, .inr ⟨kvs, e1⟩, .inr ⟨kvs, k, b, e1, rfl, sub _ _ e3, rfl⟩, ?_⟩
        rcases look_val (k := k) r with ⟨q1, q2⟩ | ⟨d, v, q1, q2, q3⟩
        · exact .inl ⟨q1, q2⟩
        · exact .inr ⟨d, v, q1, q2, q3⟩
      · cases h
    · cases h
  · cases h

theorem inD_some {d : D} {l : List D} {k : Bool} (h : inD d l = some k) : ∃ x xs, d.py = some x ∧ D.pys l = some xs ∧ SeqAt.shaped x = true ∧ SeqAt.shaped (.list xs) = true ∧ (xs.any fun z => PyData.eqv z x) = k := by
  unfold inD at h
  split at h
  · rename_i x xs q1 q2
    obtain ⟨c, e⟩ := iteS h
    have c' := Bool.and_eq_true_iff.mp c
    exact ⟨x, xs, q1, q2, c'.1, c'.2, e⟩
  · cases h
theorem memD_ok {S H : Hp} {a b : D} {x y : V} {k : Bool} (sub : ∀ a u, S a = some u → H a = some u) (h : memD a b = some k) (h1 : PD X.K g S H a x) (h2 : PD X.K g S H b y) :
    (∃ d ds, Dp X.K H x d ∧ Dp X.K H y (.list ds) ∧ SeqAt.shaped d = true ∧ SeqAt.shaped (.list ds) = true ∧ (ds.any fun z => PyData.eqv z d) = k) ∨
    (∃ d ds, Dp X.K H x d ∧ Dp X.K H y (.tuple ds) ∧ SeqAt.shaped d = true ∧ SeqAt.shaped (.list ds) = true ∧ (ds.any fun z => PyData.eqv z d) = k) ∨
    ((∃ p o, y = .ref p ∧ DGet H p x o ∧ o.isSome = k) ∨ ∃ p kvs, y = .ref p ∧ x = .non ∧ Rd H p (.dK kvs) ∧ k = false) := by
  unfold memD at h
  split at h
  · rename_i l
    obtain ⟨d, ds, e1, e2, s1, s2, e⟩ := inD_some h
    obtain ⟨p, vs, rfl, e3, r⟩ := PD.full sub h2
    exact .inl ⟨d, ds, dp_of a x d (PD.full sub h1) e1, .lst (SqL.of e3) (dps_of l vs ds r e2), s1, s2, e⟩
  · rename_i l
    obtain ⟨d, ds, e1, e2, s1, s2, e⟩ := inD_some h
    obtain ⟨p, vs, rfl, e3, r⟩ := PD.full sub h2
    exact .inr (.inl ⟨d, ds, dp_of a x d (PD.full sub h1) e1, .tup (SqT.of e3) (dps_of l vs ds r e2), s1, s2, e⟩)
  · rename_i l
    obtain ⟨d, ds, e1, e2, s1, s2, e⟩ := inD_some h
    obtain ⟨p, vs, rfl, e3, r⟩ := PD.full sub h2
    exact .inr (.inl ⟨d, ds, dp_of a x d (PD.full sub h1) e1, .tup e3 (dps_of l vs ds r e2), s1, s2, e⟩)
  · rename_i ks vs
    split at h
    · rename_i k' e
      have h := Option.some.inj h
      have hk : keyD a = some k' := by
        cases a <;> simp [keyN] at e <;> simp [keyD, e]
      obtain ⟨p, r, e1, _, dg, c⟩ := getD_ok (o := lookD ks vs k') sub (by unfold getD; simp only [hk]) h2 h1
      refine .inr (.inr (.inl ⟨p, r, e1, dg, ?_⟩))
      rw [← h]
      rcases c with ⟨q1, q2⟩ | ⟨d, v, q1, q2, _⟩
      · rw [q1, q2]; rfl
      · rw [q1, q2]; rfl
    · rename_i e
      have h := Option.some.inj h
      obtain ⟨p, kvs, e1, e2, _⟩ := h2
      have ha : a = .non := by cases a <;> simp [keyN] at e; rfl
      subst ha
      exact .inr (.inr (.inr ⟨p, kvs, e1, h1, e2, h.symm⟩))
    · cases h
  · rename_i ks vs
    split at h
    · rename_i l e0
      split at h
      · rename_i k' e
        have h := Option.some.inj h
        obtain ⟨p, r, e1, _, dg, c⟩ := getD_ok (o := lookD ks vs k') sub (by unfold getD; simp only [e0, e]) h2 h1
        refine .inr (.inr (.inl ⟨p, r, e1, dg, ?_⟩))
        rw [← h]
        rcases c with ⟨q1, q2⟩ | ⟨d, v, q1, q2, _⟩
        · rw [q1, q2]; rfl
        · rw [q1, q2]; rfl
      · cases h
    · cases h
  · cases h
theorem r_isin (hu : X.A.units + 65 < cLine) : OpR X (compareOp .In) (fun x y H Q => rOp X.K g .isin [x, y] H Q) := op2 (OpR.or (op_inD hu) (OpR.or (op_inDT hu) (op_inK (by omega)))) fun x y H Q h => by
  obtain ⟨S, ds, w, sub, p, e, q⟩ := h
  obtain ⟨d, f, rfl, h1, h2⟩ := p.two
  obtain ⟨k, ek, rfl⟩ := Option.map_eq_some_iff.mp (show (memD d f).map _ = some w from e)
  have q' := vbl sub q
  rcases memD_ok sub ek h1 h2 with ⟨a, b, c1, c2, c3, c4, rfl⟩ | ⟨a, b, c1, c2, c3, c4, rfl⟩ | ⟨a, o, c1, c2, rfl⟩ | ⟨a, kvs, c1, c2, c3, rfl⟩
  · exact .inl ⟨a, b, c1, c2, c3, c4, q'⟩
  · exact .inr (.inl ⟨a, b, c1, c2, c3, c4, q'⟩)
  · exact .inr (.inr (.inl ⟨a, o, c1, c2, q'⟩))
  · exact .inr (.inr (.inr ⟨a, kvs, c1, c2, c3, q'⟩))
theorem r_notin (hu : X.A.units + 65 < cLine) : OpR X (compareOp .NotIn) (fun x y H Q => rOp X.K g .notin [x, y] H Q) := op2 (OpR.or (op_notInD hu) (OpR.or (op_notInDT hu) (op_notInK (by omega)))) fun x y H Q h => by
  obtain ⟨S, ds, w, sub, p, e, q⟩ := h
  obtain ⟨d, f, rfl, h1, h2⟩ := p.two
  obtain ⟨k, ek, rfl⟩ := Option.map_eq_some_iff.mp (show (memD d f).map _ = some w from e)
  have q' := vbl sub q
  rcases memD_ok sub ek h1 h2 with ⟨a, b, c1, c2, c3, c4, rfl⟩ | ⟨a, b, c1, c2, c3, c4, rfl⟩ | ⟨a, o, c1, c2, rfl⟩ | ⟨a, kvs, c1, c2, c3, rfl⟩
  · exact .inl ⟨a, b, c1, c2, c3, c4, q'⟩
  · exact .inr (.inl ⟨a, b, c1, c2, c3, c4, q'⟩)
  · exact .inr (.inr (.inl ⟨a, o, c1, c2, q'⟩))
  · exact .inr (.inr (.inr ⟨a, kvs, c1, c2, c3, q'⟩))

theorem ix_dict (hu : X.A.units + 1 < cLine) : IxR X (fun x y H Q => ∃ a v, x = .ref a ∧ DGet H a y (some v) ∧ Q v H) := by
  intro value slice pins s σ H x y v u Q I rx ry h hs
  obtain ⟨a, z, rfl, hd, q⟩ := h
  cases rx
  exact tail_any (dict_typeIs I hd) slot_dict_getitem.lookup (d_getItem hu I hd ry fun w' s' I' r => ⟨z, H, I', r, q⟩) hs
theorem atD_ok {K : PySem.W.Frag} {H : Hp} {l : List D} {vs : List V} {i : Int} {d : D} (r : RDs K g H l vs) (h : atD l i = some d) : ∃ v, atI vs i = some v ∧ RD K g H d v := by
  have hl := r.length
  unfold atD at h
  split at h
  · rename_i h0
    obtain ⟨v, e, rv⟩ := r.get h
    have hi : i.toNat < vs.length := (List.getElem?_eq_some_iff.mp e).1
    refine ⟨v, ?_, rv⟩
    have := atI_nat e
    rwa [show ((i.toNat : Nat) : Int) = i by omega] at this
  · split at h
    · rename_i h0 h1
      obtain ⟨v, e, rv⟩ := r.get h
      have hi := (List.getElem?_eq_some_iff.mp e).1
      refine ⟨v, ?_, rv⟩
      unfold atI ixN
      rw [if_neg h0, if_pos (by omega)]
      show vs[(i + (vs.length : Int)).toNat]? = some v
      rw [show i + (vs.length : Int) = (l.length : Int) + i by omega]
      exact e
    · cases h
theorem r_idx (hu : X.A.units + 1 < cLine) : IxR X (fun x y H Q => rOp X.K g .idx [x, y] H Q) := by
  have base := IxR.or (IxR.or (ix_list (X := X)) (ix_tup (X := X))) (ix_dict hu)
  intro value slice pins s σ H x y v u Q I rx ry h hs
  refine base value slice pins s σ H x y v u Q I rx ry ?_ hs
  obtain ⟨S, ds, w, sub, p, e, q⟩ := h
  obtain ⟨d, f, rfl, h1, h2⟩ := p.two
  obtain ⟨k, ek, rfl⟩ := Option.map_eq_some_iff.mp (show (idxD d f).map _ = some w from e)
  unfold idxD at ek
  split at ek
  · rename_i l
    split at ek
    · rename_i i e2
      cases int?_inv e2
      obtain ⟨b, vs, rfl, e3, r⟩ := h1
      obtain ⟨z, e4, rz⟩ := atD_ok r ek
      exact .inl (.inl ⟨b, vs, i, z, rfl, h2, SqL.of e3, e4, q.sh sub rz⟩)
    · cases ek
  · rename_i l
    split at ek
    · rename_i i e2
      cases int?_inv e2
      obtain ⟨b, vs, rfl, e3, r⟩ := h1
      obtain ⟨z, e4, rz⟩ := atD_ok r ek
      exact .inl (.inr ⟨b, vs, i, z, rfl, h2, SqT.of (sub _ _ e3), e4, q.sh sub rz⟩)
    · cases ek
  · rename_i l
    split at ek
    · rename_i i e2
      cases int?_inv e2
      obtain ⟨b, rfl, e3⟩ := h1
      split at ek
      · rename_i h0
        obtain ⟨j, e4, rfl⟩ := Option.map_eq_some_iff.mp ek
        refine .inl (.inl ⟨b, _, i, .int j, rfl, h2, Sm.sqL (Sm.of sub) e3, ?_, vint sub q⟩)
        have : (l.map V.int)[i.toNat]? = some (.int j) := by rw [List.getElem?_map, e4]; rfl
        have := atI_nat this
        rwa [show ((i.toNat : Nat) : Int) = i by omega] at this
      · cases ek
    · cases ek
  · cases q1 : getD d f with
    | none => rw [q1] at ek; cases ek
    | some o =>
      rw [q1] at ek
      have ek : o = some k := ek
      subst ek
      obtain ⟨p, r, e1, _, dg, c⟩ := getD_ok sub q1 h1 h2
      rcases c with ⟨c1, _⟩ | ⟨d', v', c1, c2, c3⟩
      · cases c1
      · cases c1
        subst c2
        exact .inr ⟨p, v', e1, dg, q.sh sub c3⟩
end
end Rf

namespace Rf
open PySem L2 PyProof.Rows

section
variable {X : Cx} {g : G}
theorem CallR.or {f : Value} {r r' : List V → Hp → VK → Prop} (h : CallR X f r) (h' : CallR X f r') : CallR X f (fun xs H Q => r xs H Q ∨ r' xs H Q) := by
  intro pins s σ H xs us Q I rx q
  rcases q with q | q
  · exact h pins s σ H xs us Q I rx q
  · exact h' pins s σ H xs us Q I rx q
theorem CallR.imp {f : Value} {r r' : List V → Hp → VK → Prop} (h : CallR X f r) (w : ∀ xs H Q, r' xs H Q → r xs H Q) : CallR X f r' := fun pins s σ H xs us Q I rx q => h pins s σ H xs us Q I rx (w _ _ _ q)
/-- one argument -/
theorem rop1 {o : Op} {xs : List V} {H : Hp} {Q : VK} {P : Prop} (h : rOp X.K g o xs H Q) (hl : ∀ ds w, opD o ds = some w → ds.length = 1)
    (k : ∀ S d x w, xs = [x] → (∀ a u, S a = some u → H a = some u) → PD X.K g S H d x → opD o [d] = some w → FinW X.K g S H w Q → P) : P := by
  obtain ⟨S, ds, w, sub, p, e, q⟩ := h
  have := hl ds w e
  cases p with
  | nil => simp at this
  | cons h1 h2 =>
    cases h2 with
    | nil => exact k S _ _ w rfl sub h1 e q
    | cons _ _ => simp at this
theorem one_of {o : Op} {f : D → Option W} (h : ∀ ds, opD o ds = match ds with | [a] => f a | _ => none) : ∀ ds w, opD o ds = some w → ds.length = 1 := fun ds w e => by
  rw [h] at e
  match ds, e with
  | [a], _ => rfl
theorem call_len_scr : CallR X (.builtin "len") (fun xs H Q => ∃ p ys, xs = [.ref p] ∧ SqL X.K H p ys ∧ Q (.int ys.length) H) := CallR.imp (call_len_seq (X := X)) fun xs H Q ⟨p, ys, e, h, q⟩ => ⟨p, ys, e, .inl h, q⟩
theorem rd_len : CallR X (.builtin "len") (fun xs H Q => ∃ a kvs, xs = [V.ref a] ∧ Rd H a (.dK kvs) ∧ Q (.int (kvs.length : Nat)) H) := by
  intro pins s σ H xs us Q I r h
  obtain ⟨a, kvs, rfl, e, q⟩ := h
  obtain ⟨u, rfl, rx⟩ := vals1 r
  cases rx
  exact d_len I e fun t s' I' => ⟨.int _, H, I', ⟨t, rfl⟩, q⟩
theorem b_len : CallR X (.builtin "len") (rOp X.K g .len) := CallR.imp (CallR.or (call_len_seq (X := X)) (CallR.or (call_len_str (X := X)) (rd_len (X := X)))) fun xs H Q h => by
  refine rop1 h (one_of (f := fun a => (lenD a).map fun (n : Nat) => W.sh (.int (n : Int))) fun ds => by
    cases ds with
    | nil => rfl
    | cons a t => cases t <;> rfl) fun S d x w ex sub hp e q => ?_
  subst ex
  obtain ⟨n, en, rfl⟩ := Option.map_eq_some_iff.mp (show (lenD d).map (fun (n : Nat) => W.sh (.int (n : Int))) = some w from e)
  have q' := vint sub q
  unfold lenD at en
  split at en
  · cases en
    obtain ⟨p, vs, rfl, e1, r⟩ := hp
    exact .inl ⟨p, vs, rfl, .inl (SqL.of e1), by rw [← r.length]; exact q'⟩
  · cases en
    obtain ⟨p, vs, rfl, e1, r⟩ := hp
    exact .inl ⟨p, vs, rfl, .inr (SqT.of (sub _ _ e1)), by rw [← r.length]; exact q'⟩
  · cases en
    obtain ⟨p, rfl, e1⟩ := hp
    exact .inl ⟨p, _, rfl, .inl (Sm.sqL (Sm.of sub) e1), by rw [List.length_map]; exact q'⟩
  · cases en
    obtain ⟨p, kvs, rfl, e1, e2, r⟩ := hp
    subst e2
    rw [List.length_map] at q'
    exact .inr (.inr ⟨p, kvs, rfl, e1, q'⟩)
  · obtain ⟨c, e1⟩ := iteS en
    subst e1
    exact .inr (.inl ⟨_, by rw [show x = _ from hp], by rw [slim]; exact c, q'⟩)
  · cases en
theorem b_int : CallR X (.type "int") (rOp X.K g .int) := CallR.imp (call_int1 (X := X)) fun xs H Q h => by
  refine rop1 h (one_of (f := fun a => (int?? a).map fun i => .sh (.int i)) fun ds => by
    cases ds with
    | nil => rfl
    | cons a t => cases t <;> rfl) fun S d x w ex sub hp e q => ?_
  subst ex
  obtain ⟨n, en, rfl⟩ := Option.map_eq_some_iff.mp (show (int?? d).map _ = some w from e)
  have q' := vint sub q
  unfold int?? at en
  split at en
  · cases en
    exact .inl ⟨_, by rw [show x = _ from hp], q'⟩
  · cases en
    exact .inr ⟨_, by rw [show x = _ from hp], q'⟩
  · cases en
theorem b_abs : CallR X (.builtin "abs") (rOp X.K g .abs) := CallR.imp (call_abs (X := X)) fun xs H Q h => by
  refine rop1 h (one_of (f := fun a => match a.int? with | some i => some (.sh (.int (if i < 0 then -i else i))) | none => none) fun ds => by
    cases ds with
    | nil => rfl
    | cons a t => cases t <;> rfl) fun S d x w ex sub hp e q => ?_
  subst ex
  replace e : (match d.int? with | some i => some (W.sh (.int (if i < 0 then -i else i))) | none => none) = some w := e
  split at e
  · rename_i i e1
    cases int?_inv e1
    have e := Option.some.inj e
    subst e
    exact ⟨i, by rw [show x = _ from hp], vint sub q⟩
  · cases e
theorem two_of {o : Op} {f : D → D → Option W} (h : ∀ ds, opD o ds = match ds with | [a, b] => f a b | _ => none) : ∀ ds w, opD o ds = some w → ds.length = 2 := fun ds w e => by
  rw [h] at e
  match ds, e with
  | [a, b], _ => rfl
theorem rop2 {o : Op} {xs : List V} {H : Hp} {Q : VK} {P : Prop} (h : rOp X.K g o xs H Q) (hl : ∀ ds w, opD o ds = some w → ds.length = 2)
    (k : ∀ S d f x y w, xs = [x, y] → (∀ a u, S a = some u → H a = some u) → PD X.K g S H d x → PD X.K g S H f y → opD o [d, f] = some w → FinW X.K g S H w Q → P) : P := by
  obtain ⟨S, ds, w, sub, p, e, q⟩ := h
  have := hl ds w e
  cases p with
  | nil => simp at this
  | cons h1 h2 =>
    cases h2 with
    | nil => simp at this
    | cons h3 h4 =>
      cases h4 with
      | nil => exact k S _ _ _ _ w rfl sub h1 h3 e q
      | cons _ _ => simp at this
theorem b_max2 (hc : X.calm = true) : CallR X (.builtin "max") (rOp X.K g .max2) := CallR.imp (call_max2 (X := X) hc) fun xs H Q h => by
  refine rop2 h (two_of (f := fun a b => i2 a b fun i j => some (.sh (.int (if j > i then j else i)))) fun ds => by
    match ds with
    | [] => rfl
    | [a] => rfl
    | [a, b] => rfl
    | _ :: _ :: _ :: _ => rfl) fun S d f x y w ex sub h1 h2 e q => ?_
  subst ex
  obtain ⟨i, j, rfl, rfl, e⟩ := i2_inv e
  have e := Option.some.inj e
  subst e
  exact ⟨i, j, by rw [show x = _ from h1, show y = _ from h2], vint sub q⟩
theorem b_min2 (hc : X.calm = true) : CallR X (.builtin "min") (rOp X.K g .min2) := CallR.imp (call_min2 (X := X) hc) fun xs H Q h => by
  refine rop2 h (two_of (f := fun a b => i2 a b fun i j => some (.sh (.int (if j < i then j else i)))) fun ds => by
    match ds with
    | [] => rfl
    | [a] => rfl
    | [a, b] => rfl
    | _ :: _ :: _ :: _ => rfl) fun S d f x y w ex sub h1 h2 e q => ?_
  subst ex
  obtain ⟨i, j, rfl, rfl, e⟩ := i2_inv e
  have e := Option.some.inj e
  subst e
  exact ⟨i, j, by rw [show x = _ from h1, show y = _ from h2], vint sub q⟩

theorem intsD_ok {K : PySem.W.Frag} {H : Hp} : ∀ {ds : List D} {is : List Int} {vs : List V}, intsD ds = some is → RDs K g H ds vs → vs = is.map V.int
  | [], is, vs, h, r => by
    cases (show vs = [] from r)
    have : ([] : List Int) = is := by simpa [intsD] using h
    subst this; rfl
  | d :: ds, is, vs, h, r => by
    obtain ⟨v, u, rfl, r1, r2⟩ := r
    cases d <;> simp [intsD] at h
    obtain ⟨a, e1, rfl⟩ := h
    rw [show v = _ from r1, intsD_ok e1 r2]; rfl
theorem boolsD_ok {K : PySem.W.Frag} {H : Hp} : ∀ {ds : List D} {is : List Bool} {vs : List V}, boolsD ds = some is → RDs K g H ds vs → vs = is.map V.bl
  | [], is, vs, h, r => by
    cases (show vs = [] from r)
    have : ([] : List Bool) = is := by simpa [boolsD] using h
    subst this; rfl
  | d :: ds, is, vs, h, r => by
    obtain ⟨v, u, rfl, r1, r2⟩ := r
    cases d <;> simp [boolsD] at h
    obtain ⟨a, e1, rfl⟩ := h
    rw [show v = _ from r1, boolsD_ok e1 r2]; rfl
theorem RDs.ints {K : PySem.W.Frag} {H : Hp} : ∀ (is : List Int), RDs K g H (is.map .int) (is.map .int)
  | [] => .nil
  | i :: is => .cons (show V.int i = V.int i from rfl) (RDs.ints is)
theorem intsOf_ok {S H : Hp} {d : D} {is : List Int} {x : V} (sub : ∀ a u, S a = some u → H a = some u) (h : intsOf d = some is) (r : PD X.K g S H d x) : ∃ a, x = .ref a ∧ SqL X.K H a (is.map V.int) := by
  unfold intsOf at h
  split at h
  · obtain ⟨p, vs, rfl, e1, r⟩ := r
    rw [intsD_ok h r] at e1
    exact ⟨p, rfl, SqL.of e1⟩
  · cases h
    obtain ⟨p, rfl, e1⟩ := r
    exact ⟨p, rfl, Sm.sqL (Sm.of sub) e1⟩
  · cases h
theorem foldmax_ok : ∀ (xs : List Int) (x : Int), (xs.foldl (fun m y => if y > m then y else m) x) ∈ x :: xs ∧ ∀ y ∈ x :: xs, y ≤ xs.foldl (fun m y => if y > m then y else m) x
  | [], x => by simp
  | z :: xs, x => by
    rw [List.foldl_cons]
    obtain ⟨h1, h2⟩ := foldmax_ok xs (if z > x then z else x)
    by_cases c : z > x
    · rw [if_pos c] at h1 h2 ⊢
      refine ⟨List.mem_cons_of_mem _ h1, fun y hy => ?_⟩
      rcases List.mem_cons.mp hy with e | hy
      · subst e
        exact Int.le_trans (Int.le_of_lt c) (h2 z List.mem_cons_self)
      · exact h2 y hy
    · rw [if_neg c] at h1 h2 ⊢
      refine ⟨?_, fun y hy => ?_⟩
      · rcases List.mem_cons.mp h1 with e | e
        · rw [e]; exact List.mem_cons_self
        · exact List.mem_cons_of_mem _ (List.mem_cons_of_mem _ e)
      · rcases List.mem_cons.mp hy with e | hy
        · subst e; exact h2 y List.mem_cons_self
        · rcases List.mem_cons.mp hy with e | hy
          · subst e
            exact Int.le_trans (by omega) (h2 x List.mem_cons_self)
          · exact h2 y (List.mem_cons_of_mem _ hy)
theorem foldmin_ok : ∀ (xs : List Int) (x : Int), (xs.foldl (fun m y => if y < m then y else m) x) ∈ x :: xs ∧ ∀ y ∈ x :: xs, xs.foldl (fun m y => if y < m then y else m) x ≤ y
  | [], x => by simp
  | z :: xs, x => by
    rw [List.foldl_cons]
    obtain ⟨h1, h2⟩ := foldmin_ok xs (if z < x then z else x)
    by_cases c : z < x
    · rw [if_pos c] at h1 h2 ⊢
      refine ⟨List.mem_cons_of_mem _ h1, fun y hy => ?_⟩
      rcases List.mem_cons.mp hy with e | hy
      · subst e
        exact Int.le_trans (h2 z List.mem_cons_self) (Int.le_of_lt c)
      · exact h2 y hy
    · rw [if_neg c] at h1 h2 ⊢
      refine ⟨?_, fun y hy => ?_⟩
      · rcases List.mem_cons.mp h1 with e | e
        · rw [e]; exact List.mem_cons_self
        · exact List.mem_cons_of_mem _ (List.mem_cons_of_mem _ e)
      · rcases List.mem_cons.mp hy with e | hy
        · subst e; exact h2 y List.mem_cons_self
        · rcases List.mem_cons.mp hy with e | hy
          · subst e
            exact Int.le_trans (h2 x List.mem_cons_self) (by omega)
          · exact h2 y (List.mem_cons_of_mem _ hy)
theorem maxI_ok {xs : List Int} {m : Int} (h : maxI xs = some m) : m ∈ xs ∧ ∀ y ∈ xs, y ≤ m := by
  cases xs with
  | nil => cases h
  | cons x xs =>
    have := foldmax_ok xs x
    rw [Option.some.inj h] at this
    exact this
theorem minI_ok {xs : List Int} {m : Int} (h : minI xs = some m) : m ∈ xs ∧ ∀ y ∈ xs, m ≤ y := by
  cases xs with
  | nil => cases h
  | cons x xs =>
    have := foldmin_ok xs x
    rw [Option.some.inj h] at this
    exact this
theorem b_maxL (hc : X.calm = true) : CallR X (.builtin "max") (rOp X.K g .maxL) := CallR.imp (cr_max (X := X) hc) fun xs H Q h => by
  refine rop1 h (one_of (f := fun a => match intsOf a with | some xs => (maxI xs).map fun i => .sh (.int i) | none => none) fun ds => by
    cases ds with
    | nil => rfl
    | cons a t => cases t <;> rfl) fun S d x w ex sub hp e q => ?_
  subst ex
  replace e : (match intsOf d with | some xs => (maxI xs).map fun i => W.sh (.int i) | none => none) = some w := e
  split at e
  · rename_i is e1
    obtain ⟨m, em, rfl⟩ := Option.map_eq_some_iff.mp e
    obtain ⟨a, rfl, hs⟩ := intsOf_ok sub e1 hp
    obtain ⟨m1, m2⟩ := maxI_ok em
    refine ⟨a, is, rfl, hs, List.length_pos_of_mem m1, fun m' h1 h2 => ?_⟩
    have : m' = m := Int.le_antisymm (m2 m' h1) (h2 m m1)
    subst this
    exact vint sub q
  · cases e
theorem b_minL (hc : X.calm = true) : CallR X (.builtin "min") (rOp X.K g .minL) := CallR.imp (cr_min (X := X) hc) fun xs H Q h => by
  refine rop1 h (one_of (f := fun a => match intsOf a with | some xs => (minI xs).map fun i => .sh (.int i) | none => none) fun ds => by
    cases ds with
    | nil => rfl
    | cons a t => cases t <;> rfl) fun S d x w ex sub hp e q => ?_
  subst ex
  replace e : (match intsOf d with | some xs => (minI xs).map fun i => W.sh (.int i) | none => none) = some w := e
  split at e
  · rename_i is e1
    obtain ⟨m, em, rfl⟩ := Option.map_eq_some_iff.mp e
    obtain ⟨a, rfl, hs⟩ := intsOf_ok sub e1 hp
    obtain ⟨m1, m2⟩ := minI_ok em
    refine ⟨a, is, rfl, hs, List.length_pos_of_mem m1, fun m' h1 h2 => ?_⟩
    have : m' = m := Int.le_antisymm (h2 m m1) (m2 m' h1)
    subst this
    exact vint sub q
  · cases e
theorem b_sum (hc : X.calm = true) : CallR X (.builtin "sum") (rOp X.K g .sum) := CallR.imp (cr_sum (X := X) hc) fun xs H Q h => by
  refine rop1 h (one_of (f := fun a => (intsOf a).map fun xs => .sh (.int xs.sum)) fun ds => by
    cases ds with
    | nil => rfl
    | cons a t => cases t <;> rfl) fun S d x w ex sub hp e q => ?_
  subst ex
  obtain ⟨is, e1, rfl⟩ := Option.map_eq_some_iff.mp (show (intsOf d).map _ = some w from e)
  obtain ⟨a, rfl, hs⟩ := intsOf_ok sub e1 hp
  exact ⟨a, is, rfl, hs, vint sub q⟩
theorem insI_perm (x : Int) : ∀ ys : List Int, (insI x ys).Perm (x :: ys)
  | [] => .refl _
  | y :: ys => by
    unfold insI
    split
    · exact .refl _
    · exact ((insI_perm x ys).cons y).trans (.swap x y ys)
theorem sortI_perm : ∀ xs : List Int, (sortI xs).Perm xs
  | [] => .refl _
  | x :: xs => (insI_perm x (sortI xs)).trans ((sortI_perm xs).cons x)
theorem insI_sorted (x : Int) : ∀ ys : List Int, ys.Pairwise (· ≤ ·) → (insI x ys).Pairwise (· ≤ ·)
  | [], _ => by simp [insI]
  | y :: ys, h => by
    obtain ⟨h1, h2⟩ := List.pairwise_cons.mp h
    unfold insI
    split
    · rename_i c
      refine List.pairwise_cons.mpr ⟨fun z hz => ?_, h⟩
      rcases List.mem_cons.mp hz with e | hz
      · subst e; exact c
      · exact Int.le_trans c (h1 z hz)
    · rename_i c
      refine List.pairwise_cons.mpr ⟨fun z hz => ?_, insI_sorted x ys h2⟩
      rcases List.mem_cons.mp ((insI_perm x ys).mem_iff.mp hz) with e | hz
      · subst e; omega
      · exact h1 z hz
theorem sortI_sorted : ∀ xs : List Int, (sortI xs).Pairwise (· ≤ ·)
  | [] => .nil
  | x :: xs => insI_sorted x _ (sortI_sorted xs)
theorem b_sortedL : CallR X (.builtin "sorted") (fun xs H Q => ∃ S d is x, xs = [x] ∧ (∀ a u, S a = some u → H a = some u) ∧ PD X.K g S H d x ∧ intsOf d = some is ∧ FinW X.K g S H (.oL ((sortI is).map .int)) Q) := CallR.imp (cr_sortedI (X := X)) fun xs H Q h => by
  obtain ⟨S, d, is, x, rfl, sub, hp, e, q⟩ := h
  obtain ⟨a, rfl, hs⟩ := intsOf_ok sub e hp
  refine ⟨a, is, rfl, hs, fun ns' p hp1 hp2 hn => ?_⟩
  have : ns' = sortI is := PySem.W.ksm_same (hp1.trans (sortI_perm is).symm) hp2 (sortI_sorted is)
  subst this
  exact q.newL sub hn (RDs.ints _)
theorem b_all (hc : X.calm = true) : CallR X (.builtin "all") (rOp X.K g .all) := CallR.imp (cr_all (X := X) hc) fun xs H Q h => by
  refine rop1 h (one_of (f := fun a => match a.lst? with | some l => (boolsD l).map fun bs => .sh (.bl (bs.all id)) | none => none) fun ds => by
    cases ds with
    | nil => rfl
    | cons a t => cases t <;> rfl) fun S d x w ex sub hp e q => ?_
  subst ex
  replace e : (match d.lst? with | some l => (boolsD l).map fun bs => W.sh (.bl (bs.all id)) | none => none) = some w := e
  split at e
  · rename_i l e1
    cases lst?_inv e1
    obtain ⟨bs, e2, rfl⟩ := Option.map_eq_some_iff.mp e
    obtain ⟨p, vs, rfl, e3, r⟩ := hp
    rw [boolsD_ok e2 r] at e3
    exact ⟨p, bs, rfl, SqL.of e3, vbl sub q⟩
  · cases e
theorem b_any (hc : X.calm = true) : CallR X (.builtin "any") (rOp X.K g .any) := CallR.imp (cr_any (X := X) hc) fun xs H Q h => by
  refine rop1 h (one_of (f := fun a => match a.lst? with | some l => (boolsD l).map fun bs => .sh (.bl (bs.any id)) | none => none) fun ds => by
    cases ds with
    | nil => rfl
    | cons a t => cases t <;> rfl) fun S d x w ex sub hp e q => ?_
  subst ex
  replace e : (match d.lst? with | some l => (boolsD l).map fun bs => W.sh (.bl (bs.any id)) | none => none) = some w := e
  split at e
  · rename_i l e1
    cases lst?_inv e1
    obtain ⟨bs, e2, rfl⟩ := Option.map_eq_some_iff.mp e
    obtain ⟨p, vs, rfl, e3, r⟩ := hp
    rw [boolsD_ok e2 r] at e3
    exact ⟨p, bs, rfl, SqL.of e3, vbl sub q⟩
  · cases e
theorem keyTo_kV {K : PySem.W.Frag} {H : Hp} : ∀ ks : List Key, RDs K g H (ks.map keyTo) (ks.map kV)
  | [] => .nil
  | .inl i :: ks => .cons (show V.int i = V.int i from rfl) (keyTo_kV ks)
  | .inr s :: ks => .cons (show V.str s = V.str s from rfl) (keyTo_kV ks)
/-- list(d) of a dict that may be locked -/
theorem call_list_rdK (hc : X.calm = true) : CallR X (.type "list") (fun xs H Q => ∃ p kvs, xs = [.ref p] ∧ Rd H p (.dK kvs) ∧ ∀ q, H q = none → Q (.ref q) (upd H q (.lst (kvs.map fun kv => kV kv.1)))) := by
  intro pins s σ H xs us Q I r h
  obtain ⟨p, kvs, e, hk, q⟩ := h
  subst e
  obtain ⟨u, eu, rx⟩ := vals1 r
  subst eu
  obtain rfl : u = Value.ref p := rx
  obtain ⟨z, lo, vs, rk, hd⟩ := dk_rd I.hok hk
  obtain ⟨ep, hat⟩ := hd.dictAt
  have hl : kvs.length = vs.length := Paired.length rk
  refine PySem.W.kdl_call (PySem.W.kdl_dict (knd := mixKind X.prog X.w) (kvs := vs) (ep := ep) lo) (I.ok.hd hc) hat (by rw [← hl]; exact z) fun h' tk acc' c' hkeep hS hacc => ?_
  refine ⟨.ref s.heap.objs.size, upd H s.heap.objs.size (.lst (kvs.map fun kv => kV kv.1)), I.laid hkeep (Nat.le_refl _) (show ObjOk X.prog X.w _ _ _ (.lst (kvs.map fun kv => kV kv.1)) from ⟨?_, acc'.toList, c', ?_, ?_⟩), rfl, q _ (I.hok.fresh (Nat.le_refl _))⟩
  · rw [List.length_map]; exact z
  · have el : acc'.toList.length = acc'.size := by simp
    refine vals_of_at (by rw [List.length_map, el, hacc.1, hl]) fun j x w h1 h2 => ?_
    obtain ⟨k, y, hky, hi⟩ := hacc.2 j w (by rw [← Array.getElem?_toList]; exact h2)
    have e1 : (kvs.map (·.1))[j]? = some k := by
      rw [KV.keys rk, List.getElem?_map, hky] <;> rfl
    have e2 : (kvs.map fun kv => kV kv.1)[j]? = some (kV k) := by
      have e3 : (kvs.map fun kv => kV kv.1) = (kvs.map (·.1)).map kV := by rw [List.map_map] <;> rfl
      rw [e3, List.getElem?_map, e1] <;> rfl
    rw [e2] at h1
    cases h1
    exact keyIs_rel hi
  · rw [Array.toArray_toList]; exact hS
theorem b_list (hc : X.calm = true) : CallR X (.type "list") (rOp X.K g .list) := CallR.imp (CallR.or (call_list_of (X := X)) (call_list_rdK (X := X) hc)) fun xs H Q h => by
  refine rop1 h (one_of (f := fun a => match a with
    | .lst l => some (.oL l)
    | .tup l => some (.oL l)
    | .dK ks _ => some (.oL (ks.map keyTo))
    | _ => none) fun ds => by
    cases ds with
    | nil => rfl
    | cons a t => cases t <;> rfl) fun S d x w ex sub hp e q => ?_
  subst ex
  cases d with
  | lst l =>
    have e := Option.some.inj e
    subst e
    obtain ⟨p, vs, rfl, e1, r⟩ := hp
    exact .inl ⟨p, vs, rfl, .inl (SqL.of e1), fun l' hl => q.newL sub hl r⟩
  | tup l =>
    have e := Option.some.inj e
    subst e
    obtain ⟨p, vs, rfl, e1, r⟩ := hp
    exact .inl ⟨p, vs, rfl, .inr (SqT.of (sub _ _ e1)), fun l' hl => q.newL sub hl r⟩
  | dK ks vs =>
    have e := Option.some.inj e
    subst e
    obtain ⟨p, kvs, rfl, e1, e2, r⟩ := hp
    subst e2
    refine .inr ⟨p, kvs, rfl, e1, fun l' hl => ?_⟩
    have := q.newL sub hl (keyTo_kV _)
    rwa [List.map_map] at this
  | _ => cases e
end
end Rf

namespace Rf
open PySem L2 PyProof.Rows

/-- operands' values: known ones, slots -/
inductive PvR (K : PySem.W.Frag) (g : G) (S : Hp) (σ : L2.St) : Pv → V → Prop
  | val {d : D} {v : V} : RD K g S d v → PvR K g S σ (.val d) v
  | var {i : Nat} {v : V} : σ[i]? = some (some v) → PvR K g S σ (.var i) v
inductive PvRs (K : PySem.W.Frag) (g : G) (S : Hp) (σ : L2.St) : List Pv → List V → Prop
  | nil : PvRs K g S σ [] []
  | cons {p : Pv} {v : V} {ps : List Pv} {vs : List V} : PvR K g S σ p v → PvRs K g S σ ps vs → PvRs K g S σ (p :: ps) (v :: vs)

section
variable (K : PySem.W.Frag) (g : G) (Wx : WX)
def tPs (r : Env → R (List Pv)) : TA := fun σ H Q => ∃ env S ft, Rel K g env S σ H ft ∧ match r env with
  | .ok ps env' => ∀ vs S' H' ft', Rel K g env' S' σ H' ft' → Step S H ft.own S' H' ft'.own → PvRs K g S' σ ps vs → Q vs H'
  | .exc x env' => ∀ cls dx S' H' ft', Rel K g env' S' σ H' ft' → Step S H ft.own S' H' ft'.own → RX K g S' x cls dx → Wx cls dx σ H'
  | .bad => False
def tO (E : Ev) : TE := match E.pk with
  | .var i => tVar i
  | _ => tE K g Wx E.e
end

structure Snd (X : Cx) (g : G) (Wx : WX) (e : Expr) (E : Ev) : Prop where
  pw : PE X e (tW X.K g Wx E.w)
  pt : PT X e (tT X.K g Wx E.t)
  pv : ∀ i, E.pk = .var i → PE X e (tVar i) ∧ E.w = moveAt i ∧ E.t = truthAt i
  ns : ∀ es env, starEach (e :: es) env = (false, eval e env) :: starEach es env

section
variable {X : Cx} {g : G} {Wx : WX} {K : PySem.W.Frag} {S H S' H' : Hp} {ft ft' : Ft} {env env' : Env} {σ : L2.St}

theorem Rel.pushSh (R : Rel K g env S σ H ft) {d : D} {v : V} (h : RD K g S d v) : ∃ ft', Rel K g (env ++ [some (.sh d)]) S (σ ++ [some v]) H ft' ∧ ∀ a, ft'.own a → ft.own a :=
  ⟨ft.put env.length [], R.push (w := .sh d) (l := []) ⟨rfl, h⟩ List.nodup_nil (fun _ a ha => by cases ha) (fun a ha => by cases ha), fun a ⟨j, hj⟩ => by
    by_cases q : j = env.length
    · subst q; rw [Ft.put_self] at hj; cases hj
    · rw [Ft.put_ne q] at hj; exact ⟨j, hj⟩⟩
theorem Rel.dropF {o : Option W} {v : Option V} (R : Rel K g (env ++ [o]) S (σ ++ [v]) H ft) : ∃ ft', Rel K g env S σ H ft' ∧ ∀ a, ft'.own a → ft.own a := ⟨_, R.drop, fun a => off_own⟩
theorem truth_ok {w : W} {v : V} {l : List Addr} {k : Bool} (sub : ∀ a o, S a = some o → H a = some o) (r : RW K g S H w v l) (h : w.truth = some k) : TruV K v H k := by
  cases w with
  | sh d =>
    have r := r.2
    cases d with
    | non => cases (show v = .non from r); cases h; rfl
    | bl b => cases (show v = .bl b from r); cases h; rfl
    | int i => cases (show v = .int i from r); cases h; rfl
    | str s =>
      cases (show v = .str s from r)
      obtain ⟨c, e⟩ := iteS (show (if s.length ≤ lim then some _ else none) = some k from h)
      exact ⟨by rw [slim]; exact c, e.symm⟩
    | lst l =>
      obtain ⟨a, vs, rfl, e, r⟩ := r
      cases h
      refine .inl ⟨vs, SqL.of (sub _ _ e), ?_⟩
      have := r.length
      cases l <;> cases vs <;> simp at this <;> rfl
    | tup l =>
      obtain ⟨a, vs, rfl, e, r⟩ := r
      cases h
      refine .inr (.inl ⟨vs, SqT.of (sub _ _ e), ?_⟩)
      have := r.length
      cases l <;> cases vs <;> simp at this <;> rfl
    | _ => cases h
  | oL l =>
    obtain ⟨a, vs, rfl, _, e, r⟩ := r
    cases h
    refine .inl ⟨vs, SqL.of e, ?_⟩
    have := r.length
    cases l <;> cases vs <;> simp at this <;> rfl
  | _ => cases h

/-- as a tree -/
theorem Snd.pe {e : Expr} {E : Ev} (h : Snd X g Wx e E) : PE X e (tE X.K g Wx E.e) := by
  cases q : E.pk with
  | var i =>
    refine PE.imp (h.pv i q).1 fun σ H Q ⟨env, S, ft, R, m⟩ => ?_
    unfold Ev.e at m
    rw [q] at m
    simp only [shareAt] at m
    split at m
    · rename_i d e1
      split at e1
      · rename_i d' e2
        cases e1
        obtain ⟨v, e3, r⟩ := R.sh e2
        exact ⟨v, e3, m v S H ft R .refl r⟩
      · rename_i w e2 e3
        cases e1
        obtain ⟨R1, v, e4, r⟩ := R.share e3
        exact ⟨v, e4, m v _ H _ R1 (Step.share R) r⟩
      · cases e1
    · rename_i x e1
      split at e1 <;> cases e1
    · exact m.elim
  | no =>
    refine PE.imp h.pw fun σ H Q ⟨env, S, ft, R, m⟩ => ⟨env, S, ft, R, ?_⟩
    unfold Ev.e at m
    rw [q] at m
    simp only at m
    cases e1 : E.w env with
    | ok w env' =>
      rw [e1] at m
      intro v S' H' ft' R' st
      obtain ⟨R2, r⟩ := R'.shareLast
      exact m v _ H' _ R2 (st.trans (Step.share R')) r
    | exc x env' => rw [e1] at m; exact m
    | bad => rw [e1] at m; exact m
  | fld i f =>
    refine PE.imp h.pw fun σ H Q ⟨env, S, ft, R, m⟩ => ⟨env, S, ft, R, ?_⟩
    unfold Ev.e at m
    rw [q] at m
    simp only at m
    cases e1 : E.w env with
    | ok w env' =>
      rw [e1] at m
      intro v S' H' ft' R' st
      obtain ⟨R2, r⟩ := R'.shareLast
      exact m v _ H' _ R2 (st.trans (Step.share R')) r
    | exc x env' => rw [e1] at m; exact m
    | bad => rw [e1] at m; exact m
theorem Snd.po {e : Expr} {E : Ev} (h : Snd X g Wx e E) : PE X e (tO X.K g Wx E) := by
  unfold tO
  split
  · rename_i i q
    exact (h.pv i q).1
  · exact h.pe
theorem PvR.mono {p : Pv} {v : V} (h : PvR K g S σ p v) (sm : Sm S S') : PvR K g S' σ p v := by
  cases h with
  | val r => exact .val (RD.mono sm _ _ r)
  | var e => exact .var e
/-- operands, one after another -/
theorem runP_cons {E : Ev} {Es : List Ev} {Q : List V → Hp → Prop} (h : tPs K g Wx (runP (E :: Es)) σ H Q) : tO K g Wx E σ H fun x H1 => tPs K g Wx (runP Es) σ H1 fun xs H2 => Q (x :: xs) H2 := by
  obtain ⟨env, S, ft, R, m⟩ := h
  unfold runP at m
  unfold tO
  cases q : E.pk with
  | var i =>
    rw [q] at m
    simp only at m
    cases e0 : env[i]? with
    | none => rw [e0] at m; exact m.elim
    | some o =>
      cases o with
      | none => rw [e0] at m; exact m.elim
      | some w =>
        rw [e0] at m
        simp only at m
        obtain ⟨v, e1, _⟩ := R.slot i w e0
        refine ⟨v, e1, env, S, ft, R, ?_⟩
        cases e2 : runP Es env with
        | ok ps env' =>
          rw [e2] at m
          intro vs S' H' ft' R' st r
          exact m (v :: vs) S' H' ft' R' st (.cons (.var e1) r)
        | exc x env' => rw [e2] at m; exact m
        | bad => rw [e2] at m; exact m
  | no =>
    rw [q] at m
    simp only at m
    refine ⟨env, S, ft, R, ?_⟩
    cases e1 : E.e env with
    | ok d env1 =>
      rw [e1] at m
      simp only [Rf.R.bind_ok] at m
      intro v S1 H1 ft1 R1 st1 r1
      refine ⟨env1, S1, ft1, R1, ?_⟩
      cases e2 : runP Es env1 with
      | ok ps env' =>
        rw [e2] at m
        intro vs S' H' ft' R' st r
        exact m (v :: vs) S' H' ft' R' (st1.trans st) (.cons (.val (RD.mono st.same _ _ r1)) r)
      | exc x env' =>
        rw [e2] at m
        intro cls dx S' H' ft' R' st rx
        exact m cls dx S' H' ft' R' (st1.trans st) rx
      | bad => rw [e2] at m; exact m
    | exc x env' => rw [e1] at m; exact m
    | bad => rw [e1] at m; exact m
  | fld i f =>
    rw [q] at m
    simp only at m
    refine ⟨env, S, ft, R, ?_⟩
    cases e1 : E.e env with
    | ok d env1 =>
      rw [e1] at m
      simp only [Rf.R.bind_ok] at m
      intro v S1 H1 ft1 R1 st1 r1
      refine ⟨env1, S1, ft1, R1, ?_⟩
      cases e2 : runP Es env1 with
      | ok ps env' =>
        rw [e2] at m
        intro vs S' H' ft' R' st r
        exact m (v :: vs) S' H' ft' R' (st1.trans st) (.cons (.val (RD.mono st.same _ _ r1)) r)
      | exc x env' =>
        rw [e2] at m
        intro cls dx S' H' ft' R' st rx
        exact m cls dx S' H' ft' R' (st1.trans st) rx
      | bad => rw [e2] at m; exact m
    | exc x env' => rw [e1] at m; exact m
    | bad => rw [e1] at m; exact m
theorem runP_nil {Q : List V → Hp → Prop} (h : tPs K g Wx (runP []) σ H Q) : Q [] H := by
  obtain ⟨env, S, ft, R, m⟩ := h
  exact m [] S H ft R .refl .nil
theorem tO_mono {E : Ev} {Q Q' : VK} (h : tO K g Wx E σ H Q) (w : ∀ v H, Q v H → Q' v H) : tO K g Wx E σ H Q' := by
  have key : tE K g Wx E.e σ H Q → tE K g Wx E.e σ H Q' := fun ⟨env, S, ft, R, m⟩ => by
    refine ⟨env, S, ft, R, ?_⟩
    cases e : E.e env with
    | ok d env' =>
      rw [e] at m
      exact fun v S' H' ft' R' st r => w _ _ (m v S' H' ft' R' st r)
    | exc x env' => rw [e] at m; exact m
    | bad => rw [e] at m; exact m
  unfold tO at h ⊢
  cases q : E.pk with
  | var i =>
    rw [q] at h
    obtain ⟨v, e, q⟩ := h
    exact ⟨v, e, w _ _ q⟩
  | no => rw [q] at h; exact key h
  | fld i f => rw [q] at h; exact key h
theorem runP1 {A : Ev} {Q : List V → Hp → Prop} (h : tPs K g Wx (runP [A]) σ H Q) : tO K g Wx A σ H fun x H1 => Q [x] H1 :=
  tO_mono (runP_cons h) fun x H1 q => runP_nil q
theorem runP2 {A B : Ev} {Q : List V → Hp → Prop} (h : tPs K g Wx (runP [A, B]) σ H Q) : tO K g Wx A σ H fun x H1 => tO K g Wx B σ H1 fun y H2 => Q [x, y] H2 :=
  tO_mono (runP_cons h) fun x H1 q => runP1 q
theorem runP3 {A B F : Ev} {Q : List V → Hp → Prop} (h : tPs K g Wx (runP [A, B, F]) σ H Q) : tO K g Wx A σ H fun x H1 => tO K g Wx B σ H1 fun y H2 => tO K g Wx F σ H2 fun z H3 => Q [x, y, z] H3 :=
  tO_mono (runP_cons h) fun x H1 q => runP2 q
/-- expressions in a row -/
inductive Snds (X : Cx) (g : G) (Wx : WX) : List Expr → List Ev → Prop
  | nil : Snds X g Wx [] []
  | cons {e : Expr} {E : Ev} {es : List Expr} {Es : List Ev} : Snd X g Wx e E → Snds X g Wx es Es → Snds X g Wx (e :: es) (E :: Es)
/-- .. as arguments -/
theorem pa_ops {es : List Expr} {Es : List Ev} (h : Snds X g Wx es Es) : PA X es (tPs X.K g Wx (runP Es)) := by
  induction h with
  | nil => exact ⟨fun pos pins s σ H Q I q => (pa_nil (X := X)).run pos pins s σ H Q I (runP_nil q)⟩
  | cons h1 h2 ih => exact ⟨fun pos pins s σ H Q I q => (pa_cons h1.po ih (h1.ns _ _)).run pos pins s σ H Q I (runP_cons q)⟩

/-- operands looked at -/
theorem pds_of (R : Rel K g env S σ H ft) : ∀ {ps : List Pv} {vs : List V} {ds : List D}, PvRs K g S σ ps vs → resAll env ps = some ds → PDs K g S H ds vs
  | [], _, ds, .nil, h => by
    have : ([] : List D) = ds := by simpa [resAll] using h
    subst this; exact .nil
  | p :: ps, v :: vs, ds, .cons r rs, h => by
    unfold resAll at h
    split at h
    · rename_i d es e1 e2
      have : d :: es = ds := by simpa using h
      subst this
      refine .cons ?_ (pds_of R rs e2)
      cases r with
      | val r =>
        have e1 := Option.some.inj e1
        subst e1
        exact PD.of R.sub r
      | @var i v e =>
        unfold Pv.res at e1
        simp only at e1
        split at e1
        · rename_i w e3
          obtain ⟨u, e4, rw'⟩ := R.slot i w e3
          rw [e] at e4
          cases e4
          exact RW.peek R.sub rw' e1
        · cases e1
    · cases h
theorem peek_frz {w : W} {d : D} (h : w.peek = some d) : w.frz = d := by
  cases w <;> first | (simp [W.peek] at h; done) | (simp only [W.peek, Option.some.injEq] at h; rw [W.frz]; exact h)
theorem res_share {env : Env} {i : Nat} {w : W} {d : D} (h : env[i]? = some (some w)) (hw : w.peek = some d) : ∀ ps, resAll (env.set i (some (.sh w.frz))) ps = resAll env ps
  | [] => rfl
  | p :: ps => by
    have e : p.res (env.set i (some (.sh w.frz))) = p.res env := by
      cases p with
      | val d => rfl
      | var j =>
        unfold Pv.res
        show (match (env.set i (some (.sh w.frz)))[j]? with
          | some (some w) => w.peek
          | _ => none) = (match env[j]? with
          | some (some w) => w.peek
          | _ => none)
        by_cases q : i = j
        · subst q
          rw [List.getElem?_set_self (List.getElem?_eq_some_iff.mp h).1, h]
          show some w.frz = w.peek
          rw [hw, peek_frz hw]
        · rw [List.getElem?_set_ne q]
    unfold resAll
    rw [e, res_share h hw ps]
/-- operands shared -/
theorem share_all : ∀ {ps : List Pv} {vs : List V} {ds : List D} {env : Env} {S : Hp} {ft : Ft}, Rel K g env S σ H ft → PvRs K g S σ ps vs → resAll env ps = some ds →
    ∃ S' ft', Rel K g (shareAll ps env) S' σ H ft' ∧ Step S H ft.own S' H ft'.own ∧ RDs K g S' ds vs
  | [], _, ds, env, S, ft, R, .nil, h => by
    have : ([] : List D) = ds := by simpa [resAll] using h
    subst this
    exact ⟨S, ft, R, .refl, RDs.nil⟩
  | p :: ps, v :: vs, ds, env, S, ft, R, .cons r rs, h => by
    have mono : ∀ {S' : Hp} {ps : List Pv} {vs : List V}, Sm S S' → PvRs K g S σ ps vs → PvRs K g S' σ ps vs := fun {S' ps vs} sm h => by
      induction h with
      | nil => exact .nil
      | cons a _ ih => exact .cons (a.mono sm) ih
    unfold resAll at h
    split at h
    · rename_i d es e1 e2
      have : d :: es = ds := by simpa using h
      subst this
      cases r with
      | @val d0 _ r =>
        have e1 : d0 = d := Option.some.inj e1
        subst e1
        obtain ⟨S', ft', R', st, rd⟩ := share_all R rs e2
        exact ⟨S', ft', R', st, .cons (RD.mono st.same _ _ r) rd⟩
      | @var i _ ev =>
        unfold Pv.res at e1
        simp only at e1
        cases e3 : env[i]? with
        | none => rw [e3] at e1; cases e1
        | some oo =>
          cases oo with
          | none => rw [e3] at e1; cases e1
          | some w =>
            rw [e3] at e1
            have e1 : w.peek = some d := e1
            unfold shareAll
            have own : (∀ d', w ≠ .sh d') → ∃ S' ft', Rel K g (shareAll ps (env.set i (some (.sh w.frz)))) S' σ H ft' ∧ Step S H ft.own S' H ft'.own ∧ RDs K g S' (d :: es) (v :: vs) := fun _ => by
              obtain ⟨R1, u, e4, rd⟩ := R.share e3
              rw [ev] at e4
              cases e4
              have st1 := Step.share R (i := i)
              obtain ⟨S', ft', R', st, rd'⟩ := share_all R1 (mono st1.same rs) (by rw [res_share e3 e1]; exact e2)
              rw [peek_frz e1] at rd
              exact ⟨S', ft', R', st1.trans st, .cons (RD.mono st.same _ _ rd) rd'⟩
            cases w with
            | sh d' =>
              simp only [e3]
              cases (show some d' = some d from e1)
              obtain ⟨S', ft', R', st, rd⟩ := share_all R rs e2
              obtain ⟨u, e4, r4⟩ := R.sh e3
              rw [ev] at e4
              cases e4
              exact ⟨S', ft', R', st, .cons (RD.mono st.same _ _ r4) rd⟩
            | oL l => simp only [e3]; exact own fun _ z => by cases z
            | oK a b => simp only [e3]; exact own fun _ z => by cases z
            | oT a b => simp only [e3]; exact own fun _ z => by cases z
            | oI a b c => cases e1
            | xn a b c => cases e1
    · cases h
/-- behind an answer -/
theorem fin_of (R : Rel K g env S σ H ft) {w : W} {Q : VK} (h : ∀ v S' H' ft', Rel K g (env ++ [some w]) S' (σ ++ [some v]) H' ft' → Step S H ft.own S' H' ft'.own → Q v H') : FinW K g S H w Q := by
  intro v S' H' l r nd fr sm hh sub gr
  have R1 := R.grow sm hh sub gr
  have dj : ∀ j a, a ∈ l → a ∉ ft j := fun j a ha hb => by
    obtain ⟨o, e⟩ := R.hasAt hb
    rw [(fr a ha).2] at e; cases e
  refine h v S' H' _ (R1.push r nd dj fun a ha => (fr a ha).1) ⟨sm, fun a o e _ => hh a o e, fun a ⟨j, hj⟩ => ?_, fun a o e => (gr a o e).imp id .inl, fun a o e => ⟨o, hh a o e⟩⟩
  by_cases q : j = env.length
  · subst q
    rw [Ft.put_self] at hj
    exact .inr (fr a hj).2
  · rw [Ft.put_ne q] at hj
    exact .inl ⟨j, hj⟩
/-- an operation without a call -/
theorem op_pure {o : Op} {Es : List Ev} {Q : VK} (h : tW K g Wx (fun env => (runP Es env).bind fun ps env1 => match resAll env1 ps with | some ds => (match opD o ds with | some w => .ok w env1 | none => .bad) | none => .bad) σ H Q) :
    tPs K g Wx (runP Es) σ H fun xs H' => rOp K g o xs H' Q := by
  obtain ⟨env, S, ft, R, m⟩ := h
  refine ⟨env, S, ft, R, ?_⟩
  dsimp only at m
  cases e : runP Es env with
  | ok ps env1 =>
    rw [e] at m
    simp only [Rf.R.bind_ok] at m
    intro vs S' H' ft' R' st r
    cases e2 : resAll env1 ps with
    | none => rw [e2] at m; exact m.elim
    | some ds =>
      rw [e2] at m
      simp only at m
      cases e3 : opD o ds with
      | none => rw [e3] at m; exact m.elim
      | some w =>
        rw [e3] at m
        exact ⟨S', ds, w, R'.sub, pds_of R' r e2, e3, fin_of R' fun v S2 H2 ft2 R2 st2 => m v S2 H2 ft2 R2 (st.trans st2)⟩
  | exc x env1 => rw [e] at m; exact m
  | bad => rw [e] at m; exact m
end
end Rf

namespace Rf
open PySem L2 PyProof.Rows

section
variable {X : Cx} {g : G} {Wx : WX} {Γ : Gam} {C : Call} {a b c e : Expr} {A B F E : Ev} {pos : Pos}

/-- a test of a value's truth -/
theorem pt_plain {r : Env → R W} (h : PE X e (tW X.K g Wx r)) (he : ∀ whole, isTrue e X.env whole = (do let v ← whole; standAt e.pos; holding [v] (truthy v))) : PT X e (tT X.K g Wx fun env => tOf (r env)) := by
  refine PT.imp (pt_truth h he) fun σ H Q ⟨env, S, ft, R, m⟩ => ⟨env, S, ft, R, ?_⟩
  cases e1 : r env with
  | ok w env' =>
    simp only [e1, tOf, Rf.R.bind_ok] at m
    intro v S' H' ft' R' st
    obtain ⟨u, e2, rw'⟩ := R'.last
    cases e2
    cases e3 : w.truth with
    | none => rw [e3] at m; exact m.elim
    | some k =>
      rw [e3] at m
      exact ⟨k, truth_ok R'.sub rw' e3, m S' H' _ R'.drop (st.post fun a => off_own)⟩
  | exc x env' => simp only [e1, tOf, Rf.R.bind_exc] at m; exact m
  | bad => simp only [e1, tOf, Rf.R.bind_bad] at m
theorem tT_bl {K : PySem.W.Frag} {r : Env → R W} (hb : ∀ env w env', r env = .ok w env' → ∃ k, w = .sh (.bl k)) {σ : L2.St} {H : Hp} {Q : Bool → Hp → Prop} (h : tT K g Wx (fun env => tOf (r env)) σ H Q) :
    tW K g Wx r σ H fun v H' => ∃ k, v = .bl k ∧ Q k H' := by
  obtain ⟨env, S, ft, R, m⟩ := h
  refine ⟨env, S, ft, R, ?_⟩
  dsimp only at m
  cases e1 : r env with
  | ok w env' =>
    rw [e1] at m
    obtain ⟨k, rfl⟩ := hb _ _ _ e1
    simp only [tOf, Rf.R.bind_ok, W.truth, D.truth] at m
    intro v S' H' ft' R' st
    obtain ⟨u, e2, rw'⟩ := R'.last
    cases e2
    exact ⟨k, rw'.2, m S' H' _ R'.drop (st.post fun a => off_own)⟩
  | exc x env' => rw [e1] at m; simp only [tOf, Rf.R.bind_exc] at m; exact m
  | bad => rw [e1] at m; simp only [tOf, Rf.R.bind_bad] at m

theorem s_var {i : Nat} {x : Str} (hN : X.N[i]? = some x) (hv : Vis X.env.scope x) (hd : (x == ("__debug__" : Str)) = false) (hcd : (x == ("__classdict__" : Str)) = false) : Snd X g Wx (.Name x pos) (ev Γ C (.var i)) := by
  have hp : PE X (.Name x pos) (tVar i) := pe_var hN hv hd hcd
  refine ⟨?_, ?_, fun j e => ?_, fun _ _ => rfl⟩
  · refine PE.imp hp fun σ H Q ⟨env, S, ft, R, m⟩ => ?_
    rw [ev] at m
    simp only [moveAt] at m
    split at m
    · rename_i w env' e1
      split at e1
      · rename_i d e2
        cases e1
        obtain ⟨v, e3, r⟩ := R.sh e2
        obtain ⟨ft', R', ho⟩ := R.pushSh r
        exact ⟨v, e3, m v S H ft' R' (Step.refl.post ho)⟩
      · rename_i e2 e3
        cases e1
        obtain ⟨v, e4, r⟩ := R.slot i w e3
        refine ⟨v, e4, m v S H _ ((R.lend i).push r (R.nd i) (fun j a ha hb => ?_) fun a ha => R.out i a ha) (Step.refl.post fun a ⟨j, hj⟩ => ?_)⟩
        · unfold Ft.off at hb
          split at hb
          · cases hb
          · rename_i q
            exact R.dj i j a (Ne.symm q) ha hb
        · by_cases q : j = (env.set i none).length
          · subst q; rw [Ft.put_self] at hj; exact ⟨i, hj⟩
          · rw [Ft.put_ne q] at hj; exact ⟨j, Ft.off_sub hj⟩
      · cases e1
    · rename_i x e1
      split at e1 <;> cases e1
    · exact m.elim
  · refine PT.imp (pt_truth hp fun _ => rfl) fun σ H Q ⟨env, S, ft, R, m⟩ => ?_
    rw [ev] at m
    simp only [truthAt] at m
    cases e1 : env[i]? with
    | none => rw [e1] at m; exact m.elim
    | some o =>
      cases o with
      | none => rw [e1] at m; exact m.elim
      | some w =>
        rw [e1] at m
        simp only at m
        obtain ⟨v, e2, r⟩ := R.slot i w e1
        cases e3 : w.truth with
        | none => rw [e3] at m; exact m.elim
        | some k =>
          rw [e3] at m
          exact ⟨v, e2, k, truth_ok R.sub r e3, m S H ft R .refl⟩
  · have : i = j := by rw [ev] at e; simpa using e
    subst this
    exact ⟨hp, by rw [ev], by rw [ev]⟩
/-- what gives one known shared value -/
theorem s_const {d : D} {v : V} (hp : PE X e (tC v)) (hr : ∀ S : Hp, RD X.K g S d v) (he : ∀ whole, isTrue e X.env whole = (do let v ← whole; standAt e.pos; holding [v] (truthy v))) (ns : ∀ es env, starEach (e :: es) env = (false, eval e env) :: starEach es env) :
    Snd X g Wx e (ev Γ C (.cst d)) := by
  have pw : PE X e (tW X.K g Wx (ev Γ C (.cst d)).w) := by
    refine PE.imp hp fun σ H Q ⟨env, S, ft, R, m⟩ => ?_
    rw [ev] at m
    obtain ⟨ft', R', ho⟩ := R.pushSh (hr S)
    exact m v S H ft' R' (Step.refl.post ho)
  refine ⟨pw, ?_, fun j q => ?_, ns⟩
  · have := pt_plain pw he
    rw [ev] at this ⊢
    exact this
  · rw [ev] at q; cases q
theorem s_int {i : Int} {j : Nat} : Snd X g Wx (.Constant (.int i) j pos) (ev Γ C (.cst (.int i))) := s_const pe_int (fun _ => rfl) (fun _ => rfl) fun _ _ => rfl
theorem s_bl {i : Bool} {j : Nat} : Snd X g Wx (.Constant (.bool i) j pos) (ev Γ C (.cst (.bl i))) := s_const pe_bl (fun _ => rfl) (fun _ => rfl) fun _ _ => rfl
theorem s_str {i : Str} {j : Nat} : Snd X g Wx (.Constant (.str i) j pos) (ev Γ C (.cst (.str i))) := s_const pe_str (fun _ => rfl) (fun _ => rfl) fun _ _ => rfl
theorem s_non {j : Nat} : Snd X g Wx (.Constant .none j pos) (ev Γ C (.cst .non)) := s_const pe_non (fun _ => rfl) (fun _ => rfl) fun _ _ => rfl

/-- from the value's reading, where the test is the value's truth -/
theorem s_plain {r : Env → R W} (h : PE X e (tW X.K g Wx r)) (he : ∀ whole, isTrue e X.env whole = (do let v ← whole; standAt e.pos; holding [v] (truthy v))) (ns : ∀ es env, starEach (e :: es) env = (false, eval e env) :: starEach es env) : Snd X g Wx e (mkEv r) :=
  ⟨h, pt_plain h he, fun j q => (by cases q), ns⟩

/-- an operation that no class answers -/
def Plain (Γ : Gam) (C : Call) (o : Op) : Prop := ∀ ds env, ownAns o ds = false ∧ evOp Γ C o ds env = match opD o ds with | some w => .ok w env | none => .bad
theorem opEv_plain {o : Op} (h : Plain Γ C o) (Es : List Ev) : opEv Γ C o Es = fun env => (runP Es env).bind fun ps env1 => match resAll env1 ps with | some ds => (match opD o ds with | some w => .ok w env1 | none => .bad) | none => .bad := by
  funext env
  unfold opEv
  congr 1
  funext ps env1
  cases resAll env1 ps with
  | none => rfl
  | some ds =>
    simp only [(h ds env1).1, Bool.false_eq_true, if_false]
    exact (h ds env1).2
theorem s_bin {o : Op} {bop : Operator} (hp : Plain Γ C o) (ho : OpR X (binaryOp bop) fun x y H Q => rOp X.K g o [x, y] H Q) (ha : Snd X g Wx a A) (hb : Snd X g Wx b B) : Snd X g Wx (.BinOp a bop b pos) (mkEv (opEv Γ C o [A, B])) := by
  refine s_plain ?_ (fun _ => rfl) fun _ _ => rfl
  rw [opEv_plain hp]
  exact PE.imp (pe_op ho ha.po hb.po) fun σ H Q h => runP2 (op_pure h)
theorem s_neg (hp : Plain Γ C .neg) (ha : Snd X g Wx a A) : Snd X g Wx (.UnaryOp .USub a pos) (mkEv (opEv Γ C .neg [A])) := by
  refine s_plain ?_ (fun _ => rfl) fun _ _ => rfl
  rw [opEv_plain hp]
  refine PE.imp (pe_un un_neg ha.po) fun σ H Q h => tO_mono (runP1 (op_pure h)) fun x H1 q => ?_
  refine rop1 q (one_of (f := fun a => match a.int? with | some i => some (.sh (.int (-i))) | none => none) fun ds => by
    cases ds with
    | nil => rfl
    | cons a t => cases t <;> rfl) fun S d y w ex sub hp e q => ?_
  cases ex
  replace e : (match d.int? with | some i => some (W.sh (.int (-i))) | none => none) = some w := e
  split at e
  · rename_i i e1
    cases int?_inv e1
    have e := Option.some.inj e
    subst e
    exact ⟨i, hp, vint sub q⟩
  · cases e
/-- operations whose answer is a bool -/
def Tells (o : Op) : Prop := ∀ ds w, opD o ds = some w → ∃ k, w = .sh (.bl k)
theorem s_cmp {o : Op} {op : CmpOp} (hp : Plain Γ C o) (hk : Tells o) (ho : OpR X (compareOp op) fun x y H Q => rOp X.K g o [x, y] H Q) (ha : Snd X g Wx a A) (hb : Snd X g Wx b B) (hm : behindInMarks op b = false) :
    Snd X g Wx (.Compare a [op] [b] pos) (mkEv (opEv Γ C o [A, B])) := by
  rw [opEv_plain hp]
  refine ⟨PE.imp (pe_cmpR ho ha.po hb.po hm) fun σ H Q h => runP2 (op_pure h), PT.imp (pt_cmpR ho ha.po hb.po hm) fun σ H Q h => ?_, fun j q => (by cases q), fun _ _ => rfl⟩
  refine runP2 (op_pure (tT_bl (fun env w env' e => ?_) h))
  cases e1 : runP [A, B] env with
  | ok ps env1 =>
    rw [e1] at e
    simp only [Rf.R.bind_ok] at e
    split at e
    · split at e
      · rename_i e2
        cases e
        exact hk _ _ e2
      · cases e
    · cases e
  | exc x env1 => rw [e1] at e; cases e
  | bad => rw [e1] at e; cases e

/-- the truth of a value, by the value's evaluation -/
theorem truth_run (ha : Snd X g Wx a A) {pins : List (Addr × Obj)} {s : Shared} {σ : L2.St} {H : Hp} {Q : Bool → Hp → Prop} (I : L2.Inv X pins σ H s) (h : tT X.K g Wx A.tv σ H Q) :
    wpAny (model X.prog X.w) X.A (eval a X.env) (fun v s₁ => wpAny (model X.prog X.w) X.A (truthy v) (TP X pins σ Q) X.xe s₁) X.xe s := by
  have fin : ∀ {t : TE}, PE X a t → t σ H (fun x H' => ∃ k, TruV X.K x H' k ∧ Q k H') → wpAny (model X.prog X.w) X.A (eval a X.env) (fun v s₁ => wpAny (model X.prog X.w) X.A (truthy v) (TP X pins σ Q) X.xe s₁) X.xe s := fun hp q =>
    thn (hp.run pins s σ H _ I q) fun v s1 ⟨x, H1, I1, r1, q1⟩ => tru_ok pins s1 σ H1 x v Q I1 r1 q1
  obtain ⟨env, S, ft, R, m⟩ := h
  have other : (match tOf (A.w env) with
      | .ok k env' => ∀ S' H' ft', Rel X.K g env' S' σ H' ft' → Step S H ft.own S' H' ft'.own → Q k H'
      | .exc x env' => ∀ cls dx S' H' ft', Rel X.K g env' S' σ H' ft' → Step S H ft.own S' H' ft'.own → RX X.K g S' x cls dx → Wx cls dx σ H'
      | .bad => False) → wpAny (model X.prog X.w) X.A (eval a X.env) (fun v s₁ => wpAny (model X.prog X.w) X.A (truthy v) (TP X pins σ Q) X.xe s₁) X.xe s := fun m => by
    refine fin ha.pw ⟨env, S, ft, R, ?_⟩
    cases e1 : A.w env with
    | ok w env' =>
      simp only [e1, tOf, Rf.R.bind_ok] at m
      intro v S' H' ft' R' st
      obtain ⟨u, e2, rw'⟩ := R'.last
      cases e2
      cases e3 : w.truth with
      | none => rw [e3] at m; exact m.elim
      | some k =>
        rw [e3] at m
        exact ⟨k, truth_ok R'.sub rw' e3, m S' H' _ R'.drop (st.post fun a => off_own)⟩
    | exc x env' => simp only [e1, tOf, Rf.R.bind_exc] at m; exact m
    | bad => simp only [e1, tOf, Rf.R.bind_bad] at m
  unfold Ev.tv at m
  cases q : A.pk with
  | var i =>
    rw [q] at m
    simp only at m
    -- the name's value, looked at
    obtain ⟨hp, _, ht⟩ := ha.pv i q
    rw [ht] at m
    simp only [truthAt] at m
    cases e1 : env[i]? with
    | none => rw [e1] at m; exact m.elim
    | some o =>
      cases o with
      | none => rw [e1] at m; exact m.elim
      | some w =>
        rw [e1] at m
        simp only at m
        obtain ⟨v, e2, r⟩ := R.slot i w e1
        cases e3 : w.truth with
        | none => rw [e3] at m; exact m.elim
        | some k =>
          rw [e3] at m
          exact fin hp ⟨v, e2, k, truth_ok R.sub r e3, m S H ft R .refl⟩
  | no => rw [q] at m; exact other m
  | fld i f => rw [q] at m; exact other m
theorem s_not (ha : Snd X g Wx a A) : Snd X g Wx (.UnaryOp .Not a pos) { w := fun env => (A.tv env).bind fun k env' => .ok (.sh (.bl (!k))) env', t := fun env => (A.t env).bind fun k env' => .ok (!k) env' } := by
  have hT : PT X (.UnaryOp .Not a pos) (tT X.K g Wx fun env => (A.t env).bind fun k env' => .ok (!k) env') := by
    refine PT.imp (pt_not ha.pt) fun σ H Q ⟨env, S, ft, R, m⟩ => ⟨env, S, ft, R, ?_⟩
    dsimp only at m
    cases e1 : A.t env with
    | ok k env' => rw [e1] at m; exact m
    | exc x env' => rw [e1] at m; exact m
    | bad => rw [e1] at m; exact m
  refine ⟨?_, hT, fun j q => (by cases q), fun _ _ => rfl⟩
  refine ⟨fun pins s σ H Q I h => ?_⟩
  refine UnaryOp_ (thn (truth_run (Q := fun k H' => Q (.bl (!k)) H') ha I ?_) fun v s1 h1 => not_of (thn h1 fun k s2 ⟨H2, I2, q⟩ => ⟨.bl (!k), H2, I2, rfl, q⟩))
  obtain ⟨env, S, ft, R, m⟩ := h
  refine ⟨env, S, ft, R, ?_⟩
  dsimp only at m
  cases e1 : A.tv env with
  | ok k env' =>
    rw [e1] at m
    simp only [Rf.R.bind_ok] at m
    intro S' H' ft' R' st
    obtain ⟨ft2, R2, ho⟩ := R'.pushSh (d := .bl (!k)) (v := .bl (!k)) rfl
    exact m _ S' H' ft2 R2 (st.post ho)
  | exc x env' => rw [e1] at m; exact m
  | bad => rw [e1] at m; exact m
end
end Rf

namespace Rf
open PySem L2 PyProof.Rows

section
variable {X : Cx} {g : G} {Wx : WX} {Γ : Gam} {C : Call} {a b c e : Expr} {A B F E : Ev} {es : List Expr} {Es : List Ev} {pos : Pos}

theorem tE_bind {K : PySem.W.Frag} {r : Env → R D} {f : D → Env → R W} {σ : L2.St} {H : Hp} {Q : VK} (h : tW K g Wx (fun env => (r env).bind f) σ H Q) :
    tE K g Wx r σ H fun v H1 => ∃ env S ft d, Rel K g env S σ H1 ft ∧ RD K g S d v ∧ match f d env with
      | .ok w env' => ∀ v S' H' ft', Rel K g (env' ++ [some w]) S' (σ ++ [some v]) H' ft' → Step S H1 ft.own S' H' ft'.own → Q v H'
      | .exc x env' => ∀ cls dx S' H' ft', Rel K g env' S' σ H' ft' → Step S H1 ft.own S' H' ft'.own → RX K g S' x cls dx → Wx cls dx σ H'
      | .bad => False := by
  obtain ⟨env, S, ft, R, m⟩ := h
  refine ⟨env, S, ft, R, ?_⟩
  dsimp only at m
  cases e1 : r env with
  | ok d env' =>
    rw [e1] at m
    simp only [Rf.R.bind_ok] at m
    intro v S' H' ft' R' st r'
    refine ⟨env', S', ft', d, R', r', ?_⟩
    cases e2 : f d env' with
    | ok w env2 => rw [e2] at m; exact fun v2 S2 H2 ft2 R2 st2 => m v2 S2 H2 ft2 R2 (st.trans st2)
    | exc x env2 => rw [e2] at m; exact fun cls dx S2 H2 ft2 R2 st2 => m cls dx S2 H2 ft2 R2 (st.trans st2)
    | bad => rw [e2] at m; exact m
  | exc x env' => rw [e1] at m; exact m
  | bad => rw [e1] at m; exact m
theorem tT_bind {α : Type} {K : PySem.W.Frag} {r : Env → R Bool} {f : Bool → Env → R α} {σ : L2.St} {H : Hp} {T : Hp → R α → Hp → Ft → Hp → Prop} {Q : Prop}
    (h : ∃ env S ft, Rel K g env S σ H ft ∧ T S ((r env).bind f) H ft H) : True := trivial
theorem tW_ite {K : PySem.W.Frag} {r : Env → R Bool} {f1 f2 : Env → R W} {σ : L2.St} {H : Hp} {Q : VK} (h : tW K g Wx (fun env => (r env).bind fun k env' => if k then f1 env' else f2 env') σ H Q) :
    tT K g Wx r σ H fun k H1 => if k = true then tW K g Wx f1 σ H1 Q else tW K g Wx f2 σ H1 Q := by
  obtain ⟨env, S, ft, R, m⟩ := h
  refine ⟨env, S, ft, R, ?_⟩
  dsimp only at m
  cases e1 : r env with
  | ok k env' =>
    rw [e1] at m
    simp only [Rf.R.bind_ok] at m
    intro S' H' ft' R' st
    cases k with
    | true =>
      simp only [if_true] at m ⊢
      refine ⟨env', S', ft', R', ?_⟩
      cases e2 : f1 env' with
      | ok w env2 => rw [e2] at m; exact fun v2 S2 H2 ft2 R2 st2 => m v2 S2 H2 ft2 R2 (st.trans st2)
      | exc x env2 => rw [e2] at m; exact fun cls dx S2 H2 ft2 R2 st2 => m cls dx S2 H2 ft2 R2 (st.trans st2)
      | bad => rw [e2] at m; exact m
    | false =>
      simp only [Bool.false_eq_true, if_false] at m ⊢
      refine ⟨env', S', ft', R', ?_⟩
      cases e2 : f2 env' with
      | ok w env2 => rw [e2] at m; exact fun v2 S2 H2 ft2 R2 st2 => m v2 S2 H2 ft2 R2 (st.trans st2)
      | exc x env2 => rw [e2] at m; exact fun cls dx S2 H2 ft2 R2 st2 => m cls dx S2 H2 ft2 R2 (st.trans st2)
      | bad => rw [e2] at m; exact m
  | exc x env' => rw [e1] at m; exact m
  | bad => rw [e1] at m; exact m
theorem tT_ite {K : PySem.W.Frag} {r : Env → R Bool} {f1 f2 : Env → R Bool} {σ : L2.St} {H : Hp} {Q : Bool → Hp → Prop} (h : tT K g Wx (fun env => (r env).bind fun k env' => if k then f1 env' else f2 env') σ H Q) :
    tT K g Wx r σ H fun k H1 => if k = true then tT K g Wx f1 σ H1 Q else tT K g Wx f2 σ H1 Q := by
  obtain ⟨env, S, ft, R, m⟩ := h
  refine ⟨env, S, ft, R, ?_⟩
  dsimp only at m
  cases e1 : r env with
  | ok k env' =>
    rw [e1] at m
    simp only [Rf.R.bind_ok] at m
    intro S' H' ft' R' st
    cases k with
    | true =>
      simp only [if_true] at m ⊢
      refine ⟨env', S', ft', R', ?_⟩
      cases e2 : f1 env' with
      | ok w env2 => rw [e2] at m; exact fun S2 H2 ft2 R2 st2 => m S2 H2 ft2 R2 (st.trans st2)
      | exc x env2 => rw [e2] at m; exact fun cls dx S2 H2 ft2 R2 st2 => m cls dx S2 H2 ft2 R2 (st.trans st2)
      | bad => rw [e2] at m; exact m
    | false =>
      simp only [Bool.false_eq_true, if_false] at m ⊢
      refine ⟨env', S', ft', R', ?_⟩
      cases e2 : f2 env' with
      | ok w env2 => rw [e2] at m; exact fun S2 H2 ft2 R2 st2 => m S2 H2 ft2 R2 (st.trans st2)
      | exc x env2 => rw [e2] at m; exact fun cls dx S2 H2 ft2 R2 st2 => m cls dx S2 H2 ft2 R2 (st.trans st2)
      | bad => rw [e2] at m; exact m
  | exc x env' => rw [e1] at m; exact m
  | bad => rw [e1] at m; exact m

theorem s_ite (hc : Snd X g Wx c F) (ha : Snd X g Wx a A) (hb : Snd X g Wx b B) : Snd X g Wx (.IfExp c a b pos) { w := fun env => (F.t env).bind fun k env' => if k then A.w env' else B.w env', t := fun env => (F.t env).bind fun k env' => if k then A.t env' else B.t env' } := by
  refine ⟨PE.imp (pe_ifExp hc.pt ha.pw hb.pw) fun σ H Q h => tW_ite h, ⟨fun pins s σ H Q I h => ?_⟩, fun j q => (by cases q), fun _ _ => rfl⟩
  refine isTrue_IfExp (thn (hc.pt.run pins s σ H _ I (tT_ite h)) fun k s1 ⟨H1, I1, q1⟩ => ?_)
  cases k with
  | true => exact ha.pt.run pins s1 σ H1 Q I1 q1
  | false => exact hb.pt.run pins s1 σ H1 Q I1 q1

theorem andT_nil {K : PySem.W.Frag} {σ : L2.St} {H : Hp} {Q : Bool → Hp → Prop} (h : tT K g Wx (andT []) σ H Q) : Q true H := by
  obtain ⟨env, S, ft, R, m⟩ := h
  exact m S H ft R .refl
theorem orT_nil {K : PySem.W.Frag} {σ : L2.St} {H : Hp} {Q : Bool → Hp → Prop} (h : tT K g Wx (orT []) σ H Q) : Q false H := by
  obtain ⟨env, S, ft, R, m⟩ := h
  exact m S H ft R .refl
theorem tT_mono {K : PySem.W.Frag} {r : Env → R Bool} {σ : L2.St} {H : Hp} {Q Q' : Bool → Hp → Prop} (h : tT K g Wx r σ H Q) (w : ∀ k H, Q k H → Q' k H) : tT K g Wx r σ H Q' := by
  obtain ⟨env, S, ft, R, m⟩ := h
  refine ⟨env, S, ft, R, ?_⟩
  cases e : r env with
  | ok k env' => rw [e] at m; exact fun S' H' ft' R' st => w _ _ (m S' H' ft' R' st)
  | exc x env' => rw [e] at m; exact m
  | bad => rw [e] at m; exact m
theorem tW_mono {K : PySem.W.Frag} {r : Env → R W} {σ : L2.St} {H : Hp} {Q Q' : VK} (h : tW K g Wx r σ H Q) (w : ∀ k H, Q k H → Q' k H) : tW K g Wx r σ H Q' := by
  obtain ⟨env, S, ft, R, m⟩ := h
  refine ⟨env, S, ft, R, ?_⟩
  cases e : r env with
  | ok k env' => rw [e] at m; exact fun v S' H' ft' R' st => w _ _ (m v S' H' ft' R' st)
  | exc x env' => rw [e] at m; exact m
  | bad => rw [e] at m; exact m
theorem tE_mono {K : PySem.W.Frag} {r : Env → R D} {σ : L2.St} {H : Hp} {Q Q' : VK} (h : tE K g Wx r σ H Q) (w : ∀ k H, Q k H → Q' k H) : tE K g Wx r σ H Q' := by
  obtain ⟨env, S, ft, R, m⟩ := h
  refine ⟨env, S, ft, R, ?_⟩
  cases e : r env with
  | ok k env' => rw [e] at m; exact fun v S' H' ft' R' st r => w _ _ (m v S' H' ft' R' st r)
  | exc x env' => rw [e] at m; exact m
  | bad => rw [e] at m; exact m
theorem pw_andT (h : Snds X g Wx es Es) (hne : es ≠ []) : PW X (.BoolOp .And es pos) (tT X.K g Wx (andT Es)) := by
  induction h with
  | nil => exact absurd rfl hne
  | @cons e E es Es h1 h2 ih =>
    cases h2 with
    | nil => exact ⟨fun wh pins s σ H Q I q => (pw_and1 h1.pt).run wh pins s σ H Q I (by
        have := tT_ite (f1 := andT []) (f2 := fun env => .ok false env) q
        refine tT_mono this fun k H1 z => ?_
        cases k with
        | true => exact andT_nil (Wx := Wx) (by rw [if_pos rfl] at z; exact z)
        | false => obtain ⟨env, S, ft, R, m⟩ := z; exact m S H1 ft R .refl)⟩
    | @cons e2 E2 es Es h3 h4 =>
      refine ⟨fun wh pins s σ H Q I q => (pw_and h1.pt (ih (by simp))).run wh pins s σ H Q I ?_⟩
      have := tT_ite (f1 := andT (E2 :: Es)) (f2 := fun env => .ok false env) q
      refine tT_mono this fun k H1 z => ?_
      cases k with
      | true => exact z
      | false => obtain ⟨env, S, ft, R, m⟩ := z; exact m S H1 ft R .refl
theorem pw_orT (h : Snds X g Wx es Es) (hne : es ≠ []) : PW X (.BoolOp .Or es pos) (tT X.K g Wx (orT Es)) := by
  induction h with
  | nil => exact absurd rfl hne
  | @cons e E es Es h1 h2 ih =>
    cases h2 with
    | nil => exact ⟨fun wh pins s σ H Q I q => (pw_or1 h1.pt).run wh pins s σ H Q I (by
        have := tT_ite (f1 := fun env => .ok true env) (f2 := orT []) q
        refine tT_mono this fun k H1 z => ?_
        cases k with
        | false => exact orT_nil (Wx := Wx) (by rw [if_neg Bool.false_ne_true] at z; exact z)
        | true => obtain ⟨env, S, ft, R, m⟩ := z; exact m S H1 ft R .refl)⟩
    | @cons e2 E2 es Es h3 h4 =>
      refine ⟨fun wh pins s σ H Q I q => (pw_or h1.pt (ih (by simp))).run wh pins s σ H Q I ?_⟩
      have := tT_ite (f1 := fun env => .ok true env) (f2 := orT (E2 :: Es)) q
      refine tT_mono this fun k H1 z => ?_
      cases k with
      | false => exact z
      | true => obtain ⟨env, S, ft, R, m⟩ := z; exact m S H1 ft R .refl
theorem pe_andV (h : Snds X g Wx es Es) (hne : es ≠ []) : PE X (.BoolOp .And es pos) (tW X.K g Wx (andV Es)) := by
  induction h with
  | nil => exact absurd rfl hne
  | @cons e E es Es h1 h2 ih =>
    cases h2 with
    | nil => exact pe_one h1.pw
    | @cons e2 E2 es Es h3 h4 =>
      refine PE.imp (pe_and h1.pe (ih (by simp))) fun σ H Q q => tE_mono (tE_bind q) fun v H1 ⟨env, S, ft, d, R, r, m⟩ => ?_
      split at m
      · rename_i w env' e1
        split at e1
        · exact ⟨true, r, by
            simp only [if_true]
            refine ⟨env, S, ft, R, ?_⟩
            rw [e1]; exact m⟩
        · cases e1
          refine ⟨false, r, ?_⟩
          simp only [Bool.false_eq_true, if_false]
          obtain ⟨ft2, R2, ho⟩ := R.pushSh (d := .bl false) (v := .bl false) rfl
          exact m _ S H1 ft2 R2 (Step.refl.post ho)
        · cases e1
      · rename_i x env' e1
        split at e1
        · exact ⟨true, r, by
            simp only [if_true]
            refine ⟨env, S, ft, R, ?_⟩
            rw [e1]; exact m⟩
        · cases e1
        · cases e1
      · exact m.elim
theorem pe_orV (h : Snds X g Wx es Es) (hne : es ≠ []) : PE X (.BoolOp .Or es pos) (tW X.K g Wx (orV Es)) := by
  induction h with
  | nil => exact absurd rfl hne
  | @cons e E es Es h1 h2 ih =>
    cases h2 with
    | nil => exact pe_one h1.pw
    | @cons e2 E2 es Es h3 h4 =>
      refine PE.imp (pe_or h1.pe (ih (by simp))) fun σ H Q q => tE_mono (tE_bind q) fun v H1 ⟨env, S, ft, d, R, r, m⟩ => ?_
      split at m
      · rename_i w env' e1
        split at e1
        · exact ⟨false, r, by
            simp only [Bool.false_eq_true, if_false]
            refine ⟨env, S, ft, R, ?_⟩
            rw [e1]; exact m⟩
        · cases e1
          refine ⟨true, r, ?_⟩
          simp only [if_true]
          obtain ⟨ft2, R2, ho⟩ := R.pushSh (d := .bl true) (v := .bl true) rfl
          exact m _ S H1 ft2 R2 (Step.refl.post ho)
        · cases e1
      · rename_i x env' e1
        split at e1
        · exact ⟨false, r, by
            simp only [Bool.false_eq_true, if_false]
            refine ⟨env, S, ft, R, ?_⟩
            rw [e1]; exact m⟩
        · cases e1
        · cases e1
      · exact m.elim
theorem s_and (h : Snds X g Wx es Es) (hne : es ≠ []) : Snd X g Wx (.BoolOp .And es pos) { w := andV Es, t := andT Es } := ⟨pe_andV h hne, (pw_andT h hne).pt, fun j q => (by cases q), fun _ _ => rfl⟩
theorem s_or (h : Snds X g Wx es Es) (hne : es ≠ []) : Snd X g Wx (.BoolOp .Or es pos) { w := orV Es, t := orT Es } := ⟨pe_orV h hne, (pw_orT h hne).pt, fun j q => (by cases q), fun _ _ => rfl⟩

def noSuper : Expr → Bool
  | .Call (.Name _ _) [] [] _ => false
  | _ => true
theorem attributeBase_of {o : Expr} {f : Str} {env : PySem.Env} {w : Sem Value} (h : noSuper o = true) : attributeBase o f env w = w := by
  unfold attributeBase
  split
  · exact absurd h (by simp [noSuper])
  · rfl
theorem lookFD_ok {K : PySem.W.Frag} {H : Hp} {f : Str} : ∀ {fs : List Str} {ds : List D} {vs : List V} {d : D}, RDs K g H ds vs → lookFD fs ds f = some d → ∃ v, (fs.zip vs).lookup f = some v ∧ RD K g H d v ∧ f ∈ fs
  | [], ds, vs, d, r, h => by cases ds <;> cases h
  | k :: fs, [], vs, d, r, h => by cases h
  | k :: fs, x :: ds, vs, d, r, h => by
    obtain ⟨v, us, rfl, r1, r2⟩ := r
    unfold lookFD at h
    by_cases q : k = f
    · rw [if_pos q] at h
      cases h
      subst q
      exact ⟨v, by simp [List.lookup], r1, List.mem_cons_self⟩
    · rw [if_neg q] at h
      obtain ⟨u, e1, e2, e3⟩ := lookFD_ok r2 h
      refine ⟨u, ?_, e2, List.mem_cons_of_mem _ e3⟩
      have hb : (f == k) = false := beq_eq_false_iff_ne.mpr (Ne.symm q)
      simp only [List.zip_cons_cons, List.lookup, hb]
      exact e1
theorem lookF_ok {K : PySem.W.Frag} {S H : Hp} {f : Str} : ∀ {fs : List Str} {ws : List W} {vs : List V} {l : List Addr} {w : W}, RWs K g S H ws vs l → lookF fs ws f = some w → ∃ v l', (fs.zip vs).lookup f = some v ∧ RW K g S H w v l' ∧ f ∈ fs
  | [], ds, vs, l, d, r, h => by cases ds <;> cases h
  | k :: fs, [], vs, l, d, r, h => by cases h
  | k :: fs, x :: ds, vs, l, d, r, h => by
    obtain ⟨v, us, l1, l2, rfl, _, r1, r2⟩ := r
    unfold lookF at h
    by_cases q : k = f
    · rw [if_pos q] at h
      cases h
      subst q
      exact ⟨v, l1, by simp [List.lookup], r1, List.mem_cons_self⟩
    · rw [if_neg q] at h
      obtain ⟨u, l', e1, e2, e3⟩ := lookF_ok r2 h
      refine ⟨u, l', ?_, e2, List.mem_cons_of_mem _ e3⟩
      have hb : (f == k) = false := beq_eq_false_iff_ne.mpr (Ne.symm q)
      simp only [List.zip_cons_cons, List.lookup, hb]
      exact e1
/-- the list in a field: shared from then on -/
theorem RWs.shareF {K : PySem.W.Frag} {S H : Hp} {f : Str} : ∀ {fs : List Str} {ws : List W} {vs : List V} {ft : List Addr} {l : List D}, RWs K g S H ws vs ft → ft.Nodup → (∀ a ∈ ft, S a = none) → lookF fs ws f = some (.oL l) → fs.length = vs.length →
    ∃ p us ft', (fs.zip vs).lookup f = some (.ref p) ∧ p ∈ ft ∧ H p = some (.lst us) ∧ RDs K g S l us ∧ f ∈ fs ∧ p ∉ ft' ∧ ft'.Nodup ∧ (∀ a ∈ ft', a ∈ ft) ∧ (putW f (.sh (.lst l)) fs ws).1 = fs ∧
      ∀ S' : Hp, Sm S S' → S' p = some (.lst us) → RWs K g S' H (putW f (.sh (.lst l)) fs ws).2 vs ft'
  | [], ws, vs, ft, l, r, nd, nS, h, hl => by cases ws <;> cases h
  | k :: fs, [], vs, ft, l, r, nd, nS, h, hl => by cases h
  | k :: fs, x :: ws, vs, ft, l, r, nd, nS, h, hl => by
    obtain ⟨v, us, l1, l2, rfl, rfl, r1, r2⟩ := r
    obtain ⟨n1, n2, n3⟩ := List.nodup_append.mp nd
    unfold lookF at h
    by_cases q : k = f
    · subst q
      rw [if_pos rfl] at h
      cases h
      obtain ⟨p, us0, rfl, rfl, e1, e2⟩ := r1
      refine ⟨p, us0, l2, by simp, by simp, e1, e2, by simp, fun z => n3 p (by simp) p z rfl, n2, fun a ha => List.mem_append_right _ ha, by simp [putW], fun S' sm hp => ?_⟩
      simp only [putW, if_true]
      exact ⟨_, us, [], l2, rfl, rfl, ⟨rfl, ⟨p, us0, rfl, hp, RDs.mono sm _ _ e2⟩⟩, RWs.move sm _ _ _ (fun b hb => rfl) r2⟩
    · rw [if_neg q] at h
      obtain ⟨p, us0, ft', e1, e2, e3, e4, e5, e6, e7, e8, e9, e10⟩ := RWs.shareF (fs := fs) r2 n2 (fun a ha => nS a (List.mem_append_right _ ha)) h (by simpa using hl)
      have hp1 : p ∉ l1 := fun z => n3 p z p e2 rfl
      have hq : (f == k) = false := by
        simpa using fun z : f = k => q z.symm
      refine ⟨p, us0, l1 ++ ft', ?_, List.mem_append_right _ e2, e3, e4, List.mem_cons_of_mem _ e5, ?_, ?_, fun a ha => ?_, by simp [putW, q, e9], fun S' sm hp => ?_⟩
      · rw [List.zip_cons_cons, List.lookup_cons, hq]; exact e1
      · exact fun z => (List.mem_append.mp z).elim hp1 e6
      · exact List.nodup_append.mpr ⟨n1, e7, fun a ha b hb => n3 a ha b (e8 b hb)⟩
      · exact (List.mem_append.mp ha).elim (List.mem_append_left _) fun z => List.mem_append_right _ (e8 a z)
      · simp only [putW, q, if_false]
        exact ⟨v, us, l1, ft', rfl, rfl, RW.move sm _ _ _ (fun b hb => rfl) r1, e10 S' sm hp⟩
theorem Rel.shareF {K : PySem.W.Frag} {S H : Hp} {env : Env} {σ : L2.St} {ft : Ft} {i c : Nat} {fs : List Str} {ws : List W} {f : Str} {l : List D} (R : Rel K g env S σ H ft) (h : env[i]? = some (some (.oI c fs ws))) (hf : lookF fs ws f = some (.oL l)) :
    ∃ a p dx vs S' ft', σ[i]? = some (some (.ref a)) ∧ H a = some (.ins (g.ca c) dx (fs.zip vs)) ∧ ClsOk K g c fs ∧ f ∈ fs ∧ (fs.zip vs).lookup f = some (.ref p) ∧ RD K g S' (.lst l) (.ref p) ∧
      Rel K g (env.set i (some (.oI c (putW f (.sh (.lst l)) fs ws).1 (putW f (.sh (.lst l)) fs ws).2))) S' σ H ft' ∧ Step S H ft.own S' H ft'.own := by
  obtain ⟨v, ev, r⟩ := R.slot i _ h
  obtain ⟨a, dx, vs, fl, rfl, ef, e1, e2, e3, e4⟩ := r
  have hi : i < env.length := (List.getElem?_eq_some_iff.mp h).1
  have nd := R.nd i
  rw [ef] at nd
  obtain ⟨na, ndl⟩ := List.nodup_cons.mp nd
  have oS : ∀ b ∈ ft i, S b = none := fun b hb => R.out i b hb
  obtain ⟨p, us, fl', k1, k2, k3, k4, k5, k6, k7, k8, k9, k10⟩ := RWs.shareF (f := f) e2 ndl (fun b hb => oS b (by rw [ef]; exact List.mem_cons_of_mem _ hb)) hf e3
  have pi : p ∈ ft i := by rw [ef]; exact List.mem_cons_of_mem _ k2
  have pa : p ≠ a := fun z => na (z ▸ k2)
  have sm : Sm S (addS S H [p]) := addS_same R.sub
  have hSp : addS S H [p] p = some (.lst us) := by rw [addS_in (by simp)]; exact k3
  refine ⟨a, p, dx, vs, addS S H [p], ft.put i (a :: fl'), ev, e1, e4, k5, k1, ⟨p, us, rfl, hSp, RDs.mono sm _ _ k4⟩, ⟨addS_sub R.sub, by rw [List.length_set]; exact R.len, fun j w e => ?_, fun j hj => ?_, fun j => ?_, fun j m b n h1 h2 => ?_, fun j b hb => ?_⟩, ⟨sm, fun b o e _ => e, fun b hb => ?_, fun b o e => ?_, fun b o e => ⟨o, e⟩⟩⟩
  · by_cases q : i = j
    · subst q
      rw [List.getElem?_set_self hi] at e
      cases e
      refine ⟨_, ev, ?_⟩
      rw [Ft.put_self]
      exact ⟨a, dx, vs, fl', rfl, rfl, by rw [k9]; exact e1, k10 _ sm hSp, by rw [k9]; exact e3, by rw [k9]; exact e4⟩
    · rw [List.getElem?_set_ne q] at e
      obtain ⟨u, e5, r5⟩ := R.slot j w e
      exact ⟨u, e5, by rw [Ft.put_ne (Ne.symm q)]; exact RW.move sm _ _ _ (fun _ _ => rfl) r5⟩
  · by_cases q : i = j
    · subst q
      exact absurd (List.getElem?_set_self hi) (hj _)
    · rw [Ft.put_ne (Ne.symm q)]
      exact R.off j fun w e => hj w (by rw [List.getElem?_set_ne q]; exact e)
  · by_cases q : j = i
    · subst q
      rw [Ft.put_self]
      exact List.nodup_cons.mpr ⟨fun z => na (k8 a z), k7⟩
    · rw [Ft.put_ne q]; exact R.nd j
  · have sb : ∀ {j : Nat} {b : Addr}, b ∈ (ft.put i (a :: fl')) j → b ∈ ft j := fun {j b} hb => by
      by_cases q : j = i
      · subst q
        rw [Ft.put_self] at hb
        rw [ef]
        exact (List.mem_cons.mp hb).elim (fun z => by rw [z]; exact List.mem_cons_self) fun z => List.mem_cons_of_mem _ (k8 b z)
      · rw [Ft.put_ne q] at hb; exact hb
    exact R.dj j m b n (sb h1) (sb h2)
  · by_cases q : j = i
    · subst q
      rw [Ft.put_self] at hb
      have hb' : b ∈ ft j := by
        rw [ef]
        exact (List.mem_cons.mp hb).elim (fun z => by rw [z]; exact List.mem_cons_self) fun z => List.mem_cons_of_mem _ (k8 b z)
      have : b ∉ [p] := fun z => by
        have z : b = p := by simpa using z
        subst z
        exact (List.mem_cons.mp hb).elim pa k6
      rw [addS_out this]; exact oS b hb'
    · rw [Ft.put_ne q] at hb
      have : b ∉ [p] := fun z => by
        have z : b = p := by simpa using z
        subst z
        exact R.dj j i b q hb pi
      rw [addS_out this]; exact R.out j b hb
  · obtain ⟨j, hj⟩ := hb
    refine .inl ⟨j, ?_⟩
    by_cases q : j = i
    · subst q
      rw [Ft.put_self] at hj
      rw [ef]
      exact (List.mem_cons.mp hj).elim (fun z => by rw [z]; exact List.mem_cons_self) fun z => List.mem_cons_of_mem _ (k8 b z)
    · rw [Ft.put_ne q] at hj; exact hj
  · by_cases q : b ∈ [p]
    · have z : b = p := by simpa using q
      subst z
      exact .inr (.inr ⟨i, pi⟩)
    · rw [addS_out q] at e; exact .inl e
theorem s_fld {f : Str} {pk : Pk} (ha : Snd X g Wx a A) (hn : noSuper a = true) (hpk : ∀ i, pk ≠ .var i) : Snd X g Wx (.Attribute a f pos) { mkEv (fldEv A f) with pk := pk } := by
  have hb := attributeBase_of (o := a) (f := f) (env := X.env) (w := eval a X.env) hn
  have pw : PE X (.Attribute a f pos) (tW X.K g Wx (fldEv A f)) := by
    refine PE.imp (pe_fld ha.po hb) fun σ H Q h => ?_
    have gen : tE X.K g Wx A.e σ H (fun x H1 => ∃ a C dx fs v, x = .ref a ∧ H1 a = some (.ins C dx fs) ∧ Cls X.K C ∧ NoAttr X.K C f ∧ fs.lookup f = some v ∧ Q v H1) → True := fun _ => trivial
    obtain ⟨env, S, ft, R, m⟩ := id h
    unfold tFld tO
    cases q : A.pk with
    | var i =>
      simp only [fldEv, q] at m
      cases e0 : env[i]? with
      | none => rw [e0] at m; exact m.elim
      | some o =>
        cases o with
        | none => rw [e0] at m; exact m.elim
        | some w =>
          rw [e0] at m
          skip
          obtain ⟨v, e1, r⟩ := R.slot i w e0
          refine ⟨v, e1, ?_⟩
          cases w with
          | sh d =>
            cases d with
            | ins c fs ds =>
              simp only at m
              obtain ⟨_, p, dx, vs, rfl, e2, e3, e4, e5⟩ := r
              cases e6 : lookFD fs ds f with
              | none => rw [e6] at m; exact m.elim
              | some d =>
                rw [e6] at m
                obtain ⟨u, e7, e8, e9⟩ := lookFD_ok e3 e6
                obtain ⟨ft2, R2, ho⟩ := R.pushSh e8
                exact ⟨p, _, dx, _, u, rfl, R.sub _ _ e2, e5.1, e5.2 f e9, e7, m u S H ft2 R2 (Step.refl.post ho)⟩
            | _ => exact m.elim
          | oI c fs ws =>
            simp only at m
            obtain ⟨p, dx, vs, ft', rfl, _, e2, e3, e4, e5⟩ := r
            cases e6 : lookF fs ws f with
            | none => rw [e6] at m; exact m.elim
            | some w =>
              rw [e6] at m
              cases w with
              | sh d =>
                obtain ⟨u, l', e7, e8, e9⟩ := lookF_ok e3 e6
                obtain ⟨ft2, R2, ho⟩ := R.pushSh e8.2
                exact ⟨p, _, dx, _, u, rfl, e2, e5.1, e5.2 f e9, e7, m u S H ft2 R2 (Step.refl.post ho)⟩
              | oL l =>
                obtain ⟨a1, p1, dx1, vs1, S1, ft1, k1, k2, k3, k4, k5, k6, R1, st1⟩ := R.shareF e0 e6
                rw [e1] at k1
                cases k1
                obtain ⟨ft2, R2, ho⟩ := R1.pushSh k6
                exact ⟨p, _, dx1, _, _, rfl, k2, k3.1, k3.2 f k4, k5, m _ S1 H ft2 R2 (st1.post ho)⟩
              | _ => exact m.elim
          | _ => exact m.elim
    | no =>
      have h2 : tW X.K g Wx (fun env => (A.e env).bind (fldOf f)) σ H Q := by
        have : fldEv A f = fun env => (A.e env).bind (fldOf f) := by funext env; simp only [fldEv, q]
        rw [this] at h; exact h
      refine tE_mono (tE_bind h2) fun v H1 ⟨env, S, ft, d, R, r, m⟩ => ?_
      cases d with
      | ins c fs ds =>
        simp only [fldOf] at m
        obtain ⟨p, dx, vs, rfl, e2, e3, e4, e5⟩ := r
        cases e6 : lookFD fs ds f with
        | none => simp only [e6] at m
        | some d =>
          simp only [e6] at m
          obtain ⟨u, e7, e8, e9⟩ := lookFD_ok e3 e6
          obtain ⟨ft2, R2, ho⟩ := R.pushSh e8
          exact ⟨p, _, dx, _, u, rfl, R.sub _ _ e2, e5.1, e5.2 f e9, e7, m u S H1 ft2 R2 (Step.refl.post ho)⟩
      | _ => exact m.elim
    | fld i f' =>
      have h2 : tW X.K g Wx (fun env => (A.e env).bind (fldOf f)) σ H Q := by
        have : fldEv A f = fun env => (A.e env).bind (fldOf f) := by funext env; simp only [fldEv, q]
        rw [this] at h; exact h
      refine tE_mono (tE_bind h2) fun v H1 ⟨env, S, ft, d, R, r, m⟩ => ?_
      cases d with
      | ins c fs ds =>
        simp only [fldOf] at m
        obtain ⟨p, dx, vs, rfl, e2, e3, e4, e5⟩ := r
        cases e6 : lookFD fs ds f with
        | none => simp only [e6] at m
        | some d =>
          simp only [e6] at m
          obtain ⟨u, e7, e8, e9⟩ := lookFD_ok e3 e6
          obtain ⟨ft2, R2, ho⟩ := R.pushSh e8
          exact ⟨p, _, dx, _, u, rfl, R.sub _ _ e2, e5.1, e5.2 f e9, e7, m u S H1 ft2 R2 (Step.refl.post ho)⟩
      | _ => exact m.elim
  have := s_plain (Wx := Wx) pw (fun _ => rfl) fun _ _ => rfl
  exact ⟨this.pw, this.pt, fun j q => absurd q (hpk j), this.ns⟩

theorem Snds.star (h : Snds X g Wx es Es) (env : PySem.Env) : starEach es env = es.map fun e => (false, eval e env) := by
  induction h with
  | nil => rfl
  | cons h1 h2 ih => rw [h1.ns, ih]; rfl
theorem Snds.plain (h : Snds X g Wx es Es) (env : PySem.Env) (pos : Pos) : (backTo pos (starEach es env)).any (·.1) = false := by
  rw [h.star]
  unfold backTo
  rw [List.any_eq_false]
  intro x hx
  simp only [List.map_map, List.mem_map] at hx
  obtain ⟨y, _, rfl⟩ := hx
  exact Bool.false_ne_true
theorem s_callB {o : Op} {x : Str} {id : String} {p : Pos} (hp : Plain Γ C o) (hc : CallR X (.builtin id) (rOp X.K g o)) (hg : Gl X x) (hm : X.mg x = none) (hv : bootBuiltins x = some (.builtin id)) (hn : x ≠ "__name__") (hdb : (x == ("__debug__" : Str)) = false)
    (h : Snds X g Wx es Es) (hne : es ≠ []) (hs : ∀ q : Pos, noSuper (.Call (.Name x p) es [] q) = true) : Snd X g Wx (.Call (.Name x p) es [] pos) (mkEv (opEv Γ C o Es)) := by
  rw [opEv_plain hp]
  cases h with
  | nil => exact absurd rfl hne
  | cons h1 h2 =>
    refine s_plain ?_ (fun _ => rfl) fun _ _ => rfl
    refine PE.imp (pe_callB hc hg hm hv (pa_ops (.cons h1 h2)) hn hdb (h1.ns _ _) (h2.plain _ _)) fun σ H Q q => op_pure q
theorem s_callTy {o : Op} {x : Str} {T : String} {p : Pos} (hp : Plain Γ C o) (hc : CallR X (.type T) (rOp X.K g o)) (hg : Gl X x) (hm : X.mg x = none) (hv : bootBuiltins x = some (.type T)) (hn : x ≠ "__name__") (hdb : (x == ("__debug__" : Str)) = false)
    (h : Snds X g Wx es Es) (hne : es ≠ []) : Snd X g Wx (.Call (.Name x p) es [] pos) (mkEv (opEv Γ C o Es)) := by
  rw [opEv_plain hp]
  cases h with
  | nil => exact absurd rfl hne
  | cons h1 h2 =>
    refine s_plain ?_ (fun _ => rfl) fun _ _ => rfl
    refine PE.imp (pe_callTy hc hg hm hv (pa_ops (.cons h1 h2)) hn hdb (h1.ns _ _) (h2.plain _ _)) fun σ H Q q => op_pure q
end
end Rf

namespace Rf
open PySem L2 PyProof.Rows

theorem look_append {α : Type} {n : Str} : ∀ {a b : List (Str × α)}, (a ++ b).lookup n = ((a.lookup n).or (b.lookup n))
  | [], b => by simp
  | (k, v) :: a, b => by
    simp only [List.cons_append, List.lookup]
    cases n == k with
    | true => rfl
    | false => exact look_append
theorem look_mem {α : Type} {n : Str} : ∀ {a : List (Str × α)}, n ∈ a.map (·.1) → (a.lookup n).isSome = true
  | [], h => by cases h
  | (k, v) :: a, h => by
    simp only [List.lookup]
    cases q : n == k with
    | true => rfl
    | false =>
      refine look_mem ?_
      rcases List.mem_cons.mp (show n ∈ k :: a.map (·.1) from h) with e | e
      · subst e; simp at q
      · exact e
theorem look_none {α : Type} {n : Str} : ∀ {a : List (Str × α)}, n ∉ a.map (·.1) → a.lookup n = none
  | [], h => rfl
  | (k, v) :: a, h => by
    have h1 : n ≠ k := fun e => h (by simp [e])
    have hb : (n == k) = false := beq_eq_false_iff_ne.mpr h1
    simp only [List.lookup, hb]
    exact look_none fun z => h (List.mem_cons_of_mem _ z)
theorem look_zip {α : Type} : ∀ {ps : List Str} {us : List α} {i : Nat} {n : Str}, ps.Nodup → ps[i]? = some n → (ps.zip us).lookup n = us[i]?
  | [], _, _, _, _, h => by simp at h
  | p :: ps, [], i, n, nd, h => by simp
  | p :: ps, u :: us, 0, n, nd, h => by
    simp at h; subst h
    simp [List.lookup]
  | p :: ps, u :: us, i + 1, n, nd, h => by
    obtain ⟨h1, h2⟩ := List.nodup_cons.mp nd
    have hm : n ∈ ps := List.mem_of_getElem? (by simpa using h)
    have hb : (n == p) = false := beq_eq_false_iff_ne.mpr fun e => h1 (e ▸ hm)
    simp only [List.zip_cons_cons, List.lookup, hb]
    rw [look_zip h2 (by simpa using h)]
    simp
theorem filterMap_look {α : Type} (sl : List (Str × α)) : ∀ {ps : List Str} {as : List α}, ps.length = as.length → (∀ (i : Nat) (n : Str), ps[i]? = some n → sl.lookup n = as[i]?) → (ps.filterMap fun n => (sl.lookup n).map fun v => (n, v)) = ps.zip as
  | [], [], _, _ => rfl
  | p :: ps, a :: as, e, h => by
    have h0 := h 0 p rfl
    simp only [List.filterMap_cons, List.zip_cons_cons]
    rw [h0]
    have := filterMap_look sl (ps := ps) (as := as) (by simpa using e) fun i n hi => by
      have := h (i + 1) n (by simpa using hi)
      simpa using this
    rw [← this]
    rfl
  | [], _ :: _, e, _ => by cases e
  | _ :: _, [], e, _ => by cases e

theorem arr_ok {α : Type} {kw : List (Str × α)} : ∀ {ps : List Str} {df : List (Option α)} {us as : List α}, arr kw ps df us = some as →
    as.length = ps.length ∧ us.length ≤ ps.length ∧ (∀ i, i < us.length → as[i]? = us[i]?) ∧ ∀ i n, us.length ≤ i → ps[i]? = some n → as[i]? = (kw.lookup n).or (df[i]?.join) ∧ (as[i]?).isSome = true
  | [], df, [], as, h => by
    have : ([] : List α) = as := by simpa [arr] using h
    subst this
    exact ⟨rfl, Nat.le_refl _, fun i hi => by simp at hi, fun i n _ hi => by simp at hi⟩
  | [], df, _ :: _, as, h => by simp [arr] at h
  | p :: ps, df, w :: ws, as, h => by
    simp only [arr, Option.map_eq_some_iff] at h
    obtain ⟨bs, h, rfl⟩ := h
    obtain ⟨h1, h2, h3, h4⟩ := arr_ok h
    refine ⟨by simp [h1], by simp [h2], fun i hi => ?_, fun i n hi e => ?_⟩
    · cases i with
      | zero => rfl
      | succ i => simpa using h3 i (by simpa using hi)
    · cases i with
      | zero => simp at hi
      | succ i =>
        have := h4 i n (by simpa using hi) (by simpa using e)
        cases df with
        | nil => simpa using this
        | cons d df => simpa using this
  | p :: ps, df, [], as, h => by
    have key : ∀ (d : α) (o : Option (List α)), o.map (d :: ·) = some as → ∃ bs, o = some bs ∧ as = d :: bs := fun d o e => by
      obtain ⟨bs, e1, e2⟩ := Option.map_eq_some_iff.mp e
      exact ⟨bs, e1, e2.symm⟩
    unfold arr at h
    have fin : ∀ d : α, arr kw ps df.tail [] = some as.tail → as = d :: as.tail → (kw.lookup p).or (df[0]?.join) = some d →
        as.length = (p :: ps).length ∧ 0 ≤ (p :: ps).length ∧ (∀ i, i < 0 → as[i]? = ([] : List α)[i]?) ∧ ∀ i n, 0 ≤ i → (p :: ps)[i]? = some n → as[i]? = (kw.lookup n).or (df[i]?.join) ∧ (as[i]?).isSome = true := fun d h e hd => by
      obtain ⟨h1, h2, h3, h4⟩ := arr_ok h
      refine ⟨by rw [e]; simp [h1], Nat.zero_le _, (fun i hi => absurd hi (Nat.not_lt_zero i)), fun i n _ hn => ?_⟩
      cases i with
      | zero =>
        simp at hn; subst hn
        rw [e]
        exact ⟨by simpa using hd.symm, rfl⟩
      | succ i =>
        have := h4 i n (Nat.zero_le _) (by simpa using hn)
        rw [e]
        cases df with
        | nil => simpa using this
        | cons d df => simpa using this
    split at h
    · rename_i d e1
      obtain ⟨bs, e2, rfl⟩ := key d _ h
      exact fin d e2 rfl (by rw [e1]; rfl)
    · rename_i d e1 e2
      obtain ⟨bs, e3, rfl⟩ := key d _ h
      refine fin d e3 rfl ?_
      rw [e1]
      cases df with
      | nil => cases e2
      | cons o df =>
        have : o = some d := e2
        simp [this]
    · cases h

/-- the loop over the keywords -/
theorem kw_loop {M : Model} {A : Around} {E : Value → Shared → Prop} {s : Shared} {ps : List Str} {Q : List (Str × Value) × List (Str × Value) → Shared → Prop} {f : Str × Value → List (Str × Value) × List (Str × Value) → Sem (ForInStep (List (Str × Value) × List (Str × Value)))}
    (hf : ∀ k v sl, ps.contains k = true → sl.lookup k = none → f (k, v) (sl, []) = pure (.yield (sl ++ [(k, v)], []))) :
    ∀ (kw sl : List (Str × Value)), (∀ k ∈ kw.map (·.1), ps.contains k = true ∧ sl.lookup k = none) → (kw.map (·.1)).Nodup → Q (sl ++ kw, []) s → wpAny M A (forIn kw (sl, ([] : List (Str × Value))) f) Q E s
  | [], sl, _, _, q => by
    rw [List.forIn_nil]
    exact wpAny_pure (by simpa using q)
  | (k, v) :: kw, sl, h, nd, q => by
    obtain ⟨h1, h2⟩ := h k (by simp)
    obtain ⟨n1, n2⟩ := List.nodup_cons.mp nd
    rw [List.forIn_cons, hf k v sl h1 h2]
    refine wpAny_bind (wpAny_pure (kw_loop hf kw (sl ++ [(k, v)]) (fun j hj => ?_) n2 (by simpa using q)))
    obtain ⟨h3, h4⟩ := h j (List.mem_cons_of_mem _ hj)
    refine ⟨h3, ?_⟩
    have hb : (j == k) = false := beq_eq_false_iff_ne.mpr fun e => n1 (e ▸ hj)
    rw [look_append, h4]
    simp [List.lookup, hb]
/-- the loop over the defaults -/
theorem df_loop {M : Model} {A : Around} {E : Value → Shared → Prop} {s : Shared} {Q : List (Str × Value) → Shared → Prop} {f : Str × Value → List (Str × Value) → Sem (ForInStep (List (Str × Value)))}
    (hf : ∀ p sl, f p sl = if (sl.lookup p.1).isNone = true then pure (.yield (sl ++ [(p.1, p.2)])) else pure (.yield sl)) :
    ∀ (l sl : List (Str × Value)), (l.map (·.1)).Nodup → Q (sl ++ l.filter fun p => (sl.lookup p.1).isNone) s → wpAny M A (forIn l sl f) Q E s
  | [], sl, _, q => by
    rw [List.forIn_nil]
    exact wpAny_pure (by simpa using q)
  | p :: l, sl, nd, q => by
    obtain ⟨n1, n2⟩ := List.nodup_cons.mp nd
    rw [List.forIn_cons, hf]
    by_cases c : (sl.lookup p.1).isNone = true
    · rw [if_pos c]
      refine wpAny_bind (wpAny_pure (df_loop hf l _ n2 ?_))
      rw [List.filter_cons_of_pos (by exact c)] at q
      have e : (l.filter fun q => ((sl ++ [(p.1, p.2)]).lookup q.1).isNone) = l.filter fun q => (sl.lookup q.1).isNone := by
        refine List.filter_congr fun x hx => ?_
        have hb : (x.1 == p.1) = false := beq_eq_false_iff_ne.mpr fun e => n1 (List.mem_map.mpr ⟨x, hx, e⟩)
        rw [look_append]
        simp [List.lookup, hb]
      rw [e]
      simpa using q
    · rw [if_neg c]
      refine wpAny_bind (wpAny_pure (df_loop hf l _ n2 ?_))
      rw [List.filter_cons_of_neg (by exact c)] at q
      exact q

/-- a def's parameters: names alone, no stars -/
structure PlainPar (params : Arguments) (ps : List Str) : Prop where
  names : params.args.map (·.arg) = ps
  nd : ps.Nodup
  po : params.posonlyargs = []
  va : params.vararg = none
  ko : params.kwonlyargs = []
  ka : params.kwarg = none
/-- the defaults' values -/
def DefV (s : Shared) (dV : Value) (its : List Value) : Prop := (its = [] ∧ dV = .none) ∨ ∃ (T : Addr) (o : Obj) (n : Nat), dV = .ref T ∧ s.heap.get? T = some o ∧ o.data = .seq its.toArray n
theorem seqItems_def {M : Model} {A : Around} {E : Value → Shared → Prop} {s : Shared} {dV : Value} {its : List Value} (h : DefV s dV its) {Q : Option (Array Value) → Shared → Prop} (q : ∀ o : Option (Array Value), (o.getD #[]).toList = its → Q o s) : wpAny M A (seqItems? dV) Q E s := by
  rcases h with ⟨rfl, rfl⟩ | ⟨T, o, n, rfl, h1, h2⟩
  · exact wpAny_of_eq (a := none) rfl (q none rfl)
  · exact wpAny_seqItems h1 h2 (q _ (by simp))
theorem bind_all {x qual : Str} {params : Arguments} {body : List Stmt} {scope : Scope} {dV kV doc pm : Value} {an : Option Addr} {cdv ct : Value} {us its as : List Value} {kw : List (Str × Value)} {ps : List Str} {s : Shared}
    (pp : PlainPar params ps) (hd : DefV s dV its) (hl : its.length ≤ ps.length) (hk : kwOk ps us.length (kw.map (·.1)) = true)
    (ha : arr kw ps (List.replicate (ps.length - its.length) none ++ its.map some) us = some as) :
    BindsTo s (PySem.W.fnOf x qual params body scope dV kV doc pm an cdv ct) ⟨us, kw⟩ (ps.zip as) := by
  obtain ⟨a1, a2, a3, a4⟩ := arr_ok ha
  have hk' := Bool.and_eq_true_iff.mp hk
  have k1 : ∀ k ∈ kw.map (·.1), k ∈ ps.drop us.length := fun k h => by
    have := List.all_eq_true.mp hk'.1 k h
    simpa using this
  have k2 : (kw.map (·.1)).Nodup := of_decide_eq_true hk'.2
  have zn : ∀ n ∈ ps.drop us.length, (ps.zip us).lookup n = none := fun n hn => by
    obtain ⟨j, hj⟩ := List.mem_iff_getElem?.mp hn
    rw [List.getElem?_drop] at hj
    rw [look_zip pp.nd hj]
    exact List.getElem?_eq_none (by omega)
  intro M A Q E q
  unfold bindArgs PySem.W.fnOf
  simp only [pp.po, pp.va, pp.ko, pp.ka, List.map_nil, List.nil_append, pp.names]
  refine wpAny_bind (kw_loop (ps := ps) (fun k v sl h1 h2 => ?_) kw (ps.zip us) (fun k hk => ⟨?_, zn k (k1 k hk)⟩) k2 ?_)
  · dsimp only
    rw [if_pos (by rw [h1]; rfl), h2, if_neg (by simp)]
  · have := List.mem_of_mem_drop (k1 k hk)
    simpa using this
  refine wpAny_bind (seqItems_def hd fun o ho => ?_)
  rw [if_neg (by simp; omega)]
  rw [ho]
  have e0 : its.length - ps.length = 0 := by omega
  simp only [e0, List.drop_zero]
  -- what is missing: nothing
  have full : ∀ n i, ps[i]? = some n → i < ps.length - its.length → ((ps.zip us ++ kw).lookup n).isSome = true := fun n i hn hi => by
    rw [look_append]
    by_cases c : i < us.length
    · rw [look_zip pp.nd hn, List.getElem?_eq_getElem c]; rfl
    · obtain ⟨e1, e2⟩ := a4 i n (by omega) hn
      rw [e1] at e2
      have : (List.replicate (ps.length - its.length) (none : Option Value) ++ its.map some)[i]? = some none := by
        rw [List.getElem?_append_left (by simpa using hi)]
        simp [hi]
      rw [this] at e2
      rw [look_zip pp.nd hn, List.getElem?_eq_none (by omega)]
      simpa using e2
  rw [if_neg (by
    have : (List.filter (fun n => (List.lookup n (ps.zip us ++ kw)).isNone) (List.take (ps.length - its.length) ps)) = [] := by
      rw [List.filter_eq_nil_iff]
      intro n hn
      obtain ⟨i, hi⟩ := List.mem_iff_getElem?.mp hn
      have hi2 : i < ps.length - its.length := by
        have := (List.getElem?_eq_some_iff.mp hi).1
        simp at this; omega
      rw [List.getElem?_take, if_pos hi2] at hi
      have := full n i hi hi2
      cases z : List.lookup n (ps.zip us ++ kw) with
      | none => rw [z] at this; cases this
      | some v => simp
    rw [this]; simp)]
  have znd : (((ps.drop (ps.length - its.length)).zip its).map (·.1)).Nodup := by
    rw [List.map_fst_zip (by simp; omega)]
    exact (List.drop_sublist _ _).nodup pp.nd
  refine wpAny_bind (df_loop (fun p sl => rfl) _ _ znd ?_)
  rw [List.forIn_nil]
  refine wpAny_bind (wpAny_pure ?_)
  rw [if_neg (by simp)]
  refine wpAny_pure ?_
  dsimp only
  rw [List.append_nil]
  rw [filterMap_look (as := as) _ a1.symm fun i n hn => ?_]
  · exact q
  · rw [look_append, look_append]
    by_cases c : i < us.length
    · rw [look_zip pp.nd hn, a3 i c, List.getElem?_eq_getElem c]; rfl
    · obtain ⟨e1, e2⟩ := a4 i n (by omega) hn
      rw [look_zip pp.nd hn, List.getElem?_eq_none (by omega), e1]
      cases q1 : kw.lookup n with
      | some v => rfl
      | none =>
        have hlt : i < ps.length := (List.getElem?_eq_some_iff.mp hn).1
        have c2 : ¬ i < ps.length - its.length := fun z => by
          have := full n i hn z
          rw [look_append, look_zip pp.nd hn, List.getElem?_eq_none (by omega), q1] at this
          cases this
        have e3 : (List.replicate (ps.length - its.length) (none : Option Value) ++ its.map some)[i]? = (its[i - (ps.length - its.length)]?).map some := by
          rw [List.getElem?_append_right (by simp; omega)]
          simp
        have e4 : (ps.drop (ps.length - its.length))[i - (ps.length - its.length)]? = some n := by
          rw [List.getElem?_drop, show ps.length - its.length + (i - (ps.length - its.length)) = i by omega]; exact hn
        have nd2 : (ps.drop (ps.length - its.length)).Nodup := (List.drop_sublist _ _).nodup pp.nd
        have e5 := look_zip (us := its) nd2 e4
        have hi5 : i - (ps.length - its.length) < its.length := by omega
        rw [e3]
        simp only [Option.none_or, Option.or]
        have e6 : (List.filter (fun p => ((ps.zip us ++ kw).lookup p.1).isNone) ((ps.drop (ps.length - its.length)).zip its)).lookup n = ((ps.drop (ps.length - its.length)).zip its).lookup n := by
          have hn0 : (ps.zip us ++ kw).lookup n = none := by rw [look_append, look_zip pp.nd hn, List.getElem?_eq_none (by omega), q1]; rfl
          generalize ((ps.drop (ps.length - its.length)).zip its) = L
          induction L with
          | nil => rfl
          | cons p L ih =>
            by_cases c3 : ((ps.zip us ++ kw).lookup p.1).isNone = true
            · rw [List.filter_cons_of_pos (by exact c3)]
              obtain ⟨pk, pv⟩ := p
              simp only [List.lookup]
              cases n == pk with
              | true => rfl
              | false => exact ih
            · rw [List.filter_cons_of_neg (by exact c3), ih]
              obtain ⟨pk, pv⟩ := p
              have hne : (n == pk) = false := beq_eq_false_iff_ne.mpr fun e => c3 (by subst e; rw [hn0]; rfl)
              simp only [List.lookup, hne]
        rw [e6, e5, List.getElem?_eq_getElem hi5]
        rfl
end Rf

namespace Rf
open PySem L2 PyProof.Rows

section
variable {K : PySem.W.Frag} {g : G} {S H S' H' S1 H1 : Hp} {ft ft' ft1 : Ft} {env env' : Env} {σ : L2.St}

def Ft.cons (l : List Addr) (ft : Ft) : Ft
  | 0 => l
  | i + 1 => ft i
theorem Rel.nil (sub : ∀ a o, S a = some o → H a = some o) : Rel K g [] S [] H (fun _ => []) :=
  ⟨sub, rfl, (fun i w e => by simp at e), fun _ _ => rfl, fun _ => List.nodup_nil, (fun _ _ _ _ h => by cases h), (fun _ _ h => by cases h)⟩
theorem Rel.cons' {τ : Env} {ρ : L2.St} (R : Rel K g τ S ρ H ft) {w : W} {v : V} {l : List Addr} (r : RW K g S H w v l) (nd : l.Nodup) (dj : ∀ a ∈ l, ¬ ft.own a) (out : ∀ a ∈ l, S a = none) :
    Rel K g (some w :: τ) S (some v :: ρ) H (Ft.cons l ft) := by
  refine ⟨R.sub, by simp [R.len], fun i x e => ?_, fun i h => ?_, fun i => ?_, fun i j a n h1 h2 => ?_, fun i a h => ?_⟩
  · cases i with
    | zero => simp at e; subst e; exact ⟨v, rfl, r⟩
    | succ i => obtain ⟨u, e1, r1⟩ := R.slot i x (by simpa using e); exact ⟨u, by simpa using e1, r1⟩
  · cases i with
    | zero => exact absurd rfl (h w)
    | succ i => exact R.off i fun x e => h x (by simpa using e)
  · cases i with
    | zero => exact nd
    | succ i => exact R.nd i
  · cases i with
    | zero =>
      cases j with
      | zero => exact absurd rfl n
      | succ j => exact dj a h1 ⟨j, h2⟩
    | succ i =>
      cases j with
      | zero => exact dj a h2 ⟨i, h1⟩
      | succ j => exact R.dj i j a (fun e => n (by rw [e])) h1 h2
  · cases i with
    | zero => exact out a h
    | succ i => exact R.out i a h
/-- values in a row as slots -/
theorem rws_rel (sub : ∀ a o, S a = some o → H a = some o) : ∀ {ws : List W} {vs : List V} {l : List Addr}, RWs K g S H ws vs l → l.Nodup → (∀ a ∈ l, S a = none) → ∃ ft, Rel K g (ws.map some) S (vs.map some) H ft ∧ (∀ a, ft.own a ↔ a ∈ l)
  | [], vs, l, r, _, _ => by
    obtain ⟨rfl, rfl⟩ := r
    exact ⟨_, Rel.nil sub, fun a => ⟨(fun ⟨_, h⟩ => by cases h), (fun h => by cases h)⟩⟩
  | w :: ws, vs, l, r, nd, out => by
    obtain ⟨v, us, l1, l2, rfl, rfl, r1, r2⟩ := r
    obtain ⟨n1, n2, n3⟩ := List.nodup_append.mp nd
    obtain ⟨ft, R, ho⟩ := rws_rel sub r2 n2 fun a ha => out a (List.mem_append_right _ ha)
    refine ⟨_, R.cons' r1 n1 (fun a ha hb => n3 a ha a ((ho a).mp hb) rfl) fun a ha => out a (List.mem_append_left _ ha), fun a => ⟨fun ⟨i, h⟩ => ?_, fun h => ?_⟩⟩
    · cases i with
      | zero => exact List.mem_append_left _ h
      | succ i => exact List.mem_append_right _ ((ho a).mp ⟨i, h⟩)
    · rcases List.mem_append.mp h with h | h
      · exact ⟨0, h⟩
      · obtain ⟨i, h⟩ := (ho a).mpr h
        exact ⟨i + 1, h⟩
theorem RWs.append : ∀ {ws xs : List W} {vs us : List V} {l m : List Addr}, RWs K g S H ws vs l → RWs K g S H xs us m → RWs K g S H (ws ++ xs) (vs ++ us) (l ++ m)
  | [], xs, vs, us, l, m, r, q => by
    obtain ⟨rfl, rfl⟩ := r
    exact q
  | w :: ws, xs, vs, us, l, m, r, q => by
    obtain ⟨v, vs', l1, l2, rfl, rfl, r1, r2⟩ := r
    exact ⟨v, vs' ++ us, l1, l2 ++ m, rfl, by rw [List.append_assoc], r1, RWs.append r2 q⟩
theorem RWs.sh : ∀ {ds : List D} {vs : List V}, RDs K g S ds vs → RWs K g S H (ds.map W.sh) vs []
  | [], vs, r => ⟨r, rfl⟩
  | d :: ds, vs, r => by
    obtain ⟨v, us, rfl, r1, r2⟩ := r
    exact ⟨v, us, [], [], rfl, rfl, ⟨rfl, r1⟩, RWs.sh r2⟩
theorem RWs.length : ∀ {ws : List W} {vs : List V} {l : List Addr}, RWs K g S H ws vs l → ws.length = vs.length
  | [], vs, l, r => by obtain ⟨rfl, _⟩ := r; rfl
  | w :: ws, vs, l, r => by
    obtain ⟨v, us, l1, l2, rfl, rfl, r1, r2⟩ := r
    simp [RWs.length r2]

/-- defaults: trees and values -/
inductive DfR (K : PySem.W.Frag) (g : G) : List (Option D) → List (Option V) → Prop
  | nil : DfR K g [] []
  | none {o : Option V} {ds : List (Option D)} {vs : List (Option V)} : DfR K g ds vs → DfR K g (Option.none :: ds) (o :: vs)
  | some {d : D} {v : V} {ds : List (Option D)} {vs : List (Option V)} : (∀ S : Hp, RD K g S d v) → DfR K g ds vs → DfR K g (Option.some d :: ds) (Option.some v :: vs)
theorem DfR.tail {ds : List (Option D)} {vs : List (Option V)} (h : DfR K g ds vs) : DfR K g ds.tail vs.tail := by
  cases h with
  | nil => exact .nil
  | none h => exact h
  | some _ h => exact h
theorem kw_look {ks : List Str} {p : Str} : ∀ {kd : List D} {kv : List V}, RDs K g S kd kv → ((ks.zip (kd.map W.sh)).lookup p = none ∧ (ks.zip kv).lookup p = none) ∨ ∃ d v, (ks.zip (kd.map W.sh)).lookup p = some (.sh d) ∧ (ks.zip kv).lookup p = some v ∧ RD K g S d v := by
  induction ks with
  | nil => intro kd kv _; exact .inl ⟨rfl, rfl⟩
  | cons k ks ih =>
    intro kd kv r
    cases kd with
    | nil => cases (show kv = [] from r); exact .inl ⟨rfl, rfl⟩
    | cons d kd =>
      obtain ⟨v, us, rfl, r1, r2⟩ := r
      simp only [List.map_cons, List.zip_cons_cons, List.lookup]
      cases p == k with
      | true => exact .inr ⟨d, v, rfl, rfl, r1⟩
      | false => exact ih r2
/-- arguments arranged: as contents, as values -/
theorem arr_rel {ks : List Str} {kd : List D} {kv : List V} (rk : RDs K g S kd kv) : ∀ {ps : List Str} {df : List (Option D)} {dv : List (Option V)} {pw aw : List W} {pv : List V} {l : List Addr}, DfR K g df dv → RWs K g S H pw pv l →
    arr (ks.zip (kd.map W.sh)) ps (df.map fun o => o.map W.sh) pw = some aw → ∃ av, arr (ks.zip kv) ps dv pv = some av ∧ RWs K g S H aw av l
  | [], df, dv, [], aw, pv, l, hd, r, h => by
    obtain ⟨rfl, rfl⟩ := r
    have : ([] : List W) = aw := by simpa [arr] using h
    subst this
    exact ⟨[], by simp [arr], rfl, rfl⟩
  | [], df, dv, _ :: _, aw, pv, l, hd, r, h => by simp [arr] at h
  | p :: ps, df, dv, w :: pw, aw, pv, l, hd, r, h => by
    obtain ⟨v, us, l1, l2, rfl, rfl, r1, r2⟩ := r
    simp only [arr, Option.map_eq_some_iff] at h
    obtain ⟨bs, h, rfl⟩ := h
    have e : (df.map fun o => o.map W.sh).tail = df.tail.map fun o => o.map W.sh := by cases df <;> rfl
    rw [e] at h
    obtain ⟨av, h1, h2⟩ := arr_rel rk hd.tail r2 h
    exact ⟨v :: av, by simp [arr, h1], v, av, l1, l2, rfl, rfl, r1, h2⟩
  | p :: ps, df, dv, [], aw, pv, l, hd, r, h => by
    obtain ⟨rfl, rfl⟩ := id r
    have e : (df.map fun o => o.map W.sh).tail = df.tail.map fun o => o.map W.sh := by cases df <;> rfl
    unfold arr at h
    rw [e] at h
    have fin : ∀ (d : D) (v : V) (bs : List W), arr (ks.zip (kd.map W.sh)) ps (df.tail.map fun o => o.map W.sh) [] = some bs → aw = .sh d :: bs → RD K g S d v → ((ks.zip kv).lookup p = some v ∨ ((ks.zip kv).lookup p = none ∧ dv.headD none = some v)) → ∃ av, arr (ks.zip kv) (p :: ps) dv [] = some av ∧ RWs K g S H aw av [] := fun d v bs hb ea rd hv => by
      obtain ⟨av, h1, h2⟩ := arr_rel rk hd.tail (pw := []) (pv := []) (l := []) ⟨rfl, rfl⟩ hb
      subst ea
      refine ⟨v :: av, ?_, v, av, [], [], rfl, rfl, ⟨rfl, rd⟩, h2⟩
      unfold arr
      rcases hv with hv | ⟨hv1, hv2⟩
      · simp only [hv, h1]; rfl
      · simp only [hv1, hv2, h1]; rfl
    rcases kw_look (ks := ks) (p := p) rk with ⟨e1, e2⟩ | ⟨d, v, e1, e2, rd⟩
    · rw [e1] at h
      cases hd with
      | nil => simp at h
      | none hd => simp at h
      | @some d v df dv rd hd =>
        simp only [List.map_cons, List.headD_cons, Option.map_some] at h
        obtain ⟨bs, hb, hc⟩ := Option.map_eq_some_iff.mp h
        exact fin d v bs hb hc.symm (rd S) (.inr ⟨e2, rfl⟩)
    · rw [e1] at h
      simp only at h
      obtain ⟨bs, hb, hc⟩ := Option.map_eq_some_iff.mp h
      exact fin d v bs hb hc.symm rd (.inl e2)

/-- where a lent content is to go back: the slot is lent, it holds that value -/
inductive BkR (env : Env) (σ : L2.St) : List Bk → List V → Prop
  | nil : BkR env σ [] []
  | no {v : V} {bs : List Bk} {vs : List V} : BkR env σ bs vs → BkR env σ (.no :: bs) (v :: vs)
  | var {i : Nat} {v : V} {bs : List Bk} {vs : List V} : i < env.length → σ[i]? = some (some v) → BkR env σ bs vs → BkR env σ (.var i :: bs) (v :: vs)
theorem BkR.len {e1 e2 : Env} {bs : List Bk} {vs : List V} (h : BkR e1 σ bs vs) (hl : e1.length = e2.length) : BkR e2 σ bs vs := by
  induction h with
  | nil => exact .nil
  | no h ih => exact .no ih
  | var h1 h2 h3 ih => exact .var (by omega) h2 ih
theorem BkR.append {bs cs : List Bk} {vs us : List V} (h : BkR env σ bs vs) (h' : BkR env σ cs us) : BkR env σ (bs ++ cs) (vs ++ us) := by
  induction h with
  | nil => exact h'
  | no h ih => exact .no ih
  | var h1 h2 h3 ih => exact .var h1 h2 ih
end

section
variable (K : PySem.W.Frag) (g : G) (Wx : WX)
/-- a call's arguments -/
def tArgs (r : Env → R (List W × List Bk)) : TA := fun σ H Q => ∃ env S ft, Rel K g env S σ H ft ∧ match r env with
  | .ok p env' => ∀ vs S' H' ft' l, Rel K g env' S' σ H' ft' → RWs K g S' H' p.1 vs l → l.Nodup → (∀ a ∈ l, S' a = none ∧ ¬ ft'.own a) → BkR env' σ p.2 vs → Step S H ft.own S' H' (fun a => ft'.own a ∨ a ∈ l) → Q vs H'
  | .exc x env' => ∀ cls dx S' H' ft', Rel K g env' S' σ H' ft' → Step S H ft.own S' H' ft'.own → RX K g S' x cls dx → Wx cls dx σ H'
  | .bad => False
end

/-- an exception that comes while contents are lent: not told (such arguments are few) -/
def NoExc {α : Type} : R α → Prop
  | .exc _ _ => False
  | _ => True

section
variable {X : Cx} {g : G} {Wx : WX} {Γ : Gam} {C : Call} {K : PySem.W.Frag} {S H S' H' S1 H1 : Hp} {ft ft' ft1 : Ft} {env env' : Env} {σ : L2.St} {e : Expr} {E : Ev} {es : List Expr} {Es : List Ev} {pos : Pos}
/-- the value of an argument -/
def tArg1 (K : PySem.W.Frag) (g : G) (Wx : WX) (m : Bool) (E : Ev) : TE := if m then (match E.pk with | .var i => tVar i | _ => tW K g Wx E.w) else tE K g Wx E.e
theorem Snd.arg {m : Bool} (h : Snd X g Wx e E) : PE X e (tArg1 X.K g Wx m E) := by
  unfold tArg1
  cases m with
  | false => exact h.pe
  | true =>
    rw [if_pos rfl]
    cases q : E.pk with
    | var i => exact (h.pv i q).1
    | no => exact h.pw
    | fld i f => exact h.pw
theorem runA_cons {mu : List Bool} {E : Ev} {Es : List Ev} {Q : List V → Hp → Prop} (h : tArgs K g Wx (runA mu (E :: Es)) σ H Q) : tArg1 K g Wx (mu.headD false) E σ H fun x H1 => tArgs K g Wx (runA mu.tail Es) σ H1 fun xs H2 => Q (x :: xs) H2 := by
  obtain ⟨env, S, ft, R, m⟩ := h
  unfold runA at m
  unfold tArg1
  cases hm : mu.headD false with
  | false =>
    simp only [hm, Bool.false_eq_true, if_false] at m ⊢
    refine ⟨env, S, ft, R, ?_⟩
    cases e1 : E.e env with
    | ok d env1 =>
      simp only [e1, Rf.R.bind_ok] at m
      intro v S1 H1 ft1 R1 st1 r1
      refine ⟨env1, S1, ft1, R1, ?_⟩
      cases e2 : runA mu.tail Es env1 with
      | ok p env2 =>
        simp only [e2, Rf.R.bind_ok] at m
        intro vs S2 H2 ft2 l R2 rs nd dj bk st2
        exact m (v :: vs) S2 H2 ft2 l R2 ⟨v, vs, [], l, rfl, rfl, ⟨rfl, RD.mono st2.same _ _ r1⟩, rs⟩ nd dj (.no bk) (st1.trans st2)
      | exc x env2 =>
        simp only [e2, Rf.R.bind_exc] at m
        exact fun cls dx S2 H2 ft2 R2 st2 => m cls dx S2 H2 ft2 R2 (st1.trans st2)
      | bad => simp only [e2, Rf.R.bind_bad] at m
    | exc x env1 => simp only [e1, Rf.R.bind_exc] at m; exact m
    | bad => simp only [e1, Rf.R.bind_bad] at m
  | true =>
    simp only [hm, if_true] at m ⊢
    cases q : E.pk with
    | no =>
      simp only [q] at m
      refine ⟨env, S, ft, R, ?_⟩
      cases e1 : E.w env with
      | bad => simp only [e1, Rf.R.bind_bad] at m
      | exc x env1 => simp only [e1, Rf.R.bind_exc] at m; exact m
      | ok w env1 =>
        simp only [e1, Rf.R.bind_ok] at m
        intro v S1 H1 ft1 R1 st1
        obtain ⟨u, eu, r⟩ := R1.last
        cases eu
        have R0 := R1.drop
        have dj0 : ∀ a ∈ ft1 env1.length, ¬ (ft1.off env1.length).own a := fun a ha ⟨j, hj⟩ => by
          unfold Ft.off at hj
          split at hj
          · cases hj
          · rename_i q
            exact R1.dj env1.length j a (Ne.symm q) ha hj
        refine ⟨env1, S1, ft1.off env1.length, R0, ?_⟩
        have st1' : Step S H ft.own S1 H1 (fun a => (ft1.off env1.length).own a ∨ a ∈ ft1 env1.length) := st1.post fun a ha => by
          rcases ha with ha | ha
          · exact off_own ha
          · exact ⟨_, ha⟩
        cases e2 : runA mu.tail Es env1 with
        | ok p env2 =>
          simp only [e2, Rf.R.bind_ok] at m
          intro vs S2 H2 ft2 l R2 rs nd dj bk st2
          obtain ⟨r2, dj2, out2⟩ := aside r dj0 (fun a ha => R1.out _ a ha) st2
          refine m (v :: vs) S2 H2 ft2 (ft1 env1.length ++ l) R2 ⟨v, vs, ft1 env1.length, l, rfl, rfl, r2, rs⟩ (List.nodup_append.mpr ⟨R1.nd _, nd, fun a ha b hb e => dj2 a ha (.inr (by rw [e]; exact hb))⟩) (fun a ha => ?_) (.no bk) (st1'.trans ((st2.frame fun a => a ∈ ft1 env1.length).post fun a ha => ?_))
          · rcases List.mem_append.mp ha with ha | ha
            · exact ⟨out2 a ha, fun z => dj2 a ha (.inl z)⟩
            · exact dj a ha
          · rcases ha with ha | ha
            · exact .inl (.inl ha)
            · rcases List.mem_append.mp ha with ha | ha
              · exact .inr ha
              · exact .inl (.inr ha)
        | exc x env2 =>
          simp only [e2, Rf.R.bind_exc] at m
          exact fun cls dx S2 H2 ft2 R2 st2 => m cls dx S2 H2 ft2 R2 ((st1.post fun a => off_own).trans st2)
        | bad => simp only [e2, Rf.R.bind_bad] at m
    | fld i f =>
      simp only [q] at m
      refine ⟨env, S, ft, R, ?_⟩
      cases e1 : E.w env with
      | bad => simp only [e1, Rf.R.bind_bad] at m
      | exc x env1 => simp only [e1, Rf.R.bind_exc] at m; exact m
      | ok w env1 =>
        simp only [e1, Rf.R.bind_ok] at m
        intro v S1 H1 ft1 R1 st1
        obtain ⟨u, eu, r⟩ := R1.last
        cases eu
        have R0 := R1.drop
        have dj0 : ∀ a ∈ ft1 env1.length, ¬ (ft1.off env1.length).own a := fun a ha ⟨j, hj⟩ => by
          unfold Ft.off at hj
          split at hj
          · cases hj
          · rename_i q
            exact R1.dj env1.length j a (Ne.symm q) ha hj
        refine ⟨env1, S1, ft1.off env1.length, R0, ?_⟩
        have st1' : Step S H ft.own S1 H1 (fun a => (ft1.off env1.length).own a ∨ a ∈ ft1 env1.length) := st1.post fun a ha => by
          rcases ha with ha | ha
          · exact off_own ha
          · exact ⟨_, ha⟩
        cases e2 : runA mu.tail Es env1 with
        | ok p env2 =>
          simp only [e2, Rf.R.bind_ok] at m
          intro vs S2 H2 ft2 l R2 rs nd dj bk st2
          obtain ⟨r2, dj2, out2⟩ := aside r dj0 (fun a ha => R1.out _ a ha) st2
          refine m (v :: vs) S2 H2 ft2 (ft1 env1.length ++ l) R2 ⟨v, vs, ft1 env1.length, l, rfl, rfl, r2, rs⟩ (List.nodup_append.mpr ⟨R1.nd _, nd, fun a ha b hb e => dj2 a ha (.inr (by rw [e]; exact hb))⟩) (fun a ha => ?_) (.no bk) (st1'.trans ((st2.frame fun a => a ∈ ft1 env1.length).post fun a ha => ?_))
          · rcases List.mem_append.mp ha with ha | ha
            · exact ⟨out2 a ha, fun z => dj2 a ha (.inl z)⟩
            · exact dj a ha
          · rcases ha with ha | ha
            · exact .inl (.inl ha)
            · rcases List.mem_append.mp ha with ha | ha
              · exact .inr ha
              · exact .inl (.inr ha)
        | exc x env2 =>
          simp only [e2, Rf.R.bind_exc] at m
          exact fun cls dx S2 H2 ft2 R2 st2 => m cls dx S2 H2 ft2 R2 ((st1.post fun a => off_own).trans st2)
        | bad => simp only [e2, Rf.R.bind_bad] at m
    | var i =>
      simp only [q, lendAt] at m
      cases e0 : env[i]? with
      | none => simp only [e0] at m
      | some o =>
        cases o with
        | none => simp only [e0] at m
        | some w =>
          simp only [e0] at m
          obtain ⟨v, e1, r⟩ := R.slot i w e0
          have hi : i < env.length := (List.getElem?_eq_some_iff.mp e0).1
          refine ⟨v, e1, env.set i none, S, ft.off i, R.lend i, ?_⟩
          have pre : ∀ {S2 H2 : Hp} {O2 : Addr → Prop}, Step S H (ft.off i).own S2 H2 O2 → Step S H ft.own S2 H2 O2 := fun st => st.pre fun a => off_own
          have dj0 : ∀ a ∈ ft i, ¬ (ft.off i).own a := fun a ha ⟨j, hj⟩ => by
            unfold Ft.off at hj
            split at hj
            · cases hj
            · rename_i q
              exact R.dj i j a (Ne.symm q) ha hj
          cases e2 : runA mu.tail Es (env.set i none) with
          | ok p env2 =>
            simp only [e2, Rf.R.bind_ok] at m
            intro vs S2 H2 ft2 l R2 rs nd dj bk st2
            obtain ⟨r2, dj2, out2⟩ := aside r dj0 (fun a ha => R.out i a ha) st2
            refine m (v :: vs) S2 H2 ft2 (ft i ++ l) R2 ⟨v, vs, ft i, l, rfl, rfl, r2, rs⟩ (List.nodup_append.mpr ⟨R.nd i, nd, fun a ha b hb e => dj2 a ha (.inr (by rw [e]; exact hb))⟩) (fun a ha => ?_) (.var ?_ e1 bk) ?_
            · rcases List.mem_append.mp ha with ha | ha
              · exact ⟨out2 a ha, fun z => dj2 a ha (.inl z)⟩
              · exact dj a ha
            · have h1 := R2.len
              have h2 := R.len
              omega
            · refine ((st2.frame fun a => a ∈ ft i).pre fun a ha => ?_).post fun a ha => ?_
              · rcases ha with ha | ha
                · exact off_own ha
                · exact ⟨i, ha⟩
              · rcases ha with ha | ha
                · exact .inl (.inl ha)
                · rcases List.mem_append.mp ha with ha | ha
                  · exact .inr ha
                  · exact .inl (.inr ha)
          | exc x env2 =>
            simp only [e2, Rf.R.bind_exc] at m
            exact fun cls dx S2 H2 ft2 R2 st2 => m cls dx S2 H2 ft2 R2 (pre st2)
          | bad => simp only [e2, Rf.R.bind_bad] at m
theorem runA_nil {mu : List Bool} {Q : List V → Hp → Prop} (h : tArgs K g Wx (runA mu []) σ H Q) : Q [] H := by
  obtain ⟨env, S, ft, R, m⟩ := h
  simp only [runA] at m
  exact m [] S H ft [] R ⟨rfl, rfl⟩ List.nodup_nil (fun a ha => by cases ha) .nil (Step.refl.post fun a ha => ha.elim id fun z => by cases z)
theorem pa_args (h : Snds X g Wx es Es) : ∀ mu : List Bool, PA X es (tArgs X.K g Wx (runA mu Es)) := by
  induction h with
  | nil => exact fun mu => ⟨fun pos pins s σ H Q I q => (pa_nil (X := X)).run pos pins s σ H Q I (runA_nil q)⟩
  | cons h1 h2 ih => exact fun mu => ⟨fun pos pins s σ H Q I q => (pa_cons h1.arg (ih mu.tail) (h1.ns _ _)).run pos pins s σ H Q I (runA_cons q)⟩
/-- keywords' values -/
inductive SndK (X : Cx) (g : G) (Wx : WX) : List Keyword → List Str → List Ev → Prop
  | nil : SndK X g Wx [] [] []
  | cons {k : Str} {e : Expr} {p : Pos} {E : Ev} {kws : List Keyword} {ks : List Str} {Es : List Ev} : Snd X g Wx e E → SndK X g Wx kws ks Es → SndK X g Wx (⟨some k, e, p⟩ :: kws) (k :: ks) (E :: Es)
theorem runE_cons {E : Ev} {Es : List Ev} {Q : List V → Hp → Prop} (h : tDs K g Wx (runE (E :: Es)) σ H Q) : tE K g Wx E.e σ H fun x H1 => tDs K g Wx (runE Es) σ H1 fun xs H2 => Q (x :: xs) H2 := by
  obtain ⟨env, S, ft, R, m⟩ := h
  unfold runE at m
  refine ⟨env, S, ft, R, ?_⟩
  cases e1 : E.e env with
  | ok d env1 =>
    simp only [e1, Rf.R.bind_ok] at m
    intro v S1 H1 ft1 R1 st1 r1
    refine ⟨env1, S1, ft1, R1, ?_⟩
    cases e2 : runE Es env1 with
    | ok p env2 =>
      simp only [e2, Rf.R.bind_ok] at m
      intro vs S2 H2 ft2 R2 st2 rs
      exact m (v :: vs) S2 H2 ft2 R2 (st1.trans st2) (.cons (RD.mono st2.same _ _ r1) rs)
    | exc x env2 =>
      simp only [e2, Rf.R.bind_exc] at m
      exact fun cls dx S2 H2 ft2 R2 st2 => m cls dx S2 H2 ft2 R2 (st1.trans st2)
    | bad => simp only [e2, Rf.R.bind_bad] at m
  | exc x env1 => simp only [e1, Rf.R.bind_exc] at m; exact m
  | bad => simp only [e1, Rf.R.bind_bad] at m
theorem runE_nil {Q : List V → Hp → Prop} (h : tDs K g Wx (runE []) σ H Q) : Q [] H := by
  obtain ⟨env, S, ft, R, m⟩ := h
  simp only [runE] at m
  exact m [] S H ft R .refl .nil
theorem pk_args {kws : List Keyword} {ks : List Str} (h : SndK X g Wx kws ks Es) : PK X kws (tDs X.K g Wx (runE Es)) := by
  induction h with
  | nil => exact ⟨fun pos pins s σ H Q I q => (pk_nil (X := X)).run pos pins s σ H Q I (runE_nil q)⟩
  | cons h1 h2 ih => exact ⟨fun pos pins s σ H Q I q => (pk_cons h1.pe ih).run pos pins s σ H Q I (runE_cons q)⟩
theorem SndK.names {kws : List Keyword} {ks : List Str} (h : SndK X g Wx kws ks Es) (env : PySem.Env) (pos : Pos) : (backToKw pos (keywordEach kws env)).filterMap (·.1) = ks ∧ (backToKw pos (keywordEach kws env)).all (·.1.isSome) = true ∧ (backToKw pos (keywordEach kws env)).any (·.1.isNone) = false := by
  induction h with
  | nil => exact ⟨rfl, rfl, rfl⟩
  | cons h1 h2 ih =>
    obtain ⟨i1, i2, i3⟩ := ih
    refine ⟨?_, ?_, ?_⟩
    · show _ :: (backToKw pos (keywordEach _ env)).filterMap (·.1) = _
      rw [i1]
    · show (true && (backToKw pos (keywordEach _ env)).all (·.1.isSome)) = true
      rw [i2]; rfl
    · show (false || (backToKw pos (keywordEach _ env)).any (·.1.isNone)) = false
      rw [i3]; rfl
theorem SndK.len {kws : List Keyword} {ks : List Str} (h : SndK X g Wx kws ks Es) : ks.length = Es.length := by
  induction h with
  | nil => rfl
  | cons h1 h2 ih => simp [ih]
/-- any plain call -/
theorem callW0 {kws : List Keyword} {ks : List Str} {Ks : List Ev} {f : Value} {first : List Value} {s : Shared} {Q : Value → Shared → Prop} (hk : PySem.W.keepIn X.K f = true) (hm : X.K.In X.base) (hkw : SndK X g Wx kws ks Ks)
    (h : wpAny (model X.prog X.w) X.A (evalAll ((backToKw pos (keywordEach kws X.env)).map (·.2)))
      (fun ws s₂ => X.K.In s₂.heap ∧ wpAny (model X.prog X.w) X.A (call f (first ++ []) (ks.zip ws)) Q X.xe s₂) X.xe s) :
    wpAny (model X.prog X.w) X.A (callWith pos f first (backTo pos (starEach [] X.env)) (backToKw pos (keywordEach kws X.env))) Q X.xe s := by
  obtain ⟨n1, n2, n3⟩ := hkw.names X.env pos
  refine PySem.W.callWith_KW0 (h₀ := X.base) hm hk n2 ?_ (by rw [n3]; rfl)
  rw [n1]
  exact h
theorem callW1 {kws : List Keyword} {ks : List Str} {Ks : List Ev} {f : Value} {first : List Value} {s : Shared} {Q : Value → Shared → Prop} (hk : PySem.W.keepIn X.K f = true) (hm : X.K.In X.base) (hs : Snds X g Wx (e :: es) (E :: Es)) (hkw : SndK X g Wx kws ks Ks)
    (h : wpAny (model X.prog X.w) X.A (spliced (backTo pos (starEach (e :: es) X.env))) (fun vs s₁ => wpAny (model X.prog X.w) X.A (evalAll ((backToKw pos (keywordEach kws X.env)).map (·.2)))
      (fun ws s₂ => X.K.In s₂.heap ∧ wpAny (model X.prog X.w) X.A (call f (first ++ vs) (ks.zip ws)) Q X.xe s₂) X.xe s₁) X.xe s) :
    wpAny (model X.prog X.w) X.A (callWith pos f first (backTo pos (starEach (e :: es) X.env)) (backToKw pos (keywordEach kws X.env))) Q X.xe s := by
  obtain ⟨n1, n2, n3⟩ := hkw.names X.env pos
  cases hs with
  | cons h1 h2 =>
    refine PySem.W.callWith_KW (h₀ := X.base) hm hk n2 ?_ (by rw [Snds.plain (.cons h1 h2), n3]; rfl) (h1.ns _ _)
    rw [n1]
    exact h
end
end Rf

namespace Rf
open PySem L2 PyProof.Rows

structure Rm (k : Nat) (A : Around) : Prop where
  rm : Room k A
  gd : A.guards = some []
section
variable {k j : Nat} {A : Around}
theorem Rm.hd (r : Rm k A) : A.handled = none := r.rm.hd
theorem Rm.un (r : Rm k A) : A.units + 16 * k + 200 < cLine := r.rm.un
theorem Rm.mono (r : Rm k A) (h : j ≤ k) : Rm j A := ⟨r.rm.mono h, r.gd⟩
theorem Rm.deeper (r : Rm (k + 1) A) (env : PySem.Env) : Rm k (A.deeper env) := ⟨r.rm.deeper env, r.gd⟩
theorem Rm.in1 (r : Rm (k + 1) A) : Rm k A.in1 := ⟨r.rm.in1, r.gd⟩
theorem Rm.make (r : Rm (k + 1) A) (C : Addr) (us : List Value) (kw : List (Str × Value)) : Rm k (A.under (.builtin "type.__call__" ⟨.ref C :: us, kw⟩)) := ⟨r.rm.make C us kw, by
  have e : Code.isGuard (.builtin "type.__call__" ⟨.ref C :: us, kw⟩) = false := by show guardIds.contains "type.__call__" = false; decide +kernel
  unfold Around.under Code.guards
  rw [e, if_neg Bool.false_ne_true]
  exact r.gd⟩
end
structure FnG (P : Program) (w : World) (K : PySem.W.Frag) (mg : Str → Option Value) (base : Heap) (CX : CXT) (k : Nat) (f : Addr) (fd : FuncData) (ps : List Str) (sp : Sp) : Prop where
  len : ∀ vs H Q E, sp vs H Q E → vs.length = ps.length
  run : ∀ (A : Around) (outer : List PySem.Env) (s : Shared) (H : Hp) (args : Args) (us : List Value) (vs : List V) (Q : VK) (E : XK), Rm k A → Env0 P w K mg base A outer s H → BindsTo s fd args (ps.zip us) → Vals vs us → sp vs H Q E →
    codeAny (model P w) A (.call (.ref f) args) (CR CX outer P w H s Q E) s
/-- from the body -/
theorem fng_of {CX : CXT} {Pg : Program} {w : World} {K : PySem.W.Frag} {mg : Str → Option Value} {base : Heap} {k : Nat} {f : Addr} {name qual : Str} {params : Arguments} {body : List Stmt} {scope : Scope} {dV kV doc pm cdv ct oc : Value} {an od : Option Addr}
    {osl : Array (Option Value)} {N ps : List Str} {sp : Sp} (lk : K.lookup f = some ⟨oc, od, .func (PySem.W.fnOf name qual params body scope dV kV doc pm an cdv ct), osl⟩) (hcd : PySem.W.codeIn K cdv qual = true) (Sc : FnScope N ps scope)
    (len : ∀ vs H Q E, sp vs H Q E → vs.length = ps.length)
    (hb : ∀ (A : Around) (outer : List PySem.Env) (s : Shared) (H : Hp) (vs : List V) (Q : VK) (E : XK), Rm k (A.deeper (envOfC qual scope s.heap.objs.size f cdv)) → sp vs H Q E →
      ∃ t, PSs (cxOf CX Pg w K mg base N qual scope f cdv A outer s H E) body t ∧ t { nx := fun _ H' => Q .non H', rt := Q } (L2.start N vs) H) :
    FnG Pg w K mg base CX (k + 1) f (PySem.W.fnOf name qual params body scope dV kV doc pm an cdv ct) ps sp where
  len := len
  run := fun A outer s H args us vs Q E room e0 bind vals want => by
    have old : ∀ b o, base.get? b = some o → s.heap.get? b = some o := fun b o z => (e0.bs b o z).1
    have KS : K.In s.heap := e0.mod.kin.keeps old
    obtain ⟨t, body_ok, start_ok⟩ := hb A outer s H vs Q E (room.deeper _) want
    have kinds : ∀ z ∈ ps.zip us, scope.names.lookup z.1 = some .local ∨ (scope.names.lookup z.1 = some .cell ∧ ((cellsFrom (s.heap.objs.size + 1) scope.names []).lookup z.1).isSome = true) := fun z hz =>
      (Sc.par z.1 (List.of_mem_zip hz).1).imp id fun c => ⟨c, PySem.W.cellsFrom_some _ _ _ (.inl c)⟩
    refine codeAny_call_function room.rm.depth (KS _ _ lk) rfl Sc.co Sc.gen rfl (PySem.W.codeRec_of KS hcd) (bind _ _ _ _ (wpAny_newFunctionEnv_cells Sc.kind kinds fun _ ee s1 frame => ?_))
    subst ee
    have I1 := inv_start (CX := CX) (E := E) Sc room.hd e0 (len _ _ _ _ want) vals frame
    refine ⟨(e0.mod.nolimit.keeps old).keeps frame.toInCall.keep, codeAny_func (wpAny_mono (body_ok.run [] s1 _ H _ I1 start_ok) (fun fl s2 h2 => ?_) fun _ _ z => z)⟩
    match fl, h2 with
    | .ret _, ⟨v, _, H2, J, rv, q⟩ => exact ⟨v, H2, J.os, J.bare, J.base, J.hok, rv, q⟩
    | .next, ⟨_, H2, J, q⟩ => exact ⟨V.non, H2, J.os, J.bare, J.base, J.hok, rfl, q⟩
    | .brk, ⟨_, _, _, q⟩ => exact q.elim
    | .cont, ⟨_, _, _, q⟩ => exact q.elim

section
variable {K : PySem.W.Frag} {g : G} {S H S' H' S1 H1 : Hp} {ft ft' ft1 ft2 : Ft} {env env' : Env} {σ : L2.St}

/-- the first slot goes -/
theorem Rel.tail {o : Option W} {v : Option V} (R : Rel K g (o :: env) S (v :: σ) H ft) : Rel K g env S σ H (fun i => ft (i + 1)) :=
  ⟨R.sub, by have := R.len; simpa using this, fun i w e => R.slot (i + 1) w (by simpa using e), fun i h => R.off (i + 1) fun w e => h w (by simpa using e), fun i => R.nd _, fun i j a n => R.dj _ _ a (by omega), fun i a h => R.out _ a h⟩
theorem Rel.head {w : W} {v : Option V} (R : Rel K g (some w :: env) S (v :: σ) H ft) : ∃ u, v = some u ∧ RW K g S H w u (ft 0) := by
  obtain ⟨u, e, r⟩ := R.slot 0 w rfl
  exact ⟨u, by simpa using e, r⟩
/-- lent contents go back -/
theorem backs_rel : ∀ {bs : List Bk} {outs rest : Env} {vs : List V} {ρ : L2.St} {env : Env} {ft ft2 : Ft}, Rel K g env S σ H ft → Rel K g (outs ++ rest) S (vs.map some ++ ρ) H ft2 → outs.length = vs.length → (∀ a, ft.own a → ¬ ft2.own a) → BkR env σ bs vs →
    ∃ ft3 ft4, Rel K g (backs bs outs env) S σ H ft3 ∧ Rel K g rest S ρ H ft4 ∧ (∀ a, ft3.own a → ¬ ft4.own a) ∧ (∀ a, ft3.own a → ft.own a ∨ ft2.own a) ∧ ∀ a, ft4.own a → ft2.own a
  | [], outs, rest, vs, ρ, env, ft, ft2, R, R2, hl, dj, bk => by
    cases bk
    cases outs with
    | nil => exact ⟨ft, ft2, R, R2, dj, fun a h => .inl h, fun a h => h⟩
    | cons o outs => cases hl
  | b :: bs, [], rest, vs, ρ, env, ft, ft2, R, R2, hl, dj, bk => by
    cases bk <;> cases hl
  | b :: bs, o :: outs, rest, vs, ρ, env, ft, ft2, R, R2, hl, dj, bk => by
    have tl : ∀ {v : V} {us : List V}, Rel K g (o :: outs ++ rest) S ((v :: us).map some ++ ρ) H ft2 → Rel K g (outs ++ rest) S (us.map some ++ ρ) H fun i => ft2 (i + 1) := fun r => r.tail
    have sub : ∀ a, Ft.own (fun i => ft2 (i + 1)) a → ft2.own a := fun a ⟨i, h⟩ => ⟨i + 1, h⟩
    cases bk with
    | @no v bs us bk =>
      obtain ⟨ft3, ft4, h1, h2, h3, h4, h5⟩ := backs_rel (env := env) R (tl R2) (by simpa using hl) (fun a ha hb => dj a ha (sub a hb)) bk
      exact ⟨ft3, ft4, h1, h2, h3, fun a ha => (h4 a ha).imp id (sub a), fun a ha => sub a (h5 a ha)⟩
    | @var i v bs us h1 h2 bk =>
      -- the slot is filled again
      have key : ∃ ft3, Rel K g (env.set i o) S σ H ft3 ∧ (∀ a, ft3.own a → ft.own a ∨ a ∈ ft2 0) := by
        have hσ : σ.set i (some v) = σ := by
          apply List.ext_getElem?
          intro j
          by_cases q : i = j
          · subst q
            have hi : i < σ.length := (List.getElem?_eq_some_iff.mp h2).1
            rw [List.getElem?_set_self hi, h2]
          · rw [List.getElem?_set_ne q]
        cases o with
        | none => exact ⟨_, R.lend i, fun a ha => .inl (off_own ha)⟩
        | some w =>
          obtain ⟨u, e, r⟩ := Rel.head (show Rel K g (some w :: (outs ++ rest)) S (some v :: (us.map some ++ ρ)) H ft2 from R2)
          cases e
          have R3 := R.store h1 r (R2.nd 0) (fun j a _ ha hb => dj a ⟨j, hb⟩ ⟨0, ha⟩) fun a ha => R2.out 0 a ha
          rw [hσ] at R3
          refine ⟨_, R3, fun a ⟨j, hj⟩ => ?_⟩
          by_cases q : j = i
          · subst q; rw [Ft.put_self] at hj; exact .inr hj
          · rw [Ft.put_ne q] at hj; exact .inl ⟨j, hj⟩
      obtain ⟨ft0, R0, h0⟩ := key
      obtain ⟨ft3, ft4, k1, k2, k3, k4, k5⟩ := backs_rel (env := env.set i o) R0 (tl R2) (by simpa using hl) (fun a ha hb => by
        rcases h0 a ha with z | z
        · exact dj a z (sub a hb)
        · obtain ⟨j, hb⟩ := hb
          exact R2.dj 0 (j + 1) a (by omega) z hb) (bk.len (by simp))
      exact ⟨ft3, ft4, k1, k2, k3, fun a ha => by
        rcases k4 a ha with z | z
        · exact (h0 a z).imp id fun y => ⟨0, y⟩
        · exact .inr (sub a z), fun a ha => sub a (k5 a ha)⟩
theorem backs_len : ∀ {bs : List Bk} {outs env : Env}, (backs bs outs env).length = env.length
  | [], outs, env => by cases outs <;> rfl
  | b :: bs, [], env => by cases b <;> rfl
  | b :: bs, o :: outs, env => by
    rw [backs, backs_len]
    cases b <;> simp [backAt]
theorem callF_len {P : Prg} {n f : Nat} {ws : List W} {fi : FI} (hf : P.fn f = some fi) : (∀ w outs, callF P n f ws = .ok w outs → ws.length = fi.sig.ps.length ∧ outs.length = ws.length) ∧ ∀ w outs, callF P n f ws = .exc w outs → ws.length = fi.sig.ps.length ∧ outs.length = ws.length := by
  have ol : ∀ (mu : List Bool) (n : Nat) (env : Env), (outsOf mu n env).length = n := fun mu n => by
    induction n generalizing mu with
    | zero => intro env; rfl
    | succ n ih =>
      intro env
      cases env with
      | nil => simp [outsOf, ih]
      | cons w env => simp [outsOf, ih]
  cases n with
  | zero => exact ⟨fun w outs h => by simp [callF] at h, fun w outs h => by simp [callF] at h⟩
  | succ n =>
    simp only [callF, hf]
    split
    · rename_i c
      split <;> refine ⟨fun w outs h => ?_, fun w outs h => ?_⟩ <;> first | (cases h; exact ⟨c.1, ol _ _ _⟩) | cases h
    · exact ⟨fun w outs h => (by cases h), fun w outs h => (by cases h)⟩
end

/-- the promise of the def i -/
def spF (K : PySem.W.Frag) (g : G) (P : Prg) (n i : Nat) : Sp := fun vs H Q E => ∃ ws S ft, Rel K g (ws.map some) S (vs.map some) H ft ∧ match callF P n i ws with
  | .ok w outs => ∀ v S' H' ft', Rel K g (outs ++ [some w]) S' (vs.map some ++ [some v]) H' ft' → Step S H ft.own S' H' ft'.own → Q v H'
  | .exc x outs => ∀ cls dx S' H' ft', Rel K g outs S' (vs.map some) H' ft' → Step S H ft.own S' H' ft'.own → RX K g S' x cls dx → E cls dx H'
  | .bad => False
theorem spF_len {K : PySem.W.Frag} {g : G} {P : Prg} {n i : Nat} {fi : FI} (hf : P.fn i = some fi) : ∀ vs H Q E, spF K g P n i vs H Q E → vs.length = fi.sig.ps.length := by
  intro vs H Q E ⟨ws, S, ft, R, m⟩
  have hl : ws.length = vs.length := by simpa using R.len
  obtain ⟨h1, h2⟩ := callF_len (n := n) (ws := ws) hf
  cases e : callF P n i ws with
  | ok w outs => rw [← hl]; exact (h1 _ _ e).1
  | exc w outs => rw [← hl]; exact (h2 _ _ e).1
  | bad => rw [e] at m; exact m.elim

/-- how a def's parameters are bound -/
structure Bnd (K : PySem.W.Frag) (g : G) (fd : FuncData) (sg : Sig) (dv : List (Option V)) : Prop where
  ex : ∃ (x qual : Str) (params : Arguments) (body : List Stmt) (scope : Scope) (dV kV doc pm : Value) (an : Option Addr) (cdv ct : Value) (its : List Value) (vits : List V),
    fd = PySem.W.fnOf x qual params body scope dV kV doc pm an cdv ct ∧ PlainPar params sg.ps ∧ (∀ s : Shared, K.In s.heap → DefV s dV its) ∧ Vals vits its ∧ its.length ≤ sg.ps.length ∧
    dv = List.replicate (sg.ps.length - its.length) none ++ vits.map some
  df : DfR K g sg.df dv

section
variable {α β : Type}
theorem zip_look {R : α → β → Prop} {p : Str} : ∀ {ks : List Str} {zs : List α} {ws : List β}, Paired R zs ws → ((ks.zip zs).lookup p = none ∧ (ks.zip ws).lookup p = none) ∨ ∃ a b, (ks.zip zs).lookup p = some a ∧ (ks.zip ws).lookup p = some b ∧ R a b
  | [], zs, ws, _ => .inl ⟨rfl, rfl⟩
  | k :: ks, [], [], .nil => .inl ⟨rfl, rfl⟩
  | k :: ks, z :: zs, w :: ws, .cons r rs => by
    simp only [List.zip_cons_cons, List.lookup]
    cases p == k with
    | true => exact .inr ⟨z, w, rfl, rfl, r⟩
    | false => exact zip_look rs
theorem arr_vals {R : α → β → Prop} {RO : Option α → Option β → Prop} (h0 : ∀ a b, RO (some a) b → ∃ c, b = some c ∧ R a c) {ks : List Str} {zs : List α} {ws : List β} (rz : Paired R zs ws) :
    ∀ {ps : List Str} {dv : List (Option α)} {du : List (Option β)} {vs : List α} {us : List β} {av : List α}, Paired RO dv du → Paired R vs us → arr (ks.zip zs) ps dv vs = some av → ∃ au, arr (ks.zip ws) ps du us = some au ∧ Paired R av au
  | [], dv, du, [], [], av, hd, .nil, h => by
    have : ([] : List α) = av := by simpa [arr] using h
    subst this
    exact ⟨[], by simp [arr], .nil⟩
  | [], dv, du, _ :: _, _, av, hd, r, h => by simp [arr] at h
  | p :: ps, dv, du, v :: vs, u :: us, av, hd, .cons r rs, h => by
    simp only [arr, Option.map_eq_some_iff] at h
    obtain ⟨bs, h, rfl⟩ := h
    have ht : Paired RO dv.tail du.tail := by cases hd <;> first | exact .nil | assumption
    obtain ⟨au, h1, h2⟩ := arr_vals h0 rz ht rs h
    exact ⟨u :: au, by simp [arr, h1], .cons r h2⟩
  | p :: ps, dv, du, [], [], av, hd, .nil, h => by
    have ht : Paired RO dv.tail du.tail := by cases hd <;> first | exact .nil | assumption
    unfold arr at h
    rcases zip_look (ks := ks) (p := p) rz with ⟨e1, e2⟩ | ⟨a, b, e1, e2, r⟩
    · rw [e1] at h
      cases hd with
      | nil => simp at h
      | @cons x y dv du hx hd =>
        cases x with
        | none => simp at h
        | some x =>
          simp only [List.headD_cons] at h
          obtain ⟨c, rfl, rc⟩ := h0 _ _ hx
          obtain ⟨bs, hb, hc⟩ := Option.map_eq_some_iff.mp h
          obtain ⟨au, h1, h2⟩ := arr_vals h0 rz hd .nil hb
          refine ⟨c :: au, ?_, by rw [← hc]; exact .cons rc h2⟩
          unfold arr
          rw [e2]
          simp only [List.headD_cons]
          rw [show (some c :: du).tail = du from rfl, h1]; rfl
    · rw [e1] at h
      simp only at h
      obtain ⟨bs, hb, hc⟩ := Option.map_eq_some_iff.mp h
      obtain ⟨au, h1, h2⟩ := arr_vals h0 rz ht .nil hb
      refine ⟨b :: au, ?_, by rw [← hc]; exact .cons r h2⟩
      unfold arr
      rw [e2]
      simp only
      rw [h1]; rfl
end

section
variable {X : Cx} {g : G} {k : Nat} {f : Addr} {fd : FuncData} {sg : Sig} {dv : List (Option V)} {sp : Sp} {CXw : CXT}
theorem Bnd.to (B : Bnd X.K g fd sg dv) {ks : List Str} {vs zs av : List V} {us ws : List Value} (r : Vals vs us) (rz : Vals zs ws) (hk : kwOk sg.ps vs.length ks = true) (hkl : ks.length = zs.length) (ha : arr (ks.zip zs) sg.ps dv vs = some av) {s : Shared} (hi : X.K.In s.heap) :
    ∃ au, BindsTo s fd ⟨us, ks.zip ws⟩ (sg.ps.zip au) ∧ Vals av au := by
  obtain ⟨x, qual, params, body, scope, dV, kV, doc, pm, an, cdv, ct, its, vits, rfl, pp, hd, rv, hl, rfl⟩ := B.ex
  have hp : Paired RelO (List.replicate (sg.ps.length - its.length) none ++ vits.map some) (List.replicate (sg.ps.length - its.length) none ++ its.map some) := by
    have h2 : Paired RelO (vits.map some) (its.map some) := by
      clear hd hl ha B
      induction rv with
      | nil => exact .nil
      | cons r t ih => exact .cons r ih
    generalize sg.ps.length - its.length = m
    clear ha hl
    induction m with
    | zero => exact h2
    | succ m ih => exact .cons True.intro ih
  obtain ⟨au, h1, h2⟩ := arr_vals (RO := RelO) (R := RelV) (fun a b h => by
    cases b with
    | none => exact h.elim
    | some c => exact ⟨c, rfl, h⟩) rz hp r ha
  refine ⟨au, bind_all pp (hd s hi) hl ?_ h1, h2⟩
  have e1 : (ks.zip ws).map (·.1) = ks := by
    rw [List.map_fst_zip]
    have := rz.length
    omega
  rw [e1, ← r.length]
  exact hk
theorem run_fnA {pins : List (Addr × Obj)} {σ : L2.St} {H : Hp} {s : Shared} {Q : VK} {us ws : List Value} {vs zs av : List V} {ks : List Str} {E : XK} (F : FnG X.prog X.w X.K X.mg X.base CXw k f fd sg.ps sp) (hr : Rm k X.A) (B : Bnd X.K g fd sg dv)
    (hx : ∀ e s', CXw X.stack H s E e s' → X.xe e s') (I : L2.Inv X pins σ H s) (r : Vals vs us) (rz : Vals zs ws) (hk : kwOk sg.ps vs.length ks = true) (hkl : ks.length = zs.length) (ha : arr (ks.zip zs) sg.ps dv vs = some av) (h : sp av H Q E) :
    wpAny (model X.prog X.w) X.A (call (.ref f) us (ks.zip ws)) (EP X pins σ Q) X.xe s := by
  obtain ⟨au, hb, r2⟩ := B.to r rz hk hkl ha I.kIn
  refine wpAny_call (codeAny_mono (F.run X.A X.stack s H ⟨us, ks.zip ws⟩ au av Q E hr I.env0 hb r2 h) fun r s' hq => ?_)
  cases r with
  | error e => exact hx e s' hq
  | ok fl =>
    cases fl with
    | ret u => exact I.after hq
    | next => exact False.elim hq
    | brk => exact False.elim hq
    | cont => exact False.elim hq
end
end Rf

namespace Rf
open PySem L2 PyProof.Rows

section
variable {K : PySem.W.Frag} {g : G} {Wx : WX} {S H S' H' S1 H1 S2 H2 : Hp} {ft ft' ft1 ft2 : Ft} {env env' env1 env2 : Env} {σ : L2.St} {P : Prg} {n i : Nat} {Es Ks : List Ev} {ks : List Str} {Q : VK} {fi : FI} {dv : List (Option V)}

theorem arr_pre {α : Type} {kw : List (Str × α)} : ∀ {ps : List Str} {df : List (Option α)} {us as : List α}, arr kw ps df us = some as → ∃ r, as = us ++ r
  | [], df, [], as, h => ⟨as, rfl⟩
  | p :: ps, df, [], as, h => ⟨as, rfl⟩
  | [], df, _ :: _, as, h => by simp [arr] at h
  | p :: ps, df, w :: ws, as, h => by
    simp only [arr, Option.map_eq_some_iff] at h
    obtain ⟨bs, h, rfl⟩ := h
    obtain ⟨r, rfl⟩ := arr_pre h
    exact ⟨r, rfl⟩
theorem backs_pad {k : Nat} : ∀ {bs : List Bk} {outs env : Env}, backs (bs ++ List.replicate k .no) outs env = backs bs outs env
  | [], outs, env => by
    induction k generalizing outs env with
    | zero => rfl
    | succ k ih =>
      cases outs with
      | nil => rfl
      | cons o outs =>
        rw [List.replicate_succ]
        show backs (List.replicate k Bk.no) outs env = _
        rw [show List.replicate k Bk.no = [] ++ List.replicate k Bk.no from rfl, ih]
        cases outs <;> rfl
  | b :: bs, [], env => rfl
  | b :: bs, o :: outs, env => by
    show backs (bs ++ List.replicate k .no) outs (backAt env o b) = backs bs outs (backAt env o b)
    exact backs_pad
theorem bk_no {e1 : Env} : ∀ {vs : List V}, BkR e1 σ (List.replicate vs.length .no) vs
  | [] => .nil
  | v :: vs => .no bk_no
/-- one content behind all others -/
theorem Rel.pushBy (R : Rel K g env S σ H ft) {w : W} {v : V} (R2 : Rel K g [some w] S [some v] H ft2) (dj : ∀ a, ft.own a → ¬ ft2.own a) : ∃ ft3, Rel K g (env ++ [some w]) S (σ ++ [some v]) H ft3 ∧ ∀ a, ft3.own a → ft.own a ∨ ft2.own a := by
  obtain ⟨u, e, r⟩ := R2.head
  cases e
  refine ⟨_, R.push r (R2.nd 0) (fun j a ha hb => dj a ⟨j, hb⟩ ⟨0, ha⟩) fun a ha => R2.out 0 a ha, fun a ⟨j, hj⟩ => ?_⟩
  by_cases q : j = env.length
  · subst q; rw [Ft.put_self] at hj; exact .inr ⟨0, hj⟩
  · rw [Ft.put_ne q] at hj; exact .inl ⟨j, hj⟩
/-- what is wanted behind an evaluation that began in S, H with the owned O -/
def After (K : PySem.W.Frag) (g : G) (Wx : WX) (σ : L2.St) (S H : Hp) (O : Addr → Prop) (Q : VK) : R W → Prop
  | .ok w env' => ∀ v S' H' ft', Rel K g (env' ++ [some w]) S' (σ ++ [some v]) H' ft' → Step S H O S' H' ft'.own → Q v H'
  | .exc x env' => ∀ cls dx S' H' ft', Rel K g env' S' σ H' ft' → Step S H O S' H' ft'.own → RX K g S' x cls dx → Wx cls dx σ H'
  | .bad => False
theorem tW_iff {r : Env → R W} {σ : L2.St} {H : Hp} : tW K g Wx r σ H Q ↔ ∃ env S ft, Rel K g env S σ H ft ∧ After K g Wx σ S H ft.own Q (r env) := by
  constructor
  · rintro ⟨env, S, ft, R, m⟩
    refine ⟨env, S, ft, R, ?_⟩
    cases e : r env <;> rw [e] at m <;> exact m
  · rintro ⟨env, S, ft, R, m⟩
    refine ⟨env, S, ft, R, ?_⟩
    cases e : r env <;> rw [e] at m <;> exact m
theorem After.pre {O O1 : Addr → Prop} {r : R W} (h : After K g Wx σ S H O Q r) (st : Step S H O S1 H1 O1) : After K g Wx σ S1 H1 O1 Q r := by
  cases r with
  | ok w env' => exact fun v S' H' ft' R st' => h v S' H' ft' R (st.trans st')
  | exc x env' => exact fun cls dx S' H' ft' R st' => h cls dx S' H' ft' R (st.trans st')
  | bad => exact h
theorem runA_len : ∀ {Es : List Ev} {mu : List Bool} {env env1 : Env} {p : List W × List Bk}, runA mu Es env = .ok p env1 → Es.length = p.1.length
  | [], mu, env, env1, p, h => by
    simp only [runA] at h
    cases h; rfl
  | E :: Es, mu, env, env1, p, h => by
    unfold runA at h
    split at h
    · split at h
      · split at h
        · rename_i w b env2 e
          cases e1 : runA mu.tail Es env2 with
          | ok q env3 =>
            simp only [e1, Rf.R.bind_ok] at h
            cases h
            simp [runA_len e1]
          | exc x env3 => simp only [e1, Rf.R.bind_exc] at h; cases h
          | bad => simp only [e1, Rf.R.bind_bad] at h; cases h
        · cases h
      · cases e0 : E.w env with
        | ok w env2 =>
          simp only [e0, Rf.R.bind_ok] at h
          cases e1 : runA mu.tail Es env2 with
          | ok q env3 =>
            simp only [e1, Rf.R.bind_ok] at h
            cases h
            simp [runA_len e1]
          | exc x env3 => simp only [e1, Rf.R.bind_exc] at h; cases h
          | bad => simp only [e1, Rf.R.bind_bad] at h; cases h
        | exc x env3 => simp only [e0, Rf.R.bind_exc] at h; cases h
        | bad => simp only [e0, Rf.R.bind_bad] at h; cases h
    · cases e0 : E.e env with
      | ok d env2 =>
        simp only [e0, Rf.R.bind_ok] at h
        cases e1 : runA mu.tail Es env2 with
        | ok q env3 =>
          simp only [e1, Rf.R.bind_ok] at h
          cases h
          simp [runA_len e1]
        | exc x env3 => simp only [e1, Rf.R.bind_exc] at h; cases h
        | bad => simp only [e1, Rf.R.bind_bad] at h; cases h
      | exc x env3 => simp only [e0, Rf.R.bind_exc] at h; cases h
      | bad => simp only [e0, Rf.R.bind_bad] at h; cases h
theorem runE_len : ∀ {Es : List Ev} {env env1 : Env} {p : List D}, runE Es env = .ok p env1 → p.length = Es.length
  | [], env, env1, p, h => by
    simp only [runE] at h
    cases h; rfl
  | E :: Es, env, env1, p, h => by
    unfold runE at h
    cases e0 : E.e env with
    | ok d env2 =>
      simp only [e0, Rf.R.bind_ok] at h
      cases e1 : runE Es env2 with
      | ok q env3 =>
        simp only [e1, Rf.R.bind_ok] at h
        cases h
        simp [runE_len e1]
      | exc x env3 => simp only [e1, Rf.R.bind_exc] at h; cases h
      | bad => simp only [e1, Rf.R.bind_bad] at h; cases h
    | exc x env3 => simp only [e0, Rf.R.bind_exc] at h; cases h
    | bad => simp only [e0, Rf.R.bind_bad] at h; cases h
/-- the callee's promise, from what the caller wants -/
theorem sp_of (hf : P.fn i = some fi) (R : Rel K g env S σ H ft) {ws : List W} {av : List V} {l : List Addr} (r : RWs K g S H ws av l) (nd : l.Nodup) (dj : ∀ a ∈ l, S a = none ∧ ¬ ft.own a) {bs : List Bk} {vs : List V} (hp : ∃ q, av = vs ++ q) (bk : BkR env σ bs vs)
    (m : After K g Wx σ S H (fun a => ft.own a ∨ a ∈ l) Q (finish bs env (callF P n i ws))) : spF K g P n i av H Q fun cls dx H' => Wx cls dx σ H' := by
  obtain ⟨q, rfl⟩ := hp
  obtain ⟨ftA, RA, hA⟩ := rws_rel R.sub r nd fun a ha => (dj a ha).1
  have dA : ∀ a, ft.own a → ¬ ftA.own a := fun a h1 h2 => (dj a ((hA a).mp h2)).2 h1
  obtain ⟨c1, c2⟩ := callF_len (n := n) (ws := ws) hf
  have hlen : ws.length = (vs ++ q).length := by simpa using RA.len
  have bk2 : BkR env σ (bs ++ List.replicate q.length .no) (vs ++ q) := bk.append bk_no
  refine ⟨ws, S, ftA, RA, ?_⟩
  cases e : callF P n i ws with
  | ok w outs =>
    rw [e] at m
    intro v S' H' ft' R' st
    obtain ⟨RB, dB⟩ := R.aside dA st R'.sub
    obtain ⟨ft3, ft4, k1, k2, k3, k4, k5⟩ := backs_rel (bs := bs ++ List.replicate q.length .no) (outs := outs) (rest := [some w]) (vs := vs ++ q) (ρ := [some v]) RB R' (by rw [← hlen]; exact (c1 _ _ e).2) dB bk2
    rw [backs_pad] at k1
    obtain ⟨ft5, k6, k7⟩ := k1.pushBy k2 k3
    refine m v S' H' ft5 k6 (((st.frame ft.own).pre fun a ha => ?_).post fun a ha => ?_)
    · rcases ha with ha | ha
      · exact .inr ((hA a).mp ha)
      · exact .inl ha
    · rcases k7 a ha with z | z
      · rcases k4 a z with y | y
        · exact .inr y
        · exact .inl y
      · exact .inl (k5 a z)
  | exc x outs =>
    rw [e] at m
    intro cls dx S' H' ft' R' st rx
    obtain ⟨RB, dB⟩ := R.aside dA st R'.sub
    obtain ⟨ft3, ft4, k1, k2, k3, k4, k5⟩ := backs_rel (bs := bs ++ List.replicate q.length .no) (outs := outs) (rest := []) (vs := vs ++ q) (ρ := []) RB (by simpa using R') (by rw [← hlen]; exact (c2 _ _ e).2) dB bk2
    rw [backs_pad] at k1
    refine m cls dx S' H' ft3 k1 (((st.frame ft.own).pre fun a ha => ?_).post fun a ha => ?_) rx
    · rcases ha with ha | ha
      · exact .inr ((hA a).mp ha)
      · exact .inl ha
    · rcases k4 a ha with y | y
      · exact .inr y
      · exact .inl y
  | bad => rw [e] at m; exact m
/-- what a def promises at its call, read off the evaluation of the call -/
def Wants (K : PySem.W.Frag) (g : G) (Wx : WX) (P : Prg) (n i : Nat) (sg : Sig) (dv : List (Option V)) (ks : List Str) (fvs : List V) (σ : L2.St) (Q : VK) (vs zs : List V) (H : Hp) : Prop :=
  kwOk sg.ps (fvs ++ vs).length ks = true ∧ ks.length = zs.length ∧ ∃ av, arr (ks.zip zs) sg.ps dv (fvs ++ vs) = some av ∧ spF K g P n i av H Q fun cls dx H' => Wx cls dx σ H'
theorem callEv_args (hf : P.fn i = some fi) (hd : DfR K g fi.sig.df dv) (R : Rel K g env S σ H ft) {first : List W} {fb : List Bk} {fvs : List V} {l0 : List Addr} (rf : RWs K g S H first fvs l0) (nd0 : l0.Nodup) (dj0 : ∀ a ∈ l0, S a = none ∧ ¬ ft.own a) (bk0 : BkR env σ fb fvs)
    (m : After K g Wx σ S H (fun a => ft.own a ∨ a ∈ l0) Q (callEv P.gam (callF P n) i first fb Es ks Ks env)) :
    tArgs K g Wx (runA (fi.sig.mu.drop first.length) Es) σ H fun vs H1 => tDs K g Wx (runE Ks) σ H1 fun zs H2 => Wants K g Wx P n i fi.sig dv ks fvs σ Q vs zs H2 := by
  have hsig : P.gam.sig i = some fi.sig := by show (P.fn i).map _ = _; rw [hf]; rfl
  unfold callEv at m
  rw [hsig] at m
  simp only at m
  refine ⟨env, S, ft, R, ?_⟩
  have pre0 : ∀ {S2 H2 : Hp} {O2 : Addr → Prop}, Step S H ft.own S2 H2 O2 → Step S H (fun a => ft.own a ∨ a ∈ l0) S2 H2 O2 := fun st => st.pre fun a => .inl
  cases e1 : runA (fi.sig.mu.drop first.length) Es env with
  | bad => simp only [e1, Rf.R.bind_bad] at m; exact m
  | exc x env1 =>
    simp only [e1, Rf.R.bind_exc] at m
    exact fun cls dx S1 H1 ft1 R1 st1 => m cls dx S1 H1 ft1 R1 (pre0 st1)
  | ok p env1 =>
    simp only [e1, Rf.R.bind_ok] at m
    intro vs S1 H1 ft1 l R1 rs nd dj bk st1
    obtain ⟨rf1, dj1, out1⟩ : RWs K g S1 H1 first fvs l0 ∧ (∀ a ∈ l0, ¬ (ft1.own a ∨ a ∈ l)) ∧ ∀ a ∈ l0, S1 a = none := by
      have there := RWs.there first fvs l0 rf
      refine ⟨RWs.move st1.same first fvs l0 (fun a ha => ?_) rf, fun a ha hb => ?_, fun a ha => ?_⟩
      · obtain ⟨o, e⟩ := there a ha
        rw [e, st1.keep a o e (dj0 a ha).2]
      · obtain ⟨o, e⟩ := there a ha
        rcases st1.own a hb with z | z
        · exact (dj0 a ha).2 z
        · rw [e] at z; cases z
      · obtain ⟨o, e⟩ := there a ha
        cases q : S1 a with
        | none => rfl
        | some u =>
          rcases st1.grow a u q with z | z | z
          · rw [(dj0 a ha).1] at z; cases z
          · rw [e] at z; cases z
          · exact absurd z (dj0 a ha).2
    have bkA : BkR env1 σ (fb ++ p.2) (fvs ++ vs) := (bk0.len (R.len.trans R1.len.symm)).append bk
    have rsA : RWs K g S1 H1 (first ++ p.1) (fvs ++ vs) (l0 ++ l) := RWs.append rf1 rs
    have ndA : (l0 ++ l).Nodup := List.nodup_append.mpr ⟨nd0, nd, fun a ha b hb e => dj1 a ha (.inr (by rw [e]; exact hb))⟩
    have djA : ∀ a ∈ l0 ++ l, S1 a = none ∧ ¬ ft1.own a := fun a ha => by
      rcases List.mem_append.mp ha with ha | ha
      · exact ⟨out1 a ha, fun z => dj1 a ha (.inl z)⟩
      · exact dj a ha
    have stA : Step S H (fun a => ft.own a ∨ a ∈ l0) S1 H1 (fun a => ft1.own a ∨ a ∈ l0 ++ l) := (st1.frame fun a => a ∈ l0).post fun a ha => by
      rcases ha with ha | ha
      · exact .inl (.inl ha)
      · rcases List.mem_append.mp ha with ha | ha
        · exact .inr ha
        · exact .inl (.inr ha)
    have nA : (first ++ p.1).length = (fvs ++ vs).length := RWs.length rsA
    refine ⟨env1, S1, ft1, R1, ?_⟩
    cases e2 : runE Ks env1 with
    | bad => simp only [e2, Rf.R.bind_bad] at m; exact m
    | exc x env2 =>
      simp only [e2, Rf.R.bind_exc] at m
      exact fun cls dx S2 H2 ft2 R2 st2 => m cls dx S2 H2 ft2 R2 (stA.trans (st2.pre fun a => .inl))
    | ok kv env2 =>
      simp only [e2, Rf.R.bind_ok] at m
      intro zs S2 H2 ft2 R2 st2 rk
      have hES : Es.length = p.1.length := runA_len e1
      split at m
      · rename_i c
        obtain ⟨c1, c2⟩ := Bool.and_eq_true_iff.mp c
        have hk2 : kv.length = Ks.length := runE_len e2
        have rkl := RDs.length rk
        split at m
        · rename_i ws ea
          obtain ⟨rA2, djA2, outA2⟩ : RWs K g S2 H2 (first ++ p.1) (fvs ++ vs) (l0 ++ l) ∧ (∀ a ∈ l0 ++ l, ¬ ft2.own a) ∧ ∀ a ∈ l0 ++ l, S2 a = none := by
            have there := RWs.there _ _ _ rsA
            refine ⟨RWs.move st2.same _ _ _ (fun a ha => ?_) rsA, fun a ha hb => ?_, fun a ha => ?_⟩
            · obtain ⟨o, e⟩ := there a ha
              rw [e, st2.keep a o e (djA a ha).2]
            · obtain ⟨o, e⟩ := there a ha
              rcases st2.own a hb with z | z
              · exact (djA a ha).2 z
              · rw [e] at z; cases z
            · obtain ⟨o, e⟩ := there a ha
              cases q : S2 a with
              | none => rfl
              | some u =>
                rcases st2.grow a u q with z | z | z
                · rw [(djA a ha).1] at z; cases z
                · rw [e] at z; cases z
                · exact absurd z (djA a ha).2
          obtain ⟨av, hav, rav⟩ := arr_rel (ks := ks) rk hd rA2 ea
          refine ⟨?_, ?_, av, hav, ?_⟩
          · rw [← nA, List.length_append, ← hES]; exact c1
          · rw [beq_iff_eq.mp c2, ← hk2, rkl]
          · refine sp_of hf R2 rav ndA (fun a ha => ⟨outA2 a ha, djA2 a ha⟩) (arr_pre hav) (bkA.len ?_) ?_
            · have h1 := R1.len
              have h2 := R2.len
              omega
            · exact After.pre m (stA.trans (st2.frame fun a => a ∈ l0 ++ l))
        · exact m.elim
      · exact m.elim
end
end Rf

namespace Rf
open PySem L2 PyProof.Rows

/-- a def of the text in the context of a body: what is known of it -/
structure DefOk (X : Cx) (g : G) (P : Prg) (n i : Nat) (fi : FI) : Prop where
  at_ : P.fn i = some fi
  ex : ∃ fd dv, FnG X.prog X.w X.K X.mg X.base (CX X.prog X.w) (4 * n) (g.fa i) fd fi.sig.ps (spF X.K g P n i) ∧ Bnd X.K g fd fi.sig dv
  kp : PySem.W.keepIn X.K (.ref (g.fa i)) = true
  fi : PySem.W.fnIn X.K (g.fa i) = true

section
variable {X : Cx} {g : G} {Wx : WX} {P : Prg} {n i : Nat} {fi : FI} {es : List Expr} {Es Ks : List Ev} {kws : List Keyword} {ks : List Str} {x m : Str} {p pos apos : Pos} {o : Expr} {O : Ev}

theorem pk_run (hkw : SndK X g Wx kws ks Ks) (pos : Pos) {pins : List (Addr × Obj)} {s : Shared} {σ : L2.St} {H : Hp} {Q : List V → Hp → Prop} (I : L2.Inv X pins σ H s) (h : tDs X.K g Wx (runE Ks) σ H Q) :
    wpAny (model X.prog X.w) X.A (evalAll ((backToKw pos (keywordEach kws X.env)).map (·.2))) (AP X pins σ Q) X.xe s := (pk_args hkw).run pos pins s σ H Q I h
/-- a def runs, its arguments ahead of it -/
theorem call_run (tk : Takes X Wx) (D : DefOk X g P n i fi) (hr : Rm (4 * n) X.A) (hs : Snds X g Wx es Es) (hkw : SndK X g Wx kws ks Ks) {first : List Value} {fvs : List V} (rf : Vals fvs first) {mu : List Bool}
    {pins : List (Addr × Obj)} {s : Shared} {σ : L2.St} {H : Hp} {Q : VK} (I : L2.Inv X pins σ H s) {fd : FuncData} {dv : List (Option V)} (F : FnG X.prog X.w X.K X.mg X.base (CX X.prog X.w) (4 * n) (g.fa i) fd fi.sig.ps (spF X.K g P n i)) (B : Bnd X.K g fd fi.sig dv)
    (h : tArgs X.K g Wx (runA mu Es) σ H fun vs H1 => tDs X.K g Wx (runE Ks) σ H1 fun zs H2 => Wants X.K g Wx P n i fi.sig dv ks fvs σ Q vs zs H2) :
    wpAny (model X.prog X.w) X.A (callWith pos (.ref (g.fa i)) first (backTo pos (starEach es X.env)) (backToKw pos (keywordEach kws X.env))) (EP X pins σ Q) X.xe s := by
  have fin : ∀ {us ws : List Value} {vs zs : List V} {s2 : Shared} {H2 : Hp}, L2.Inv X pins σ H2 s2 → Vals vs us → Vals zs ws → Wants X.K g Wx P n i fi.sig dv ks fvs σ Q vs zs H2 →
      wpAny (model X.prog X.w) X.A (call (.ref (g.fa i)) (first ++ us) (ks.zip ws)) (EP X pins σ Q) X.xe s2 := fun {us ws vs zs s2 H2} I2 r rz w => by
    obtain ⟨w1, w2, av, w3, w4⟩ := w
    exact run_fnA F hr B (fun e s' c => tk e s' (XE.of_call I2 (fun cls d H' hE => hE) c)) I2 (rf.append r) rz w1 w2 w3 w4
  cases hs with
  | nil =>
    refine callW0 D.kp I.ok.mod.kin hkw (thn (pk_run hkw pos I (runA_nil h)) fun ws s2 ⟨zs, H2, I2, rz, w⟩ => ⟨I2.kIn, fin I2 .nil rz w⟩)
  | cons h1 h2 =>
    refine callW1 D.kp I.ok.mod.kin (.cons h1 h2) hkw (thn ((pa_args (.cons h1 h2) mu).run pos pins s σ H _ I h) fun us s1 ⟨vs, H1, I1, r, q⟩ => ?_)
    exact thn (pk_run hkw pos I1 q) fun ws s2 ⟨zs, H2, I2, rz, w⟩ => ⟨I2.kIn, fin I2 r rz w⟩
/-- f(..) -/
theorem s_call (tk : Takes X Wx) (D : DefOk X g P n i fi) (hr : Rm (4 * n) X.A) (hg : Gl X x) (hm : X.mg x = some (.ref (g.fa i))) (hdb : (x == ("__debug__" : Str)) = false) (hs : Snds X g Wx es Es) (hkw : SndK X g Wx kws ks Ks) :
    Snd X g Wx (.Call (.Name x p) es kws pos) (mkEv (callEv P.gam (callF P n) i [] [] Es ks Ks)) := by
  refine s_plain ⟨fun pins s σ H Q I h => ?_⟩ (fun _ => rfl) fun _ _ => rfl
  obtain ⟨env, S, ft, R, m⟩ := tW_iff.mp h
  obtain ⟨fd, dv, F, B⟩ := D.ex
  refine wpAny_Call_Name_kw (ld_glob I hg hm ?_ hdb)
  refine call_run (fvs := []) tk D hr hs hkw .nil I F B (callEv_args (l0 := []) D.at_ B.df R (first := []) ⟨rfl, rfl⟩ List.nodup_nil (fun a ha => by cases ha) .nil ?_)
  have : (fun a => ft.own a ∨ a ∈ ([] : List Addr)) = ft.own := by
    funext a
    simp
  rw [this]
  exact m
/-- the tree of a method's call -/
theorem methTree {env : PySem.Env} (hb : noSuper o = true) (hform : methodCallForm (es.length + kws.length) (backTo pos (starEach es env)) (backToKw pos (keywordEach kws env)) = true) (hl : (apos.endLine == pos.line) = true) :
    eval (.Call (.Attribute o m apos) es kws pos) env = (do
      let ov ← eval o env
      standAt apos.atName
      let (f, first) ← holding [ov] (getMethod ov m (do return (← importBound o env).getD true))
      callWith pos f first (backTo pos (starEach es env)) (backToKw pos (keywordEach kws env))) := by
  rw [PySem.arm_eval_Call, attributeBase_of hb]
  unfold methodCall
  rw [hform]
  have : ∀ q : Pos, methodCallPos true o env apos pos = pure pos := fun _ => by
    unfold methodCallPos
    rw [hl]; rfl
  rw [this pos]
  rfl
theorem form_of (hs : Snds X g Wx es Es) (hkw : SndK X g Wx kws ks Ks) (hn : es.length + kws.length < 29) : methodCallForm (es.length + kws.length) (backTo pos (starEach es X.env)) (backToKw pos (keywordEach kws X.env)) = true := by
  obtain ⟨n1, n2, n3⟩ := hkw.names X.env pos
  unfold methodCallForm
  have h1 : (backTo pos (starEach es X.env)).all (fun q => !q.1) = true := by
    have := Snds.plain hs X.env pos
    rw [List.all_eq_true]
    intro q hq
    have := List.any_eq_false.mp this q hq
    simpa using this
  rw [h1, n2]
  have : es.length + kws.length + (if (backToKw pos (keywordEach kws X.env)).isEmpty then 0 else 1) < 30 := by split <;> omega
  simpa using this
end

section
variable {K : PySem.W.Frag} {g : G} {Wx : WX} {S H S' H' S1 H1 S2 H2 : Hp} {ft ft' ft1 ft2 : Ft} {env env' env1 env2 : Env} {σ : L2.St} {P : Prg} {n i : Nat} {Es Ks : List Ev} {ks : List Str} {Q : VK} {fi : FI} {dv : List (Option V)}
/-- a promise, the caller's slots aside -/
theorem sp_raw (R : Rel K g env S σ H ft) {ws : List W} {av : List V} {l : List Addr} (r : RWs K g S H ws av l) (nd : l.Nodup) (dj : ∀ a ∈ l, S a = none ∧ ¬ ft.own a) {E : XK}
    (m : match callF P n i ws with
      | .ok w outs => ∀ v S' H' ft', Rel K g env S' σ H' ft → Rel K g (outs ++ [some w]) S' (av.map some ++ [some v]) H' ft' → (∀ a, ft.own a → ¬ ft'.own a) → Step S H (fun a => ft.own a ∨ a ∈ l) S' H' (fun a => ft.own a ∨ ft'.own a) → Q v H'
      | .exc x outs => ∀ cls dx S' H' ft', Rel K g env S' σ H' ft → Rel K g outs S' (av.map some) H' ft' → (∀ a, ft.own a → ¬ ft'.own a) → Step S H (fun a => ft.own a ∨ a ∈ l) S' H' (fun a => ft.own a ∨ ft'.own a) → RX K g S' x cls dx → E cls dx H'
      | .bad => False) : spF K g P n i av H Q E := by
  obtain ⟨ftA, RA, hA⟩ := rws_rel R.sub r nd fun a ha => (dj a ha).1
  have dA : ∀ a, ft.own a → ¬ ftA.own a := fun a h1 h2 => (dj a ((hA a).mp h2)).2 h1
  have stp : ∀ {S' H' : Hp} {ft' : Ft}, Step S H ftA.own S' H' ft'.own → Step S H (fun a => ft.own a ∨ a ∈ l) S' H' (fun a => ft.own a ∨ ft'.own a) := fun st => ((st.frame ft.own).pre fun a ha => by
    rcases ha with ha | ha
    · exact .inr ((hA a).mp ha)
    · exact .inl ha).post fun a ha => ha.elim .inr .inl
  refine ⟨ws, S, ftA, RA, ?_⟩
  cases e : callF P n i ws with
  | ok w outs =>
    rw [e] at m
    intro v S' H' ft' R' st
    obtain ⟨RB, dB⟩ := R.aside dA st R'.sub
    exact m v S' H' ft' RB R' dB (stp st)
  | exc x outs =>
    rw [e] at m
    intro cls dx S' H' ft' R' st rx
    obtain ⟨RB, dB⟩ := R.aside dA st R'.sub
    exact m cls dx S' H' ft' RB R' dB (stp st) rx
  | bad => rw [e] at m; exact m
/-- what __init__ promises, read off the evaluation of a class's call -/
def WantsMk (K : PySem.W.Frag) (g : G) (Wx : WX) (P : Prg) (n i c : Nat) (sg : Sig) (dv : List (Option V)) (ks : List Str) (σ : L2.St) (Q : VK) (vs zs : List V) (H : Hp) : Prop :=
  ∀ x dx, H x = none → H dx = none → dx ≠ x → kwOk sg.ps (V.ref x :: vs).length ks = true ∧ ks.length = zs.length ∧ ∃ av, arr (ks.zip zs) sg.ps dv (.ref x :: vs) = some av ∧
    spF K g P n i av (upd (upd H dx (.own x)) x (.ins (g.ca c) dx [])) (fun v H2 => v = .non ∧ Q (.ref x) H2) fun cls dx H' => Wx cls dx σ H'
theorem mkEv_args {c : Nat} (hc : P.ini c = some i) (hf : P.fn i = some fi) (hd : DfR K g fi.sig.df dv) (hcl : Cls K (g.ca c)) (R : Rel K g env S σ H ft)
    (m : After K g Wx σ S H ft.own Q (mkObj P.gam (callF P n) c Es ks Ks env)) :
    tArgs K g Wx (runA (fi.sig.mu.drop 1) Es) σ H fun vs H1 => tDs K g Wx (runE Ks) σ H1 fun zs H2 => WantsMk K g Wx P n i c fi.sig dv ks σ Q vs zs H2 := by
  have hsig : P.gam.sig i = some fi.sig := by show (P.fn i).map _ = _; rw [hf]; rfl
  have hini : P.gam.ini c = some i := hc
  unfold mkObj at m
  rw [hini] at m
  simp only [hsig] at m
  refine ⟨env, S, ft, R, ?_⟩
  by_cases hmu : fi.sig.mu.headD false = true
  case neg => rw [if_neg hmu] at m; exact m.elim
  rw [if_pos hmu] at m
  cases e1 : runA (fi.sig.mu.drop 1) Es env with
  | bad => simp only [e1, Rf.R.bind_bad] at m; exact m
  | exc x env1 =>
    simp only [e1, Rf.R.bind_exc] at m
    exact fun cls dx S1 H1 ft1 R1 st1 => m cls dx S1 H1 ft1 R1 st1
  | ok p env1 =>
    simp only [e1, Rf.R.bind_ok] at m
    intro vs S1 H1 ft1 l R1 rs nd dj bk st1
    refine ⟨env1, S1, ft1, R1, ?_⟩
    cases e2 : runE Ks env1 with
    | bad => simp only [e2, Rf.R.bind_bad] at m; exact m
    | exc x env2 =>
      simp only [e2, Rf.R.bind_exc] at m
      exact fun cls dx S2 H2 ft2 R2 st2 => m cls dx S2 H2 ft2 R2 (st1.trans (st2.pre fun a => .inl))
    | ok kv env2 =>
      simp only [e2, Rf.R.bind_ok] at m
      intro zs S2 H2 ft2 R2 st2 rk x dx hx hdx hne
      have hES : Es.length = p.1.length := runA_len e1
      split at m
      · rename_i cc
        obtain ⟨c1, c2⟩ := Bool.and_eq_true_iff.mp cc
        have hk2 : kv.length = Ks.length := runE_len e2
        have rkl := RDs.length rk
        have nA : p.1.length = vs.length := RWs.length rs
        split at m
        · rename_i ws ea
          obtain ⟨rA2, djA2, outA2⟩ : RWs K g S2 H2 p.1 vs l ∧ (∀ a ∈ l, ¬ ft2.own a) ∧ ∀ a ∈ l, S2 a = none := by
            have there := RWs.there _ _ _ rs
            refine ⟨RWs.move st2.same _ _ _ (fun a ha => ?_) rs, fun a ha hb => ?_, fun a ha => ?_⟩
            · obtain ⟨o, e⟩ := there a ha
              rw [e, st2.keep a o e (dj a ha).2]
            · obtain ⟨o, e⟩ := there a ha
              rcases st2.own a hb with z | z
              · exact (dj a ha).2 z
              · rw [e] at z; cases z
            · obtain ⟨o, e⟩ := there a ha
              cases q : S2 a with
              | none => rfl
              | some u =>
                rcases st2.grow a u q with z | z | z
                · rw [(dj a ha).1] at z; cases z
                · rw [e] at z; cases z
                · exact absurd z (dj a ha).2
          have sm3 : Same H2 (upd (upd H2 dx (.own x)) x (.ins (g.ca c) dx [])) := fun b o e => by
            rw [upd_ne (ne_of_none e hx), upd_ne (ne_of_none e hdx)]; exact e
          have R3 : Rel K g env2 S2 σ (upd (upd H2 dx (.own x)) x (.ins (g.ca c) dx [])) ft2 := R2.grow (Sm.refl _) sm3 (fun a o e => sm3 a o (R2.sub a o e)) fun a o e => .inl e
          have thl := RWs.there _ _ _ rA2
          have hxl : x ∉ l := fun z => by
            obtain ⟨o, e⟩ := thl x z
            rw [hx] at e; cases e
          have r3 : RWs K g S2 (upd (upd H2 dx (.own x)) x (.ins (g.ca c) dx [])) (.oI c [] [] :: p.1) (.ref x :: vs) ([x] ++ l) := by
            refine ⟨.ref x, vs, [x], l, rfl, rfl, ⟨x, dx, [], [], rfl, rfl, upd_same, ⟨rfl, rfl⟩, rfl, hcl, fun f hf => by cases hf⟩, RWs.move (Sm.refl _) _ _ _ (fun a ha => ?_) rA2⟩
            obtain ⟨o, e⟩ := thl a ha
            rw [e, sm3 a o e]
          obtain ⟨av, hav, rav⟩ := arr_rel (ks := ks) rk hd r3 ea
          refine ⟨?_, ?_, av, hav, ?_⟩
          · rw [List.length_cons, ← nA, ← hES, Nat.add_comm]; exact c1
          · rw [beq_iff_eq.mp c2, ← hk2, rkl]
          · have hx2 : ¬ ft2.own x := fun ⟨j, hj⟩ => R2.fresh hx j hj
            have st3 : Step S2 H2 (fun a => ft2.own a ∨ a ∈ l) S2 (upd (upd H2 dx (.own x)) x (.ins (g.ca c) dx [])) (fun a => ft2.own a ∨ a ∈ [x] ++ l) :=
              ⟨Sm.refl _, fun a o e _ => sm3 a o e, fun a ha => by
                rcases ha with ha | ha
                · exact .inl (.inl ha)
                · rcases List.mem_append.mp ha with ha | ha
                  · have : a = x := by simpa using ha
                    subst this
                    exact .inr hx
                  · exact .inl (.inr ha), fun a o e => .inl e, fun a o e => ⟨o, sm3 a o e⟩⟩
            have stA : Step S H ft.own S2 (upd (upd H2 dx (.own x)) x (.ins (g.ca c) dx [])) (fun a => ft2.own a ∨ a ∈ [x] ++ l) := (st1.trans (st2.frame fun a => a ∈ l)).trans st3
            refine sp_raw R3 rav (by
              refine List.nodup_append.mpr ⟨by simp, nd, fun a ha b hb e => ?_⟩
              have : a = x := by simpa using ha
              subst this
              exact hxl (e ▸ hb)) (fun a ha => ?_) ?_
            · rcases List.mem_append.mp ha with ha | ha
              · have : a = x := by simpa using ha
                subst this
                exact ⟨R2.freshS hx, hx2⟩
              · exact ⟨outA2 a ha, djA2 a ha⟩
            · obtain ⟨q, hq⟩ := arr_pre hav
              obtain ⟨k1, k2⟩ := callF_len (n := n) (ws := ws) hf
              have hwl := RWs.length rav
              have bk2 : BkR env2 σ (p.2 ++ List.replicate q.length .no) (vs ++ q) := (bk.len (by
                have h1 := R1.len
                have h2 := R2.len
                omega)).append bk_no
              cases e3 : callF P n i ws with
              | ok w outs =>
                rw [e3] at m
                intro v S' H' ft' RB R' dB st
                obtain ⟨hl1, hl2⟩ := k1 _ _ e3
                cases outs with
                | nil => cases w <;> first | exact m.elim | (rename_i d; cases d <;> exact m.elim)
                | cons o outs =>
                  have ew : w = .sh .non ∧ ∃ w', o = some w' := by
                    cases w with
                    | sh d =>
                      cases d with
                      | non =>
                        cases o with
                        | none => exact m.elim
                        | some w' => exact ⟨rfl, w', rfl⟩
                      | _ => exact m.elim
                    | _ => exact m.elim
                  obtain ⟨rfl, w', rfl⟩ := ew
                  simp only at m
                  subst hq
                  have R'2 : Rel K g (some w' :: (outs ++ [some (.sh .non)])) S' (some (.ref x) :: ((vs ++ q).map some ++ [some v])) H' ft' := by simpa using R'
                  obtain ⟨u, eu, ru⟩ := R'2.head
                  cases eu
                  have R'3 := R'2.tail
                  have hlo : outs.length = (vs ++ q).length := by
                    simp only [List.length_cons, List.length_append] at hl2 hwl ⊢
                    omega
                  obtain ⟨ft3, ft4, b1, b2, b3, b4, b5⟩ := backs_rel (bs := p.2 ++ List.replicate q.length .no) (outs := outs) (rest := [some (.sh .non)]) (vs := vs ++ q) (ρ := [some v]) RB R'3 hlo (fun a ha ⟨j, hj⟩ => dB a ha ⟨j + 1, hj⟩) bk2
                  rw [backs_pad] at b1
                  obtain ⟨v', ev, rv⟩ := b2.head
                  cases ev
                  have d3 : ∀ j a, a ∈ ft' 0 → a ∉ ft3 j := fun j a ha hb => by
                    rcases b4 a ⟨j, hb⟩ with z | ⟨k, z⟩
                    · exact dB a z ⟨0, ha⟩
                    · exact R'.dj 0 (k + 1) a (by omega) ha z
                  refine ⟨rv.2, m _ S' H' _ (b1.push ru (R'.nd 0) d3 fun a ha => R'.out 0 a ha) (stA.trans (st.post fun a ⟨j, hj⟩ => ?_))⟩
                  by_cases q : j = (backs p.2 outs env2).length
                  · subst q; rw [Ft.put_self] at hj; exact .inr ⟨0, hj⟩
                  · rw [Ft.put_ne q] at hj
                    rcases b4 a ⟨j, hj⟩ with z | ⟨k, z⟩
                    · exact .inl z
                    · exact .inr ⟨k + 1, z⟩
              | exc x0 outs =>
                rw [e3] at m
                intro cls dx0 S' H' ft' RB R' dB st rx
                obtain ⟨hl1, hl2⟩ := k2 _ _ e3
                cases outs with
                | nil => exact m.elim
                | cons o outs =>
                  simp only at m
                  subst hq
                  have R'2 : Rel K g (o :: (outs ++ [])) S' (some (.ref x) :: ((vs ++ q).map some ++ [])) H' ft' := by simpa using R'
                  have R'3 := R'2.tail
                  have hlo : outs.length = (vs ++ q).length := by
                    simp only [List.length_cons, List.length_append] at hl2 hwl ⊢
                    omega
                  obtain ⟨ft3, ft4, b1, b2, b3, b4, b5⟩ := backs_rel (bs := p.2 ++ List.replicate q.length .no) (outs := outs) (rest := []) (vs := vs ++ q) (ρ := []) RB R'3 hlo (fun a ha ⟨j, hj⟩ => dB a ha ⟨j + 1, hj⟩) bk2
                  rw [backs_pad] at b1
                  refine m cls dx0 S' H' ft3 b1 (stA.trans (st.post fun a ha => ?_)) rx
                  rcases b4 a ha with z | ⟨k, z⟩
                  · exact .inl z
                  · exact .inr ⟨k + 1, z⟩
              | bad => rw [e3] at m; exact m.elim
        · exact m.elim
      · exact m.elim
end
end Rf

namespace Rf
open PySem L2 PyProof.Rows

section
variable {X : Cx} {g : G} {Wx : WX} {P : Prg} {n i c : Nat} {fi : FI} {es : List Expr} {Es Ks : List Ev} {kws : List Keyword} {ks : List Str} {x m : Str} {p pos apos : Pos} {o : Expr} {O : Ev}

theorem run_makeA {k : Nat} {C f : Addr} {fd : FuncData} {sg : Sig} {dv : List (Option V)} {sp : Sp} {CXw : CXT} {pins : List (Addr × Obj)} {σ : L2.St} {H : Hp} {s : Shared} {Q : VK} {us ws : List Value} {vs zs : List V} {E : XK} (M : Mk X.K C f)
    (F : FnG X.prog X.w X.K X.mg X.base CXw k f fd sg.ps sp) (hr : Rm (k + 1) X.A) (B : Bnd X.K g fd sg dv)
    (hx : ∀ {H : Hp} {s : Shared}, L2.Inv X pins σ H s → ∀ e s', CXw X.stack H s E e s' → X.xe e s') (I : L2.Inv X pins σ H s) (r : Vals vs us) (rz : Vals zs ws)
    (h : ∀ x dx, H x = none → H dx = none → dx ≠ x → kwOk sg.ps (V.ref x :: vs).length ks = true ∧ ks.length = zs.length ∧ ∃ av, arr (ks.zip zs) sg.ps dv (.ref x :: vs) = some av ∧
      sp av (upd (upd H dx (.own x)) x (.ins C dx [])) (fun v H2 => v = .non ∧ Q (.ref x) H2) E) :
    wpAny (model X.prog X.w) X.A (call (.ref C) us (ks.zip ws)) (EP X pins σ Q) X.xe s := by
  obtain ⟨w1, w2, av, w3, hq⟩ := h (s.heap.objs.size + 1) s.heap.objs.size (I.hok.fresh (Nat.le_succ _)) (I.hok.fresh (Nat.le_refl _)) (Nat.ne_of_lt (Nat.lt_succ_self _))
  have I2 := Inv.made (C := C) I
  have r2 : Vals (V.ref (s.heap.objs.size + 1) :: vs) (Value.ref (s.heap.objs.size + 1) :: us) := .cons rfl r
  obtain ⟨au, hb, r3⟩ := B.to r2 rz w1 w2 w3 I2.kIn
  refine wpAny_call (make_map (f := f) I.kIn M.makes M.init (beq_iff_eq.mp M.fn) (codeAny_mono (F.run _ X.stack _ _ ⟨Value.ref (s.heap.objs.size + 1) :: us, ks.zip ws⟩ au _ _ E (hr.make C us _)
    (I2.env0.make C us _) hb r3 hq) fun r s' hq' => ?_))
  cases r with
  | error e => exact hx I2 e s' hq'
  | ok fl =>
    cases fl with
    | ret u =>
      obtain ⟨v, H', I3, rv, ev, q3⟩ := I2.after hq'
      subst ev
      exact ⟨rv, ⟨V.ref (s.heap.objs.size + 1), H', I3, rfl, q3⟩⟩
    | next => exact False.elim hq'
    | brk => exact False.elim hq'
    | cont => exact False.elim hq'
/-- C(..) -/
theorem s_mk (tk : Takes X Wx) (hc : P.ini c = some i) (D : DefOk X g P n i fi) (M : Mk X.K (g.ca c) (g.fa i)) (hcl : Cls X.K (g.ca c)) (hr : Rm (4 * n + 1) X.A) (hg : Gl X x) (hm : X.mg x = some (.ref (g.ca c))) (hdb : (x == ("__debug__" : Str)) = false) (hs : Snds X g Wx es Es) (hkw : SndK X g Wx kws ks Ks) :
    Snd X g Wx (.Call (.Name x p) es kws pos) (mkEv (mkObj P.gam (callF P n) c Es ks Ks)) := by
  refine s_plain ⟨fun pins s σ H Q I h => ?_⟩ (fun _ => rfl) fun _ _ => rfl
  obtain ⟨env, S, ft, R, m⟩ := tW_iff.mp h
  obtain ⟨fd, dv, F, B⟩ := D.ex
  have q := mkEv_args hc D.at_ B.df hcl R m
  refine wpAny_Call_Name_kw (ld_glob I hg hm ?_ hdb)
  have fin : ∀ {us ws : List Value} {vs zs : List V} {s2 : Shared} {H2 : Hp}, L2.Inv X pins σ H2 s2 → Vals vs us → Vals zs ws → WantsMk X.K g Wx P n i c fi.sig dv ks σ Q vs zs H2 →
      wpAny (model X.prog X.w) X.A (call (.ref (g.ca c)) us (ks.zip ws)) (EP X pins σ Q) X.xe s2 := fun {us ws vs zs s2 H2} I2 r rz w =>
    run_makeA M F hr B (fun I3 e s' cx => tk e s' (XE.of_call I3 (fun cls d H' hE => hE) cx)) I2 r rz w
  cases hs with
  | nil =>
    refine callW0 M.kp I.ok.mod.kin hkw (thn (pk_run hkw pos I (runA_nil q)) fun ws s2 ⟨zs, H2, I2, rz, w⟩ => ⟨I2.kIn, fin I2 .nil rz w⟩)
  | cons h1 h2 =>
    refine callW1 M.kp I.ok.mod.kin (.cons h1 h2) hkw (thn ((pa_args (.cons h1 h2) _).run pos pins s σ H _ I q) fun us s1 ⟨vs, H1, I1, r, q⟩ => ?_)
    exact thn (pk_run hkw pos I1 q) fun ws s2 ⟨zs, H2, I2, rz, w⟩ => ⟨I2.kIn, fin I2 r rz w⟩

theorem meth_not {K : PySem.W.Frag} {g : G} {c : Nat} {fs : List Str} {m : Str} {f : Addr} (h : ClsOk K g c fs) (k : Meth K (g.ca c) m f) : m ∉ fs := fun hm => by
  have h1 := h.2 m hm
  have h2 := k.at_
  unfold NoAttr at h1
  rw [h1] at h2
  cases h2
theorem zip_none {m : Str} {α : Type} : ∀ {fs : List Str} {vs : List α}, m ∉ fs → (fs.zip vs).lookup m = none := fun {fs vs} h => look_none fun z => h (by
  obtain ⟨p, hp, e⟩ := List.mem_map.mp z
  have := (List.of_mem_zip (show (p.1, p.2) ∈ fs.zip vs from hp)).1
  rw [← e]; exact this)
/-- o.m(..) -/
theorem s_meth (tk : Takes X Wx) (hM : ∀ c f, P.meth c m = some f → ∃ fi, DefOk X g P n f fi ∧ Meth X.K (g.ca c) m (g.fa f)) (hr : Rm (4 * n) X.A) (ho : Snd X g Wx o O) (hs : Snds X g Wx es Es) (hkw : SndK X g Wx kws ks Ks)
    (hb : noSuper o = true) (hn : es.length + kws.length < 29) (hl : (apos.endLine == pos.line) = true) :
    Snd X g Wx (.Call (.Attribute o m apos) es kws pos) (mkEv (methEv P.gam (callF P n) m O Es ks Ks)) := by
  refine s_plain ⟨fun pins s σ H Q I h => ?_⟩ (fun _ => rfl) fun _ _ => rfl
  refine PySem.W.methodCall_KW (pl := do return (← importBound o X.env).getD true) ?_ (methTree hb (form_of hs hkw hn) hl)
  obtain ⟨env, S, ft, R, mm⟩ := tW_iff.mp h
  unfold methEv at mm
  -- an object that is shared
  have shared : ∀ {env : Env} {S : Hp} {ft : Ft} {d : D} {v : V} {u : Value} {s1 : Shared} {H1 : Hp}, L2.Inv X pins σ H1 s1 → RelV v u → Rel X.K g env S σ H1 ft → RD X.K g S d v → After X.K g Wx σ S H1 ft.own Q (methOf P.gam (callF P n) m Es ks Ks d env) →
      wpAny (model X.prog X.w) X.A (getMethod u m (do return (← importBound o X.env).getD true)) (fun fx s₂ => wpAny (model X.prog X.w) X.A (callWith pos fx.1 fx.2 (backTo pos (starEach es X.env)) (backToKw pos (keywordEach kws X.env))) (EP X pins σ Q) X.xe s₂) X.xe s1 := fun {env S ft d v u s1 H1} I1 ru R r mm => by
    cases d with
    | ins c fs ds =>
      obtain ⟨a, dx, vs, rfl, e1, e2, e3, e4⟩ := id r
      unfold methOf at mm
      simp only at mm
      cases e5 : P.gam.meth c m with
      | none => rw [e5] at mm; exact mm.elim
      | some f =>
        rw [e5] at mm
        obtain ⟨fi, D, ME⟩ := hM c f e5
        have hsig : P.gam.sig f = some fi.sig := by show (P.fn f).map _ = _; rw [D.at_]; rfl
        simp only [hsig] at mm
        split at mm
        · exact mm.elim
        · cases ru
          obtain ⟨fd, dv, F, B⟩ := D.ex
          refine getmeth_ok I1 (R.sub _ _ e1) e4.1 ME (zip_none (meth_not e4 ME)) ?_
          refine call_run (fvs := [.ref a]) tk D hr hs hkw (.cons rfl .nil) I1 F B (callEv_args (l0 := []) D.at_ B.df R (first := [.sh (.ins c fs ds)]) ⟨.ref a, [], [], [], rfl, rfl, ⟨rfl, r⟩, rfl, rfl⟩ List.nodup_nil (fun a ha => by cases ha) (.no .nil) ?_)
          have : (fun a => ft.own a ∨ a ∈ ([] : List Addr)) = ft.own := by
            funext a
            simp
          rw [this]
          exact mm
    | _ => exact mm.elim
  cases eo : ownAt O.pk env with
  | none =>
    rw [eo] at mm
    simp only at mm
    refine thn (ho.pe.run pins s σ H (fun v H1 => ∃ env S ft d, Rel X.K g env S σ H1 ft ∧ RD X.K g S d v ∧ After X.K g Wx σ S H1 ft.own Q (methOf P.gam (callF P n) m Es ks Ks d env)) I ?_) fun u s1 ⟨v, H1, I1, ru, env, S, ft, d, R, r, q⟩ => shared I1 ru R r q
    refine ⟨env, S, ft, R, ?_⟩
    cases e1 : O.e env with
    | ok d env1 =>
      simp only [e1, Rf.R.bind_ok] at mm
      exact fun v S1 H1 ft1 R1 st r => ⟨env1, S1, ft1, d, R1, r, mm.pre st⟩
    | exc x env1 =>
      simp only [e1, Rf.R.bind_exc] at mm
      exact mm
    | bad => simp only [e1, Rf.R.bind_bad] at mm; exact mm
  | some q =>
    obtain ⟨i, c, fs, ws⟩ := q
    rw [eo] at mm
    simp only at mm
    -- an object that a slot owns
    unfold ownAt at eo
    cases pk : O.pk with
    | no => rw [pk] at eo; cases eo
    | fld i f => rw [pk] at eo; cases eo
    | var j =>
      rw [pk] at eo
      simp only at eo
      split at eo
      · rename_i c' fs' ws' e0
        cases eo
        obtain ⟨v, e1, r⟩ := R.slot i _ e0
        have hi : i < env.length := (List.getElem?_eq_some_iff.mp e0).1
        cases e5 : P.gam.meth c m with
        | none => rw [e5] at mm; exact mm.elim
        | some f =>
          rw [e5] at mm
          obtain ⟨fi, D, ME⟩ := hM c f e5
          have hsig : P.gam.sig f = some fi.sig := by show (P.fn f).map _ = _; rw [D.at_]; rfl
          simp only [hsig] at mm
          split at mm
          · refine thn ((ho.pv i pk).1.run pins s σ H (fun u H1 => u = v ∧ H1 = H) I ⟨v, e1, rfl, rfl⟩) fun u s1 ⟨v', H1, I1, ru, q⟩ => ?_
            obtain ⟨rfl, rfl⟩ := q
            obtain ⟨a, dx, vs, ft', rfl, e2, e3, e4, e6, e7⟩ := id r
            cases ru
            obtain ⟨fd, dv, F, B⟩ := D.ex
            refine getmeth_ok I1 e3 e7.1 ME (zip_none (meth_not e7 ME)) ?_
            refine call_run (fvs := [.ref a]) tk D hr hs hkw (.cons rfl .nil) I1 F B (callEv_args (l0 := ft i) D.at_ B.df (R.lend i) (first := [.oI c fs ws]) ⟨.ref a, [], ft i, [], rfl, by simp, r, rfl, rfl⟩ (R.nd i) (fun b hb => ⟨R.out i b hb, fun ⟨j, hj⟩ => ?_⟩) (.var (by simpa using hi) e1 .nil) ?_)
            · unfold Ft.off at hj
              split at hj
              · cases hj
              · rename_i q
                exact R.dj i j b (Ne.symm q) hb hj
            · refine mm.pre (Step.refl.post fun b hb => ?_)
              rcases hb with hb | hb
              · exact off_own hb
              · exact ⟨i, hb⟩
          · exact mm.elim
      · cases eo
end
end Rf

namespace Rf
open PySem L2 PyProof.Rows

section
variable {X : Cx} {g : G} {Wx : WX} {Γ : Gam} {C : Call} {K : PySem.W.Frag} {S H S' H' : Hp} {ft ft' : Ft} {env env' : Env} {σ : L2.St} {a b e : Expr} {A B E : Ev} {es : List Expr} {Es : List Ev} {pos : Pos}

inductive SndsS (X : Cx) (g : G) (Wx : WX) : List Expr → List Ev → Prop
  | nil : SndsS X g Wx [] []
  | one {e : Expr} {E : Ev} {es : List Expr} {Es : List Ev} : Snd X g Wx e E → E.star = false → SndsS X g Wx es Es → SndsS X g Wx (e :: es) (E :: Es)
  | star {e : Expr} {E : Ev} {es : List Expr} {Es : List Ev} {p : Pos} : Snd X g Wx e E → SndsS X g Wx es Es → SndsS X g Wx (.Starred e p :: es) ({ E with star := true } :: Es)
theorem runS_nil {Q : List V → Hp → Prop} (h : tDs K g Wx (runS []) σ H Q) : Q [] H := by
  obtain ⟨env, S, ft, R, m⟩ := h
  simp only [runS] at m
  exact m [] S H ft R .refl .nil
theorem runS_one {Q : List V → Hp → Prop} (hs : E.star = false) (h : tDs K g Wx (runS (E :: Es)) σ H Q) : tE K g Wx E.e σ H fun x H1 => tDs K g Wx (runS Es) σ H1 fun xs H2 => Q (x :: xs) H2 := by
  obtain ⟨env, S, ft, R, m⟩ := h
  unfold runS at m
  refine ⟨env, S, ft, R, ?_⟩
  cases e1 : E.e env with
  | ok d env1 =>
    simp only [e1, Rf.R.bind_ok, hs] at m
    intro v S1 H1 ft1 R1 st1 r1
    refine ⟨env1, S1, ft1, R1, ?_⟩
    cases e2 : runS Es env1 with
    | ok p env2 =>
      simp only [e2, Rf.R.bind_ok] at m
      intro vs S2 H2 ft2 R2 st2 rs
      exact m (v :: vs) S2 H2 ft2 R2 (st1.trans st2) (.cons (RD.mono st2.same _ _ r1) rs)
    | exc x env2 =>
      simp only [e2, Rf.R.bind_exc] at m
      exact fun cls dx S2 H2 ft2 R2 st2 => m cls dx S2 H2 ft2 R2 (st1.trans st2)
    | bad => simp only [e2, Rf.R.bind_bad] at m; exact m
  | exc x env1 => simp only [e1, Rf.R.bind_exc] at m; exact m
  | bad => simp only [e1, Rf.R.bind_bad] at m
theorem seq_ok {d : D} {l : List D} {v : V} (sub : ∀ a o, S a = some o → H a = some o) (h : d.seq? = some l) (r : RD K g S d v) : ∃ p xs, v = V.ref p ∧ (SqT K H p xs ∨ SqL K H p xs) ∧ RDs K g S l xs := by
  cases d with
  | lst l =>
    cases h
    obtain ⟨a, vs, e3, e4, r⟩ := r
    exact ⟨a, vs, e3, .inr (SqL.of (sub _ _ e4)), r⟩
  | tup l =>
    cases h
    obtain ⟨a, vs, e3, e4, r⟩ := r
    exact ⟨a, vs, e3, .inl (SqT.of (sub _ _ e4)), r⟩
  | _ => cases h
theorem runS_star {Q : List V → Hp → Prop} (h : tDs K g Wx (runS ({ E with star := true } :: Es)) σ H Q) : StX.tStar K (tE K g Wx E.e) (tDs K g Wx (runS Es)) σ H Q := by
  obtain ⟨env, S, ft, R, m⟩ := h
  unfold runS at m
  have ee : Ev.e { E with star := true } env = E.e env := rfl
  rw [ee] at m
  refine ⟨env, S, ft, R, ?_⟩
  cases e1 : E.e env with
  | ok d env1 =>
    simp only [e1, Rf.R.bind_ok, if_true] at m
    intro v S1 H1 ft1 R1 st1 r1
    cases e0 : d.seq? with
    | none => rw [e0] at m; exact m.elim
    | some l =>
      rw [e0] at m
      simp only at m
      obtain ⟨p, xs, ev, hs, rl⟩ := seq_ok R1.sub e0 r1
      refine ⟨p, xs, ev, hs, env1, S1, ft1, R1, ?_⟩
      cases e2 : runS Es env1 with
      | ok p env2 =>
        simp only [e2, Rf.R.bind_ok] at m ⊢
        exact fun us S2 H2 ft2 R2 st2 rs => m _ S2 H2 ft2 R2 (st1.trans st2) (RDs.append (RDs.mono st2.same _ _ rl) rs)
      | exc x env2 =>
        simp only [e2, Rf.R.bind_exc] at m ⊢
        exact fun cls dx S2 H2 ft2 R2 st2 => m cls dx S2 H2 ft2 R2 (st1.trans st2)
      | bad => simp only [e2, Rf.R.bind_bad] at m
  | exc x env1 => simp only [e1, Rf.R.bind_exc] at m; exact m
  | bad => simp only [e1, Rf.R.bind_bad] at m
theorem pa_disp (h : SndsS X g Wx es Es) : PA X es (tDs X.K g Wx (runS Es)) := by
  induction h with
  | nil => exact ⟨fun pos pins s σ H Q I q => (pa_nil (X := X)).run pos pins s σ H Q I (runS_nil q)⟩
  | one h1 hs h2 ih => exact ⟨fun pos pins s σ H Q I q => (pa_cons h1.pe ih (h1.ns _ _)).run pos pins s σ H Q I (runS_one hs q)⟩
  | star h1 h2 ih => exact ⟨fun pos pins s σ H Q I q => (StX.pa_star h1.pe ih).run pos pins s σ H Q I (runS_star q)⟩
theorem s_tup {x1} (h : SndsS X g Wx es Es) : Snd X g Wx (.Tuple es x1 pos) (mkEv fun env => (runS Es env).bind fun ds env' => if ds.length ≤ lim then .ok (.sh (.tup ds)) env' else .bad) := by
  refine s_plain (PE.imp (pe_tup (pa_disp h)) fun σ H Q ⟨env, S, ft, R, m⟩ => ⟨env, S, ft, R, ?_⟩) (fun _ => rfl) fun _ _ => rfl
  cases e : runS Es env with
  | ok ds env1 =>
    simp only [e, Rf.R.bind_ok] at m
    intro vs S1 H1 ft1 R1 st rs
    by_cases c : ds.length ≤ lim
    · simp only [c, if_true] at m
      refine ⟨by rw [slim, ← rs.length]; exact c, fun p hp => FinW.newT R1.sub hp rs (fin_of R1 fun v S2 H2 ft2 R2 st2 => m v S2 H2 ft2 R2 (st.trans st2))⟩
    · simp only [c, if_false] at m
  | exc x env1 => simp only [e, Rf.R.bind_exc] at m; exact m
  | bad => simp only [e, Rf.R.bind_bad] at m
theorem s_lst (h : SndsS X g Wx es Es) : Snd X g Wx (.List es pos) (mkEv fun env => (runS Es env).bind fun ds env' => if ds.length ≤ lim then .ok (.oL ds) env' else .bad) := by
  refine s_plain (PE.imp (pe_lst (pa_disp h)) fun σ H Q ⟨env, S, ft, R, m⟩ => ⟨env, S, ft, R, ?_⟩) (fun _ => rfl) fun _ _ => rfl
  cases e : runS Es env with
  | ok ds env1 =>
    simp only [e, Rf.R.bind_ok] at m
    intro vs S1 H1 ft1 R1 st rs
    by_cases c : ds.length ≤ lim
    · simp only [c, if_true] at m
      refine ⟨by rw [slim, ← rs.length]; exact c, fun p hp => FinW.newL R1.sub hp rs (fin_of R1 fun v S2 H2 ft2 R2 st2 => m v S2 H2 ft2 R2 (st.trans st2))⟩
    · simp only [c, if_false] at m
  | exc x env1 => simp only [e, Rf.R.bind_exc] at m; exact m
  | bad => simp only [e, Rf.R.bind_bad] at m

/-- does an own class answer -/
def ownOp (o : Op) (a b : D) : Bool := match o with
  | .idx => a.isIns
  | .eq => a.isIns
  | .ne => a.isIns
  | .isin => b.isIns
  | .notin => b.isIns
  | _ => false
theorem evOp_plain {o : Op} {a b : D} (h : ownOp o a b = false) (env : Env) : evOp Γ C o [a, b] env = match opD o [a, b] with | some w => .ok w env | none => .bad := by
  cases o with
  | idx => cases a <;> first | rfl | cases h
  | eq => cases a <;> first | rfl | cases h
  | ne => cases a <;> first | rfl | cases h
  | isin => cases b <;> first | rfl | cases h
  | notin => cases b <;> first | rfl | cases h
  | len => cases a <;> rfl
  | _ => rfl
/-- an operation on two values, by its evaluation -/
def OpS (X : Cx) (g : G) (Wx : WX) (Γ : Gam) (C : Call) (o : Op) (own : Bool) (f : Value → Value → Sem Value) : Prop :=
  ∀ (pins : List (Addr × Obj)) (s : Shared) (σ : L2.St) (H : Hp) (x y : V) (v u : Value) (Q : VK) (env : Env) (S : Hp) (ft : Ft) (a b : D), (own = true → ownOp o a b = true) → (ownOp o a b = true → RD X.K g S a x ∧ RD X.K g S b y) → L2.Inv X pins σ H s → RelV x v → RelV y u → Rel X.K g env S σ H ft → PD X.K g S H a x → PD X.K g S H b y →
    After X.K g Wx σ S H ft.own Q (evOp Γ C o [a, b] env) → wpAny (model X.prog X.w) X.A (f v u) (EP X pins σ Q) X.xe s
theorem opS_of {o : Op} {f : Value → Value → Sem Value} (ho : OpR X f fun x y H Q => rOp X.K g o [x, y] H Q) (hw : OpS X g Wx Γ C o true f) : OpS X g Wx Γ C o false f := by
  intro pins s σ H x y v u Q env S ft a b _ rd I rx ry R ha hb m
  cases q : ownOp o a b with
  | true => exact hw pins s σ H x y v u Q env S ft a b (fun _ => q) rd I rx ry R ha hb m
  | false =>
    rw [evOp_plain q] at m
    refine ho pins s σ H x y v u Q I rx ry ?_
    cases e : opD o [a, b] with
    | none => rw [e] at m; exact m.elim
    | some w =>
      rw [e] at m
      exact ⟨S, [a, b], w, R.sub, .cons ha (.cons hb .nil), e, fin_of R fun v S2 H2 ft2 R2 st2 => m v S2 H2 ft2 R2 st2⟩
/-- operations that no own class may answer -/
def noOwn : Op → Bool
  | .idx => false | .eq => false | .ne => false | .isin => false | .notin => false | .len => false
  | _ => true
theorem opS_none {o : Op} {f : Value → Value → Sem Value} (h : noOwn o = true) : OpS X g Wx Γ C o true f := by
  intro pins s σ H x y v u Q env S ft a b hw
  have := hw rfl
  cases o <;> first | (cases h; done) | exact absurd (show false = true from this) Bool.false_ne_true
/-- operands, then the operation -/
theorem op_two {o : Op} {Q : VK} (h : tW K g Wx (opEv Γ C o [A, B]) σ H Q) : tO K g Wx A σ H fun x H1 => tO K g Wx B σ H1 fun y H2 => ∃ env S ft a b, Rel K g env S σ H2 ft ∧ PD K g S H2 a x ∧ PD K g S H2 b y ∧ (ownOp o a b = true → RD K g S a x ∧ RD K g S b y) ∧ After K g Wx σ S H2 ft.own Q (evOp Γ C o [a, b] env) := by
  refine runP2 (Q := fun xs H2 => match xs with
    | [x, y] => ∃ env S ft a b, Rel K g env S σ H2 ft ∧ PD K g S H2 a x ∧ PD K g S H2 b y ∧ (ownOp o a b = true → RD K g S a x ∧ RD K g S b y) ∧ After K g Wx σ S H2 ft.own Q (evOp Γ C o [a, b] env)
    | _ => True) ?_
  obtain ⟨env, S, ft, R, m⟩ := tW_iff.mp h
  refine ⟨env, S, ft, R, ?_⟩
  unfold opEv at m
  cases e : runP [A, B] env with
  | ok ps env1 =>
    simp only [e, Rf.R.bind_ok] at m
    intro vs S1 H1 ft1 R1 st rs
    cases e2 : resAll env1 ps with
    | none => rw [e2] at m; exact m.elim
    | some ds =>
      rw [e2] at m
      have pd := pds_of R1 rs e2
      match vs, ds, pd with
      | [x, y], [a, b], .cons h1 (.cons h2 .nil) =>
        have oa : ownAns o [a, b] = ownOp o a b := by cases o <;> rfl
        have m : After K g Wx σ S H ft.own Q (evOp Γ C o [a, b] (if ownAns o [a, b] = true then shareAll ps env1 else env1)) := m
        rw [oa] at m
        cases q : ownOp o a b with
        | false =>
          rw [q] at m
          exact ⟨env1, S1, ft1, a, b, R1, h1, h2, fun z => Bool.noConfusion (q.symm.trans z), After.pre (show After K g Wx σ S H ft.own Q (evOp Γ C o [a, b] env1) from m) st⟩
        | true =>
          rw [q] at m
          obtain ⟨S2, ft2, R2, st2, rd⟩ := share_all R1 rs e2
          obtain ⟨v1, us, e3, r1, r2⟩ := rd
          obtain ⟨v2, us2, e4, r3, _⟩ := r2
          cases e3; cases e4
          exact ⟨_, S2, ft2, a, b, R2, PD.of R2.sub r1, PD.of R2.sub r3, fun _ => ⟨r1, r3⟩, After.pre (show After K g Wx σ S H ft.own Q (evOp Γ C o [a, b] (shareAll ps env1)) from m) (st.trans st2)⟩
      | [], _, _ => trivial
      | [_], _, _ => trivial
      | _ :: _ :: _ :: _, _, _ => trivial
  | exc x env1 =>
    simp only [e, Rf.R.bind_exc] at m
    exact m
  | bad => simp only [e, Rf.R.bind_bad] at m; exact m
theorem s_binS {o : Op} {bop : Operator} (ho : OpS X g Wx Γ C o false (binaryOp bop)) (ha : Snd X g Wx a A) (hb : Snd X g Wx b B) : Snd X g Wx (.BinOp a bop b pos) (mkEv (opEv Γ C o [A, B])) := by
  refine s_plain ⟨fun pins s σ H Q I h => ?_⟩ (fun _ => rfl) fun _ _ => rfl
  exact wpAny_BinOp (binT ha.po hb.po I (op_two h) fun v u s2 x y H2 I2 rx ry ⟨env, S, ft, a, b, R, h1, h2, rd, m⟩ => ho pins s2 σ H2 x y v u Q env S ft a b (fun z => by cases z) rd I2 rx ry R h1 h2 m)
def tellsO : Op → Bool
  | .eq => true | .ne => true | .lt => true | .le => true | .gt => true | .ge => true | .is => true | .isnot => true | .isin => true | .notin => true
  | _ => false
theorem opD_two {o : Op} (ht : tellsO o = true) {ds : List D} {w : W} (h : opD o ds = some w) : ∃ k, w = .sh (.bl k) := by
  have m1 : ∀ {x : Option Bool} {f : Bool → Bool}, (x.map fun k => W.sh (.bl (f k))) = some w → ∃ k, w = .sh (.bl k) := fun {x f} e => by
    obtain ⟨k, _, rfl⟩ := Option.map_eq_some_iff.mp e
    exact ⟨_, rfl⟩
  have m2 : ∀ {a b : D} {f : Int → Int → Bool}, (i2 a b fun i j => some (W.sh (.bl (f i j)))) = some w → ∃ k, w = .sh (.bl k) := fun {a b f} e => by
    obtain ⟨i, j, _, _, e⟩ := i2_inv e
    cases e
    exact ⟨_, rfl⟩
  match ds with
  | [] => cases o <;> first | (cases ht; done) | cases h
  | [_] => cases o <;> first | (cases ht; done) | cases h
  | _ :: _ :: _ :: _ => cases o <;> first | (cases ht; done) | cases h
  | [a, b] =>
    cases o with
    | eq => exact m1 (f := id) h
    | ne => exact m1 (f := not) h
    | lt => exact m2 h
    | le => exact m2 h
    | gt => exact m2 h
    | ge => exact m2 h
    | «is» => exact m1 (f := id) h
    | isnot => exact m1 (f := not) h
    | isin => exact m1 (f := id) h
    | notin => exact m1 (f := not) h
    | _ => cases ht
theorem tells_ev {o : Op} (ht : tellsO o = true) {ds : List D} {env env' : Env} {w : W} (h : evOp Γ C o ds env = .ok w env') : ∃ k, w = .sh (.bl k) := by
  have dflt : (match opD o ds with | some w => (Rf.R.ok w env : R W) | none => .bad) = .ok w env' → ∃ k, w = .sh (.bl k) := fun e => by
    split at e
    · rename_i w2 e2
      cases e
      exact opD_two ht e2
    · cases e
  have own : ∀ {r : R W} {f : W → Env → R W}, (r.bind f) = .ok w env' → (∀ x e, f x e = .ok w env' → ∃ k, w = .sh (.bl k)) → ∃ k, w = .sh (.bl k) := fun {r f} e hf => by
    cases r with
    | ok x e2 => exact hf x e2 e
    | exc x e2 => cases e
    | bad => cases e
  unfold evOp at h
  split at h
  · cases ht
  · cases ht
  · split at h
    · split at h
      · refine own h fun x e hx => ?_
        split at hx <;> first | (cases hx; done) | (cases hx; exact ⟨_, rfl⟩)
      · cases h
    · cases h
  · split at h
    · split at h
      · refine own h fun x e hx => ?_
        split at hx <;> first | (cases hx; done) | (cases hx; exact ⟨_, rfl⟩)
      · cases h
    · cases h
  · split at h
    · refine own h fun x e hx => ?_
      split at hx <;> first | (cases hx; done) | (cases hx; exact ⟨_, rfl⟩)
    · cases h
  · split at h
    · refine own h fun x e hx => ?_
      split at hx <;> first | (cases hx; done) | (cases hx; exact ⟨_, rfl⟩)
    · cases h
  · exact dflt h
theorem s_cmpS {o : Op} {op : CmpOp} (ht : tellsO o = true) (ho : OpS X g Wx Γ C o false (compareOp op)) (ha : Snd X g Wx a A) (hb : Snd X g Wx b B) (hm : behindInMarks op b = false) :
    Snd X g Wx (.Compare a [op] [b] pos) (mkEv (opEv Γ C o [A, B])) := by
  refine ⟨⟨fun pins s σ H Q I h => ?_⟩, ⟨fun pins s σ H Q I h => ?_⟩, fun j q => (by cases q), fun _ _ => rfl⟩
  · exact wpAny_Compare1 (binT ha.po hb.po I (op_two h) fun v u s2 x y H2 I2 rx ry ⟨env, S, ft, a, b, R, h1, h2, rd, m⟩ => ho pins s2 σ H2 x y v u Q env S ft a b (fun z => by cases z) rd I2 rx ry R h1 h2 m) hm
  · have h2 := tT_bl (fun env w env' e => ?_) h
    refine wpAny_isTrue_Compare1 (binT ha.po hb.po I (op_two h2) fun v u s2 x y H2 I2 rx ry ⟨env, S, ft, a, b, R, h1, h2, rd, m⟩ => ?_) hm
    · refine thn (ho pins s2 σ H2 x y v u _ env S ft a b (fun z => by cases z) rd I2 rx ry R h1 h2 m) fun c s3 ⟨z, H3, I3, r3, k, e, q3⟩ => ?_
      subst e
      cases r3
      exact wpAny_truthy_bool ⟨H3, I3, q3⟩
    · unfold opEv at e
      cases e1 : runP [A, B] env with
      | ok ps env1 =>
        simp only [e1, Rf.R.bind_ok] at e
        split at e
        · exact tells_ev ht e
        · cases e
      | exc x env1 => simp only [e1, Rf.R.bind_exc] at e; cases e
      | bad => simp only [e1, Rf.R.bind_bad] at e; cases e
end
end Rf

namespace Rf
open PySem L2 PyProof.Rows

section
variable {X : Cx} {g : G} {Wx : WX} {Γ : Gam} {C : Call} {K : PySem.W.Frag} {S H S' H' : Hp} {ft ft' : Ft} {env env' : Env} {σ : L2.St} {a b c e : Expr} {A B F E : Ev} {es : List Expr} {Es : List Ev} {pos : Pos}

theorem op_one {o : Op} {Q : VK} (h : tW K g Wx (opEv Γ C o [A]) σ H Q) : tO K g Wx A σ H fun x H1 => ∃ env S ft a, Rel K g env S σ H1 ft ∧ PD K g S H1 a x ∧ (ownAns o [a] = true → RD K g S a x) ∧ After K g Wx σ S H1 ft.own Q (evOp Γ C o [a] env) := by
  refine runP1 (Q := fun xs H2 => match xs with
    | [x] => ∃ env S ft a, Rel K g env S σ H2 ft ∧ PD K g S H2 a x ∧ (ownAns o [a] = true → RD K g S a x) ∧ After K g Wx σ S H2 ft.own Q (evOp Γ C o [a] env)
    | _ => True) ?_
  obtain ⟨env, S, ft, R, m⟩ := tW_iff.mp h
  refine ⟨env, S, ft, R, ?_⟩
  unfold opEv at m
  cases e : runP [A] env with
  | ok ps env1 =>
    simp only [e, Rf.R.bind_ok] at m
    intro vs S1 H1 ft1 R1 st rs
    cases e2 : resAll env1 ps with
    | none => rw [e2] at m; exact m.elim
    | some ds =>
      rw [e2] at m
      have pd := pds_of R1 rs e2
      match vs, ds, pd with
      | [x], [a], .cons h1 .nil =>
        have m : After K g Wx σ S H ft.own Q (evOp Γ C o [a] (if ownAns o [a] = true then shareAll ps env1 else env1)) := m
        cases q : ownAns o [a] with
        | false =>
          rw [q] at m
          exact ⟨env1, S1, ft1, a, R1, h1, fun z => Bool.noConfusion (q.symm.trans z), After.pre (show After K g Wx σ S H ft.own Q (evOp Γ C o [a] env1) from m) st⟩
        | true =>
          rw [q] at m
          obtain ⟨S2, ft2, R2, st2, rd⟩ := share_all R1 rs e2
          obtain ⟨v1, us, e3, r1, _⟩ := rd
          cases e3
          exact ⟨_, S2, ft2, a, R2, PD.of R2.sub r1, fun _ => r1, After.pre (show After K g Wx σ S H ft.own Q (evOp Γ C o [a] (shareAll ps env1)) from m) (st.trans st2)⟩
      | [], _, _ => trivial
      | _ :: _ :: _, _, _ => trivial
  | exc x env1 =>
    simp only [e, Rf.R.bind_exc] at m
    exact m
  | bad => simp only [e, Rf.R.bind_bad] at m; exact m

def notSlice : Expr → Bool
  | .Slice _ _ _ _ => false
  | _ => true
theorem plainIx_of (h : notSlice b = true) : PlainIx b := by
  intro o i
  cases b <;> first | rfl | cases h
/-- a subscript by its evaluation; own: an own class answers -/
def IxS (X : Cx) (g : G) (Wx : WX) (Γ : Gam) (C : Call) (own : Bool) : Prop :=
  ∀ (value slice : Expr) (pins : List (Addr × Obj)) (s : Shared) (σ : L2.St) (H : Hp) (x y : V) (v u : Value) (Q : VK) (env : Env) (S : Hp) (ft : Ft) (a b : D), (own = true → ownOp .idx a b = true) → (ownOp .idx a b = true → RD X.K g S a x ∧ RD X.K g S b y) → L2.Inv X pins σ H s → RelV x v → RelV y u → Rel X.K g env S σ H ft → PD X.K g S H a x → PD X.K g S H b y →
    After X.K g Wx σ S H ft.own Q (evOp Γ C .idx [a, b] env) → notSlice slice = true → wpAny (model X.prog X.w) X.A (subscriptTail value slice v u) (EP X pins σ Q) X.xe s
theorem ixS_of (ho : IxR X fun x y H Q => rOp X.K g .idx [x, y] H Q) (hw : IxS X g Wx Γ C true) : IxS X g Wx Γ C false := by
  intro value slice pins s σ H x y v u Q env S ft a b _ rd I rx ry R ha hb m hs
  cases q : ownOp .idx a b with
  | true => exact hw value slice pins s σ H x y v u Q env S ft a b (fun _ => q) rd I rx ry R ha hb m hs
  | false =>
    rw [evOp_plain q] at m
    refine ho value slice pins s σ H x y v u Q I rx ry ?_ (plainIx_of hs _ _)
    cases e : opD .idx [a, b] with
    | none => rw [e] at m; exact m.elim
    | some w =>
      rw [e] at m
      exact ⟨S, [a, b], w, R.sub, .cons ha (.cons hb .nil), e, fin_of R fun v S2 H2 ft2 R2 st2 => m v S2 H2 ft2 R2 st2⟩
theorem s_idx (ho : IxS X g Wx Γ C false) (ha : Snd X g Wx a A) (hb : Snd X g Wx b B) (hs : notSlice b = true) : Snd X g Wx (.Subscript a b pos) (mkEv (opEv Γ C .idx [A, B])) := by
  refine s_plain ⟨fun pins s σ H Q I h => ?_⟩ (fun _ => rfl) fun _ _ => rfl
  exact Subscript_ (binT ha.po hb.po I (op_two h) fun v u s2 x y H2 I2 rx ry ⟨env, S, ft, p, q, R, h1, h2, rd, m⟩ => ho a b pins s2 σ H2 x y v u Q env S ft p q (fun z => by cases z) rd I2 rx ry R h1 h2 m hs)

def tPt (K : PySem.W.Frag) (g : G) (Wx : WX) (r : Env → R (Option Int)) : TO := fun σ H Q => ∃ env S ft, Rel K g env S σ H ft ∧ match r env with
  | .ok o env' => ∀ S' H' ft', Rel K g env' S' σ H' ft' → Step S H ft.own S' H' ft'.own → Q o H'
  | .exc x env' => ∀ cls dx S' H' ft', Rel K g env' S' σ H' ft' → Step S H ft.own S' H' ft'.own → RX K g S' x cls dx → Wx cls dx σ H'
  | .bad => False
/-- a bound of a slice: written or not -/
inductive SndO (X : Cx) (g : G) (Wx : WX) : Option Expr → List Ev → Prop
  | none : SndO X g Wx .none []
  | some {e : Expr} {E : Ev} : Snd X g Wx e E → SndO X g Wx (.some e) [E]
theorem po_part {o : Option Expr} (h : SndO X g Wx o Es) : PO X o (tPt X.K g Wx (partEv Es)) := by
  cases h with
  | none =>
    refine ⟨fun pins s σ H Q I ⟨env, S, ft, R, m⟩ => po_none.run pins s σ H Q I ?_⟩
    simp only [partEv] at m
    exact m S H ft R .refl
  | @some e E h =>
    refine ⟨fun pins s σ H Q I ⟨env, S, ft, R, m⟩ => (po_some h.pe).run pins s σ H Q I ⟨env, S, ft, R, ?_⟩⟩
    simp only [partEv] at m
    cases e1 : E.e env with
    | ok d env1 =>
      simp only [e1, Rf.R.bind_ok] at m
      intro v S1 H1 ft1 R1 st r
      cases e2 : d.int? with
      | none => rw [e2] at m; exact m.elim
      | some i =>
        rw [e2] at m
        cases int?_inv e2
        exact ⟨i, r, m S1 H1 ft1 R1 st⟩
    | exc x env1 => simp only [e1, Rf.R.bind_exc] at m; exact m
    | bad => simp only [e1, Rf.R.bind_bad] at m
def cutV_D (l : List D) (vs : List V) (lo hi : Option Int) (h : RDs K g S l vs) : RDs K g S (cutD l lo hi) (cutV vs lo hi) := by
  have hl := RDs.length h
  unfold cutD cutV
  rw [hl]
  exact RDs.take _ (RDs.drop _ h)
theorem slc_r : SlR X (fun x lo hi H Q => ∃ S d w, (∀ a u, S a = some u → H a = some u) ∧ PD X.K g S H d x ∧ slcD d lo hi = some w ∧ FinW X.K g S H w Q) := by
  have base := (sl_list (X := X)).or (sl_tupA (X := X))
  intro pins s σ H x v vl vu lo hi sl Q I rx hs pl pu h
  refine base pins s σ H x v vl vu lo hi sl Q I rx hs pl pu ?_
  obtain ⟨S, d, w, sub, p, e, q⟩ := h
  unfold slcD at e
  split at e
  · obtain ⟨a, vs, rfl, e1, r⟩ := p
    cases e
    exact .inl ⟨a, vs, rfl, SqL.of e1, fun p hp => FinW.newL sub hp (cutV_D _ _ _ _ r) q⟩
  · obtain ⟨a, vs, rfl, e1, r⟩ := p
    cases e
    refine .inr ⟨a, vs, rfl, SqT.of (sub _ _ e1), fun hw => ?_, fun _ p hp => FinW.newT sub hp (cutV_D _ _ _ _ r) q⟩
    have hl := RDs.length r
    refine FinW.sh (d := .tup _) sub ?_ q
    refine ⟨a, vs, rfl, e1, ?_⟩
    rename_i l
    have : cutD l lo hi = l := by
      unfold cutD
      rw [hl, hw.1, hw.2]
      simp [← hl]
    rw [this]
    exact r
  · obtain ⟨a, rfl, e1⟩ := p
    cases e
    exact .inl ⟨a, _, rfl, Sm.sqL (Sm.of sub) e1, fun p hp => FinW.newL sub hp (cutV_D _ _ _ _ (RDs.ints _)) q⟩
  · cases e
theorem part_then {r : Env → R (Option Int)} {f : Option Int → Env → R W} {Q : VK} (R : Rel K g env S σ H ft) (m : After K g Wx σ S H ft.own Q ((r env).bind f)) :
    tPt K g Wx r σ H fun o H1 => ∃ env S ft, Rel K g env S σ H1 ft ∧ After K g Wx σ S H1 ft.own Q (f o env) := by
  refine ⟨env, S, ft, R, ?_⟩
  cases e : r env with
  | ok o env1 =>
    simp only [e, Rf.R.bind_ok] at m
    exact fun S1 H1 ft1 R1 st => ⟨env1, S1, ft1, R1, m.pre st⟩
  | exc x env1 => simp only [e, Rf.R.bind_exc] at m; exact m
  | bad => simp only [e, Rf.R.bind_bad] at m; exact m
theorem s_slc {lo hi : Option Expr} {Lo Hi : List Ev} {p2 : Pos} (ha : Snd X g Wx a A) (hl : SndO X g Wx lo Lo) (hh : SndO X g Wx hi Hi) : Snd X g Wx (.Subscript a (.Slice lo hi none p2) pos) (mkEv (slcEv A Lo Hi)) := by
  refine s_plain (PE.imp (pe_slice (slc_r (g := g)) ha.po (po_part hl) (po_part hh)) fun σ H Q h => ?_) (fun _ => rfl) fun _ _ => rfl
  obtain ⟨env, S, ft, R, m⟩ := tW_iff.mp h
  have pt_mono : ∀ {r : Env → Rf.R (Option Int)} {H : Hp} {Q Q' : Option Int → Hp → Prop}, tPt X.K g Wx r σ H Q → (∀ o H, Q o H → Q' o H) → tPt X.K g Wx r σ H Q' := fun {r H Q Q'} ⟨env, S, ft, R, m⟩ w => by
    refine ⟨env, S, ft, R, ?_⟩
    cases e : r env with
    | ok o env1 => rw [e] at m; exact fun S1 H1 ft1 R1 st => w _ _ (m S1 H1 ft1 R1 st)
    | exc x env1 => rw [e] at m; exact m
    | bad => rw [e] at m; exact m
  have other : After X.K g Wx σ S H ft.own Q ((A.e env).bind fun d env0 => (partEv Lo env0).bind fun l env1 => (partEv Hi env1).bind fun h env2 => match slcD d l h with
      | some w => .ok w env2
      | none => .bad) → tSl (fun x lo hi H Q => ∃ S d w, (∀ a u, S a = some u → H a = some u) ∧ PD X.K g S H d x ∧ slcD d lo hi = some w ∧ FinW X.K g S H w Q) (tE X.K g Wx A.e) (tPt X.K g Wx (partEv Lo)) (tPt X.K g Wx (partEv Hi)) σ H Q := fun m => by
    refine ⟨env, S, ft, R, ?_⟩
    cases e : A.e env with
    | ok d env1 =>
      simp only [e, Rf.R.bind_ok] at m
      intro v S1 H1 ft1 R1 st r
      -- the bounds, the value's tree known ahead of them
      refine ⟨env1, S1, ft1, R1, ?_⟩
      replace m := m.pre st
      cases e2 : partEv Lo env1 with
      | ok l env2 =>
        simp only [e2, Rf.R.bind_ok] at m
        intro S2 H2 ft2 R2 st2
        refine ⟨env2, S2, ft2, R2, ?_⟩
        replace m := m.pre st2
        cases e3 : partEv Hi env2 with
        | ok h env3 =>
          simp only [e3, Rf.R.bind_ok] at m
          intro S3 H3 ft3 R3 st3
          replace m := m.pre st3
          cases e4 : slcD d l h with
          | none => rw [e4] at m; exact m.elim
          | some w =>
            rw [e4] at m
            exact ⟨S3, d, w, R3.sub, PD.of R3.sub (RD.mono (st2.same.trans st3.same) _ _ r), e4, fin_of R3 fun v S4 H4 ft4 R4 st4 => m v S4 H4 ft4 R4 st4⟩
        | exc x env3 => simp only [e3, Rf.R.bind_exc] at m; exact m
        | bad => simp only [e3, Rf.R.bind_bad] at m; exact m.elim
      | exc x env2 => simp only [e2, Rf.R.bind_exc] at m; exact m
      | bad => simp only [e2, Rf.R.bind_bad] at m; exact m.elim
    | exc x env1 => simp only [e, Rf.R.bind_exc] at m; exact m
    | bad => simp only [e, Rf.R.bind_bad] at m; exact m.elim
  unfold slcEv at m
  unfold tO
  cases q : A.pk with
  | var i =>
    simp only [q] at m ⊢
    cases e0 : env[i]? with
    | none => rw [e0] at m; exact m.elim
    | some o =>
      cases o with
      | none => rw [e0] at m; exact m.elim
      | some w =>
        rw [e0] at m
        simp only at m
        obtain ⟨v, e1, _⟩ := R.slot i w e0
        refine ⟨v, e1, pt_mono (part_then R m) fun l H1 ⟨env1, S1, ft1, R1, m1⟩ => pt_mono (part_then R1 m1) fun h H2 ⟨env2, S2, ft2, R2, m2⟩ => ?_⟩
        cases e2 : (Pv.var i).res env2 with
        | none => rw [e2] at m2; exact m2.elim
        | some d =>
          rw [e2] at m2
          simp only at m2
          cases e4 : slcD d l h with
          | none => rw [e4] at m2; exact m2.elim
          | some w2 =>
            rw [e4] at m2
            have pd := pds_of (ps := [.var i]) (ds := [d]) R2 (.cons (.var e1) .nil) (by simp [resAll, e2])
            cases pd with
            | cons pd _ => exact ⟨S2, d, w2, R2.sub, pd, e4, fin_of R2 fun v S4 H4 ft4 R4 st4 => m2 v S4 H4 ft4 R4 st4⟩
  | no => simp only [q] at m ⊢; exact other m
  | fld i f => simp only [q] at m ⊢; exact other m
/-- a[::-1] -/
theorem s_rev {k : Nat} {p1 p2 p3 : Pos} (ha : Snd X g Wx a A) : Snd X g Wx (.Subscript a (.Slice none none (some (.UnaryOp .USub (.Constant (.int 1) k p1) p2)) p3) pos) (mkEv (opEv Γ C .rev [A])) := by
  refine s_plain (PE.imp (pe_revL ha.po) fun σ H Q h => ?_) (fun _ => rfl) fun _ _ => rfl
  refine tO_mono (op_one h) fun x H1 ⟨env, S, ft, d, R, pd, _, m⟩ => ?_
  cases d with
  | lst l =>
    obtain ⟨a, vs, rfl, e1, r⟩ := pd
    exact ⟨a, vs, rfl, SqL.of e1, fun p hp => FinW.newL R.sub hp (RDs.reverse r) (fin_of R fun v S2 H2 ft2 R2 st2 => m v S2 H2 ft2 R2 st2)⟩
  | _ => exact m.elim

theorem marks_of {op op' : CmpOp} {b c : Expr} (h : op' ≠ .In) (h2 : op' ≠ .NotIn) : lastMarks [op, op'] [b, c] = false := nomark c h h2
theorem s_chain {o o' : Op} {op op' : CmpOp} (hk : tellsO o = true) (hk' : tellsO o' = true) (ho : OpR X (compareOp op) fun x y H Q => rOp X.K g o [x, y] H Q) (ho' : OpR X (compareOp op') fun x y H Q => rOp X.K g o' [x, y] H Q)
    (ha : Snd X g Wx a A) (hb : Snd X g Wx b B) (hc : Snd X g Wx c F) (hm : lastMarks [op, op'] [b, c] = false) : Snd X g Wx (.Compare a [op, op'] [b, c] pos) (mkEv (chainEv o o' A B F)) := by
  have key : ∀ {σ H Q}, tW X.K g Wx (chainEv o o' A B F) σ H Q → tChain (fun x y H Q => rOp X.K g o [x, y] H Q) (fun x y H Q => rOp X.K g o' [x, y] H Q) (tE X.K g Wx A.e) (tE X.K g Wx B.e) (tE X.K g Wx F.e) σ H Q := fun {σ H Q} h => by
    obtain ⟨env, S, ft, R, m⟩ := tW_iff.mp h
    unfold chainEv at m
    refine ⟨env, S, ft, R, ?_⟩
    cases e1 : A.e env with
    | bad => simp only [e1, Rf.R.bind_bad] at m; exact m.elim
    | exc x env1 => simp only [e1, Rf.R.bind_exc] at m; exact m
    | ok a1 env1 =>
      simp only [e1, Rf.R.bind_ok] at m
      intro va S1 H1 ft1 R1 st1 r1
      replace m := m.pre st1
      refine ⟨env1, S1, ft1, R1, ?_⟩
      cases e2 : B.e env1 with
      | bad => simp only [e2, Rf.R.bind_bad] at m; exact m.elim
      | exc x env2 => simp only [e2, Rf.R.bind_exc] at m; exact m
      | ok b1 env2 =>
        simp only [e2, Rf.R.bind_ok] at m
        intro vb S2 H2 ft2 R2 st2 r2
        replace m := m.pre st2
        have r1' := RD.mono st2.same _ _ r1
        cases e3 : opD o [a1, b1] with
        | none => rw [e3] at m; exact m.elim
        | some w =>
          rw [e3] at m
          obtain ⟨k, rfl⟩ := opD_two hk e3
          refine ⟨S2, [a1, b1], _, R2.sub, .cons (PD.of R2.sub r1') (.cons (PD.of R2.sub r2) .nil), e3, fun v S3 H3 l rw nd fr sm hh sub gr => ?_⟩
          obtain ⟨rfl, rv⟩ := rw
          refine ⟨k, rv, ?_⟩
          have R3 := R2.grow sm hh sub gr
          have st3 : Step S2 H2 ft2.own S3 H3 ft2.own := Step.grow' sm hh gr
          replace m := m.pre st3
          cases k with
          | false =>
            simp only [Bool.false_eq_true, if_false]
            obtain ⟨ft4, R4, ho⟩ := R3.pushSh (d := .bl false) (v := .bl false) rfl
            exact m _ S3 H3 ft4 R4 (Step.refl.post ho)
          | true =>
            simp only [if_true]
            simp only at m
            refine ⟨env2, S3, ft2, R3, ?_⟩
            cases e4 : F.e env2 with
            | bad => simp only [e4, Rf.R.bind_bad] at m; exact m.elim
            | exc x env3 => simp only [e4, Rf.R.bind_exc] at m; exact m
            | ok c1 env3 =>
              simp only [e4, Rf.R.bind_ok] at m
              intro vc S4 H4 ft4 R4 st4 r4
              replace m := m.pre st4
              cases e5 : opD o' [b1, c1] with
              | none => rw [e5] at m; exact m.elim
              | some w =>
                rw [e5] at m
                obtain ⟨k, rfl⟩ := opD_two hk' e5
                exact ⟨S4, [b1, c1], _, R4.sub, .cons (PD.of R4.sub (RD.mono (sm.trans st4.same) _ _ r2)) (.cons (PD.of R4.sub r4) .nil), e5, fin_of R4 fun v S5 H5 ft5 R5 st5 => m v S5 H5 ft5 R5 st5⟩
  refine ⟨PE.imp (pe_chain ho ho' ha.pe hb.pe hc.pe hm) fun σ H Q h => key h, PT.imp (pt_chain ho ho' ha.pe hb.pe hc.pe hm) fun σ H Q h => key (tT_bl (fun env w env' e => ?_) h), fun j q => (by cases q), fun _ _ => rfl⟩
  unfold chainEv at e
  cases e1 : A.e env with
  | bad => simp only [e1, Rf.R.bind_bad] at e; cases e
  | exc x env1 => simp only [e1, Rf.R.bind_exc] at e; cases e
  | ok a1 env1 =>
    simp only [e1, Rf.R.bind_ok] at e
    cases e2 : B.e env1 with
    | bad => simp only [e2, Rf.R.bind_bad] at e; cases e
    | exc x env2 => simp only [e2, Rf.R.bind_exc] at e; cases e
    | ok b1 env2 =>
      simp only [e2, Rf.R.bind_ok] at e
      split at e
      · cases e4 : F.e env2 with
        | bad => simp only [e4, Rf.R.bind_bad] at e; cases e
        | exc x env3 => simp only [e4, Rf.R.bind_exc] at e; cases e
        | ok c1 env3 =>
          simp only [e4, Rf.R.bind_ok] at e
          split at e
          · cases e; exact ⟨_, rfl⟩
          · cases e
      · cases e; exact ⟨_, rfl⟩
      · cases e
end
end Rf

namespace Rf
open PySem L2 PyProof.Rows

section
variable {X : Cx} {g : G} {Wx : WX} {Γ : Gam} {C : Call} {K : PySem.W.Frag} {S H S' H' : Hp} {ft ft' : Ft} {env env' : Env} {σ : L2.St} {a b c e : Expr} {A B F E : Ev} {es : List Expr} {Es : List Ev} {pos : Pos}

theorem plain_ok {o : Op} (h : noOwn o = true) : Plain Γ C o := fun ds env => by cases o <;> first | exact ⟨rfl, rfl⟩ | cases h

def D.tyN : D → Option String
  | .non => some "NoneType"
  | .bl _ => some "bool"
  | .int _ => some "int"
  | .str _ => some "str"
  | .lst _ => some "list"
  | .tup _ => some "tuple"
  | .dK _ _ => some "dict"
  | _ => none
/-- a class as isinstance sees it -/
structure TyV (K : PySem.W.Frag) (g : G) (cs : List Nat) (t : Ty) (u : Value) : Prop where
  base : ∀ (d : D) (T : String), d.tyN = some T → ∀ b, D.isTy cs d t = some b → PySem.W.kitOne K (.type T) u = some b
  ins : ∀ c ∈ cs, PySem.W.kitOne K (.ref (g.ca c)) u = some (t == .own c)
/-- own classes whose instances isinstance may be asked of -/
structure InsT (K : PySem.W.Frag) (g : G) (cs : List Nat) : Prop where
  ha : ∀ c ∈ cs, PySem.W.findIn K (.ref (g.ca c)) "__class__" = some (some (.builtin "object.__class__"))
  hn : PySem.W.specialIn K (.builtin "object.__class__") "__get__" = some (some (.builtin "getset_descriptor.__get__"))
  htk : PySem.W.takesIn K (.builtin "object.__class__") = some true
  hm : ∀ c ∈ cs, PySem.W.mroIn K (g.ca c) (.type "object") = some true
theorem InsT.nil (hn : PySem.W.specialIn K (.builtin "object.__class__") "__get__" = some (some (.builtin "getset_descriptor.__get__"))) (htk : PySem.W.takesIn K (.builtin "object.__class__") = some true) : InsT K g [] :=
  ⟨(fun c h => by cases h), hn, htk, (fun c h => by cases h)⟩
theorem tyX_of {cs : List Nat} (I : InsT K g cs) (sub : ∀ a o, S a = some o → H a = some o) {d : D} {x : V} (h : PD K g S H d x) {t : Ty} {bb : Bool} (hb : d.isTy cs t = some bb) :
    ∃ t', TyX K H x t' ∧ ∀ (t : Ty) (u : Value) (bb : Bool), d.isTy cs t = some bb → TyV K g cs t u → PySem.W.kitOne K t' u = some bb := by
  cases d with
  | non => cases (show x = .non from h); exact ⟨_, .base .non, fun t u bb hb T => T.base _ _ rfl _ hb⟩
  | bl k => cases (show x = .bl k from h); exact ⟨_, .base (.bl k), fun t u bb hb T => T.base _ _ rfl _ hb⟩
  | int i => cases (show x = .int i from h); exact ⟨_, .base (.int i), fun t u bb hb T => T.base _ _ rfl _ hb⟩
  | str i => cases (show x = .str i from h); exact ⟨_, .base (.str i), fun t u bb hb T => T.base _ _ rfl _ hb⟩
  | lst l =>
    obtain ⟨a, vs, rfl, e, r⟩ := h
    exact ⟨_, .base (.lst e), fun t u bb hb T => T.base (.lst l) _ rfl _ hb⟩
  | tup l =>
    obtain ⟨a, vs, rfl, e, r⟩ := h
    exact ⟨_, .base (.tup (sub _ _ e)), fun t u bb hb T => T.base (.tup l) _ rfl _ hb⟩
  | dK ks vs =>
    obtain ⟨a, kvs, rfl, e, r⟩ := h
    rcases e with e | ⟨o, e⟩
    · exact ⟨_, .base (.dK e), fun t u bb hb T => T.base (.dK ks vs) _ rfl _ hb⟩
    · exact ⟨_, .fDict e, fun t u bb hb T => T.base (.dK ks vs) _ rfl _ hb⟩
  | ins c fs vs =>
    obtain ⟨a, dx, us, rfl, e, r, l, k⟩ := h
    have hc : c ∈ cs := by
      have hb : (if c ∈ cs then some (t == .own c) else none) = some bb := hb
      refine Classical.byContradiction fun q => ?_
      rw [if_neg q] at hb
      cases hb
    refine ⟨_, .base (.ins (sub _ _ e) k.1 (I.ha c hc) I.hn I.htk (I.hm c hc)), fun t u bb hb T => ?_⟩
    have hb : (if c ∈ cs then some (t == .own c) else none) = some bb := hb
    rw [if_pos hc] at hb
    cases hb
    exact T.ins c hc
  | _ => cases hb
/-- a class in the text -/
structure ClsE (X : Cx) (g : G) (cs : List Nat) (c : Expr) (t : Ty) : Prop where
  ex : ∃ v u, PE X c (tC v) ∧ ClsV v u ∧ TyV X.K g cs t u
  ns : ∀ es env, starEach (c :: es) env = (false, eval c env) :: starEach es env
def tyName : Ty → String
  | .int => "int" | .bool => "bool" | .str => "str" | .list => "list" | .tuple => "tuple" | .dict => "dict" | .own _ => ""
def isOwnTy : Ty → Bool
  | .own _ => true
  | _ => false
theorem tyV_base {cs : List Nat} {t : Ty} (h : isOwnTy t = false) (hi : ∀ c ∈ cs, PySem.W.kitOne K (.ref (g.ca c)) (.type (tyName t)) = some false) : TyV K g cs t (.type (tyName t)) := by
  refine ⟨fun d T hT b hb => kit_ty ?_, fun c hc => ?_⟩
  · cases t <;> cases h <;> cases d <;> first | (cases hT; done) | (cases hT; cases hb; decide +kernel)
  · rw [hi c hc]
    cases t <;> first | rfl | (exact absurd h (by simp [isOwnTy]))
theorem s_inst1 {x : Str} {p : Pos} {cs : List Nat} {t : Ty} (hg : Gl X x) (hm : X.mg x = none) (hv : bootBuiltins x = some (.builtin "isinstance")) (hn : x ≠ "__name__") (hdb : (x == ("__debug__" : Str)) = false) (I : InsT X.K g cs) (ha : Snd X g Wx a A) (hc : ClsE X g cs c t) :
    Snd X g Wx (.Call (.Name x p) [a, c] [] pos) (mkEv (opEv Γ C (.inst cs [t]) [A])) := by
  obtain ⟨v, u, pc, cl, T⟩ := hc.ex
  refine s_plain (PE.imp (pe_callB call_isi hg hm hv (pa_cons ha.po (pa_cons pc pa_nil (hc.ns _ _)) (ha.ns _ _)) hn hdb (ha.ns _ _) (by rw [hc.ns]; rfl)) fun σ H Q h => ?_) (fun _ => rfl) fun _ _ => rfl
  refine tO_mono (op_one h) fun x H1 ⟨env, S, ft, d, R, pd, _, m⟩ => ?_
  show rIsi X.K [x, v] H1 Q
  have m : After X.K g Wx σ S H1 ft.own Q (match (d.isTys cs [t]).map fun k => W.sh (.bl k) with | some w => .ok w env | none => .bad) := m
  simp only [D.isTys] at m
  cases e : d.isTy cs t with
  | none => rw [e] at m; exact m.elim
  | some k =>
    rw [e] at m
    obtain ⟨t', ty, hk⟩ := tyX_of I R.sub pd e
    refine ⟨x, v, t', u, k, rfl, cl, ty, hk _ _ _ e T, ?_⟩
    obtain ⟨ft2, R2, ho⟩ := R.pushSh (d := .bl k) (v := .bl k) rfl
    cases k <;> exact m _ S H1 ft2 R2 (Step.refl.post ho)
inductive ClsEs (X : Cx) (g : G) (cs : List Nat) : List Expr → List Ty → Prop
  | nil : ClsEs X g cs [] []
  | cons {c : Expr} {t : Ty} {es : List Expr} {ts : List Ty} : ClsE X g cs c t → ClsEs X g cs es ts → ClsEs X g cs (c :: es) (t :: ts)
theorem clsEs_pa {cs : List Nat} {ts : List Ty} (h : ClsEs X g cs es ts) : ∃ (vs : List V) (us : List Value), PA X es (fun σ H Q => Q vs H) ∧ Paired ClsV vs us ∧ Paired (fun t u => TyV X.K g cs t u) ts us := by
  induction h with
  | nil => exact ⟨[], [], ⟨fun pos pins s σ H Q I q => (pa_nil (X := X)).run pos pins s σ H Q I q⟩, .nil, .nil⟩
  | cons h1 h2 ih =>
    obtain ⟨vs, us, p, c, T⟩ := ih
    obtain ⟨v, u, pc, cl, tv⟩ := h1.ex
    exact ⟨v :: vs, u :: us, ⟨fun pos pins s σ H Q I q => (pa_cons pc p (h1.ns _ _)).run pos pins s σ H Q I q⟩, .cons cl c, .cons tv T⟩
theorem kitAny_of {cs : List Nat} {d : D} {t' : Value} (h : ∀ (t : Ty) (u : Value) (bb : Bool), d.isTy cs t = some bb → TyV K g cs t u → PySem.W.kitOne K t' u = some bb) :
    ∀ {ts : List Ty} {us : List Value} {k : Bool}, Paired (fun t u => TyV K g cs t u) ts us → d.isTys cs ts = some k → PySem.W.kitAny K t' us = some k
  | [], _, k, .nil, e => by cases e; rfl
  | t :: ts, _, k, .cons h1 h2, e => by
    unfold D.isTys at e
    cases e1 : d.isTy cs t with
    | none => rw [e1] at e; cases e
    | some b =>
      rw [e1] at e
      refine kitAny_cons (h _ _ _ e1 h1) (fun hb => ?_) fun hb => ?_
      · subst hb; exact kitAny_of h h2 e
      · subst hb; cases e; rfl
theorem s_instT {x : Str} {p p2 : Pos} {x1} {cs : List Nat} {ts : List Ty} (hne : ts ≠ []) (hg : Gl X x) (hm : X.mg x = none) (hv : bootBuiltins x = some (.builtin "isinstance")) (hn : x ≠ "__name__") (hdb : (x == ("__debug__" : Str)) = false) (I : InsT X.K g cs) (ha : Snd X g Wx a A) (hc : ClsEs X g cs es ts)
    (hl : es.length ≤ 100) : Snd X g Wx (.Call (.Name x p) [a, .Tuple es x1 p2] [] pos) (mkEv (opEv Γ C (.inst cs ts) [A])) := by
  obtain ⟨vs, us, pa, cl, T⟩ := clsEs_pa hc
  have hlen : vs.length = es.length := by
    have h1 := Paired.length cl
    have h2 := Paired.length T
    have h3 : es.length = ts.length := by
      clear hl hne T pa cl h1 h2
      induction hc with
      | nil => rfl
      | cons _ _ ih => simp [ih]
    omega
  refine s_plain (PE.imp (pe_callB call_isiT hg hm hv (pa_cons ha.po (pa_cons (pe_tup pa) pa_nil rfl) (ha.ns _ _)) hn hdb (ha.ns _ _) rfl) fun σ H Q h => ?_) (fun _ => rfl) fun _ _ => rfl
  refine tO_mono (op_one h) fun x H1 ⟨env, S, ft, d, R, pd, _, m⟩ => ?_
  refine ⟨by rw [slim, hlen]; exact Nat.le_trans hl (by decide), fun p hp => ?_⟩
  show rIsiT X.K [x, .ref p] (upd H1 p (.tup vs)) Q
  have m : After X.K g Wx σ S H1 ft.own Q (match (d.isTys cs ts).map fun k => W.sh (.bl k) with | some w => .ok w env | none => .bad) := m
  cases e : d.isTys cs ts with
  | none => rw [e] at m; exact m.elim
  | some k =>
    rw [e] at m
    have e0 : ∃ t b, d.isTy cs t = some b := by
      cases ts with
      | nil => exact absurd rfl hne
      | cons t ts =>
        unfold D.isTys at e
        cases e1 : d.isTy cs t with
        | none => rw [e1] at e; cases e
        | some b => exact ⟨t, b, e1⟩
    obtain ⟨t0, b0, e0⟩ := e0
    have sm : Same H1 (upd H1 p (.tup vs)) := Same.upd' hp
    have sub2 : ∀ a o, S a = some o → (upd H1 p (.tup vs)) a = some o := fun a o z => sm a o (R.sub a o z)
    have R1 := R.grow (Sm.refl _) sm sub2 fun a o z => .inl z
    have pd2 : PD X.K g S (upd H1 p (.tup vs)) d x := by
      cases d with
      | lst l => obtain ⟨a, vs, e1, e2, r⟩ := pd; exact ⟨a, vs, e1, sm _ _ e2, r⟩
      | dK ks ds => obtain ⟨a, vs, e1, e2, r⟩ := pd; exact ⟨a, vs, e1, (Sm.of sm).rd _ _ rfl e2, r⟩
      | dT ks ds => obtain ⟨a, vs, e1, e2, r⟩ := pd; exact ⟨a, vs, e1, (Sm.of sm).rd _ _ rfl e2, r⟩
      | _ => exact pd
    obtain ⟨t', ty, hk⟩ := tyX_of I sub2 pd2 e0
    refine ⟨x, p, vs, t', us, k, rfl, upd_same, cl, ty, kitAny_of hk T e, ?_⟩
    obtain ⟨ft2, R2, ho⟩ := R1.pushSh (d := .bl k) (v := .bl k) rfl
    exact m _ S _ ft2 R2 ((Step.grow' (Sm.refl _) sm fun a o z => .inl z).post ho)

theorem b_tuple : CallR X (.type "tuple") (rOp X.K g .tuple) := CallR.imp (call_tuple_of (X := X)) fun xs H Q h => by
  refine rop1 h (one_of (f := fun a => match a with | .lst l => some (.sh (.tup l)) | .tup l => some (.sh (.tup l)) | _ => none) fun ds => by
    cases ds with
    | nil => rfl
    | cons a t => cases t <;> rfl) fun S d x w ex sub hp e q => ?_
  subst ex
  cases d with
  | lst l =>
    obtain ⟨a, vs, rfl, e1, r⟩ := hp
    cases e
    exact ⟨a, vs, rfl, .inl ⟨SqL.of e1, fun p hp => FinW.newT sub hp r q⟩⟩
  | tup l =>
    obtain ⟨a, vs, rfl, e1, r⟩ := hp
    cases e
    exact ⟨a, vs, rfl, .inr ⟨SqT.of (sub _ _ e1), FinW.sh (d := .tup l) sub ⟨a, vs, rfl, e1, r⟩ q⟩⟩
  | _ => cases e
theorem b_sorted : CallR X (.builtin "sorted") (rOp X.K g .sorted) := CallR.imp (b_sortedL (X := X) (g := g)) fun xs H Q h => by
  refine rop1 h (one_of (f := fun a => (intsOf a).map fun xs => .oL ((sortI xs).map .int)) fun ds => by
    cases ds with
    | nil => rfl
    | cons a t => cases t <;> rfl) fun S d x w ex sub hp e q => ?_
  subst ex
  obtain ⟨is, e1, rfl⟩ := Option.map_eq_some_iff.mp (show (intsOf d).map _ = some w from e)
  exact ⟨S, d, is, x, rfl, sub, hp, e1, q⟩
theorem unpairs_ok : ∀ {l : List D} {ps : List (D × D)} {vs : List V}, unpairs l = some ps → RDs K g S l vs → ∃ (as : List Addr) (us : List (V × V)), vs = as.map V.ref ∧ Paired (fun p u => S p = some (.tup [u.1, u.2])) as us ∧ Paired (fun (d : D × D) (u : V × V) => RD K g S d.1 u.1 ∧ RD K g S d.2 u.2) ps us
  | [], ps, vs, h, r => by
    cases h
    cases (show vs = [] from r)
    exact ⟨[], [], rfl, .nil, .nil⟩
  | d :: l, ps, vs, h, r => by
    obtain ⟨v, us, rfl, r1, r2⟩ := r
    cases d with
    | tup t =>
      match t, h, r1 with
      | [a, b], h, r1 =>
        have h : (unpairs l).map ((a, b) :: ·) = some ps := h
        obtain ⟨qs, e, rfl⟩ := Option.map_eq_some_iff.mp h
        obtain ⟨as, ws, rfl, p1, p2⟩ := unpairs_ok e r2
        obtain ⟨p, xs, rfl, e1, x, r', rfl, r3, y, r'', rfl, r4, r5⟩ := r1
        cases (show r'' = [] from r5)
        exact ⟨p :: as, (x, y) :: ws, rfl, .cons e1 p1, .cons ⟨r3, r4⟩ p2⟩
      | [], h, _ => cases h
      | [_], h, _ => cases h
      | _ :: _ :: _ :: _, h, _ => cases h
    | _ => cases h
theorem replD_ok {κ : Type} [DecidableEq κ] {k : κ} {d : D} {v : V} (hd : RD K g S d v) : ∀ {kvs : List (κ × V)} {ds : List D}, RDs K g S ds (kvs.map (·.2)) → RDs K g S (replD k d (kvs.map (·.1)) ds) ((kvs.map fun kv => if kv.1 = k then (kv.1, v) else kv).map (·.2))
  | [], ds, r => by
    cases ds with
    | nil => exact RDs.nil
    | cons x ds => obtain ⟨_, _, e, _⟩ := r; cases e
  | (j, u) :: kvs, [], r => by cases (show (u :: kvs.map (·.2)) = [] from r)
  | (j, u) :: kvs, x :: ds, r => by
    obtain ⟨v', us, e, r1, r2⟩ := r
    cases e
    show RDs K g S ((if j = k then d else x) :: replD k d (kvs.map (·.1)) ds) ((if j = k then (j, v) else (j, u)).2 :: _)
    by_cases q : j = k
    · rw [if_pos q, if_pos q]; exact .cons hd (replD_ok hd r2)
    · rw [if_neg q, if_neg q]; exact .cons r1 (replD_ok hd r2)
theorem putD_ok {κ : Type} [DecidableEq κ] {k : κ} {d : D} {v : V} (hd : RD K g S d v) {kvs : List (κ × V)} {ds : List D} (r : RDs K g S ds (kvs.map (·.2))) :
    (putK kvs k v).map (·.1) = (putD k d (kvs.map (·.1)) ds).1 ∧ RDs K g S (putD k d (kvs.map (·.1)) ds).2 ((putK kvs k v).map (·.2)) := by
  have hany : (kvs.any fun kv => decide (kv.1 = k)) = decide (k ∈ kvs.map (·.1)) := by
    rw [Bool.eq_iff_iff]
    simp only [List.any_eq_true, decide_eq_true_eq, List.mem_map]
  unfold putK putD
  rw [hany]
  by_cases q : k ∈ kvs.map (·.1)
  · rw [if_pos (decide_eq_true q), if_pos q]
    refine ⟨?_, replD_ok hd r⟩
    rw [List.map_map]
    refine List.map_congr_left fun x _ => ?_
    show (if x.1 = k then (x.1, v) else x).1 = x.1
    by_cases q2 : x.1 = k
    · rw [if_pos q2]
    · rw [if_neg q2]
  · rw [if_neg (by simpa using q), if_neg q]
    exact ⟨by simp, by simpa using RDs.append r (.one hd)⟩
theorem dcMerge_ok : ∀ {ps : List (D × D)} {us : List (V × V)} {kvs : List (Key × V)} {ds : List D} {r : List Key × List D}, Paired (fun (d : D × D) (u : V × V) => RD K g S d.1 u.1 ∧ RD K g S d.2 u.2) ps us → RDs K g S ds (kvs.map (·.2)) → dcMerge ps (kvs.map (·.1), ds) = some r →
    ∃ more : List (Key × V), us = more.map (fun kv => (kV kv.1, kv.2)) ∧ (mergeK kvs more).map (·.1) = r.1 ∧ RDs K g S r.2 ((mergeK kvs more).map (·.2))
  | [], [], kvs, ds, r, .nil, rd, h => by
    cases h
    exact ⟨[], rfl, rfl, rd⟩
  | (k, d) :: ps, (x, y) :: us, kvs, ds, r, .cons ⟨h1, h2⟩ p, rd, h => by
    unfold dcMerge at h
    cases e : keyD k with
    | none => rw [e] at h; cases h
    | some kk =>
      rw [e] at h
      cases keyD_kV e h1
      obtain ⟨q1, q2⟩ := putD_ok (k := kk) h2 rd
      have h : dcMerge ps ((putD kk d (kvs.map (·.1)) ds).1, (putD kk d (kvs.map (·.1)) ds).2) = some r := h
      rw [← q1] at h
      obtain ⟨more, e1, e2, e3⟩ := dcMerge_ok p q2 h
      exact ⟨(kk, y) :: more, by rw [e1]; rfl, e2, e3⟩
theorem FinW.newK (sub : ∀ a o, S a = some o → H a = some o) {ks : List Key} {ds : List D} {kvs : List (Key × V)} {p : Addr} {Q : VK} (hp : H p = none) (hk : kvs.map (·.1) = ks) (h : RDs K g S ds (kvs.map (·.2))) (q : FinW K g S H (.oK ks ds) Q) : Q (.ref p) (upd H p (.dK kvs)) := by
  have sp : S p = none := subS sub hp
  have sm : Same H (upd H p (.dK kvs)) := Same.upd' hp
  exact q _ S _ [p] ⟨p, kvs, rfl, rfl, upd_same, hk, h⟩ (by simp) (fun a ha => by
    have : a = p := by simpa using ha
    subst this
    exact ⟨sp, hp⟩) (Sm.refl S) sm (fun a o e => sm a o (sub a o e)) fun a o e => .inl e
theorem b_dict (hc : X.calm = true) : CallR X (.type "dict") (rOp X.K g .dict) := CallR.imp (CallR.or (call_dictP (X := X) hc) (call_dictD (X := X))) fun xs H Q h => by
  refine rop1 h (one_of (f := dictD) fun ds => by
    cases ds with
    | nil => rfl
    | cons a t => cases t <;> rfl) fun S d x w ex sub hp e q => ?_
  subst ex
  have e : dictD d = some w := e
  cases d with
  | dK ks vs =>
    obtain ⟨a, kvs, rfl, e1, e2, r⟩ := hp
    cases e
    exact .inr ⟨a, kvs, rfl, e1, fun p hp => q.newK sub hp e2 r⟩
  | lst l =>
    obtain ⟨a, vs, rfl, e1, r⟩ := hp
    unfold dictD at e
    simp only at e
    cases e2 : unpairs l with
    | none => rw [e2] at e; cases e
    | some ps =>
      rw [e2] at e
      obtain ⟨rr, e3, rfl⟩ := Option.map_eq_some_iff.mp e
      obtain ⟨as, us, rfl, p1, p2⟩ := unpairs_ok e2 r
      obtain ⟨more, rfl, e4, e5⟩ := dcMerge_ok (kvs := []) p2 RDs.nil e3
      refine .inl ⟨a, as, more, rfl, SqL.of e1, ?_, fun p hp => q.newK sub hp e4 e5⟩
      clear p2 e3 e4 e5 e2 q e1 r e
      induction more generalizing as with
      | nil => cases p1; exact .nil
      | cons kv more ih =>
        cases p1 with
        | cons h1 h2 => exact .cons (SqT.of (sub _ _ h1)) (ih _ h2)
  | _ => cases e
end
end Rf

namespace Rf
open PySem L2 PyProof.Rows

mutual
def gOf (K : PySem.W.Frag) : CT → TG
  | .name i => gName i
  | .tup l => gTup K l.length (gsOf K l)
def gsOf (K : PySem.W.Frag) : List CT → TGs
  | [] => gNil
  | t :: ts => gCons (gOf K t) (gsOf K ts)
end
section
variable {K : PySem.W.Frag} {g : G} {S H S' H' S1 H1 S2 H2 : Hp} {ft ft' ft1 ft2 : Ft} {env env' env1 : Env} {σ σ' : L2.St}
/-- slots that are not of these names stay -/
def Off (ns : List Nat) (σ σ' : L2.St) : Prop := ∀ j, j ∉ ns → σ'[j]? = σ[j]?
theorem Rel.setSh (R : Rel K g env S σ H ft) {i : Nat} {d : D} {v : V} (h : RD K g S d v) : ∃ ft', Rel K g (env.set i (some (.sh d))) S (σ.set i (some v)) H ft' ∧ ∀ a, ft'.own a → ft.own a := by
  by_cases hi : i < env.length
  · refine ⟨_, R.store (w := .sh d) (l := []) hi ⟨rfl, h⟩ List.nodup_nil (fun _ _ _ ha => by cases ha) (fun a ha => by cases ha), fun a ⟨j, hj⟩ => ?_⟩
    by_cases q : j = i
    · subst q; rw [Ft.put_self] at hj; cases hj
    · rw [Ft.put_ne q] at hj; exact ⟨j, hj⟩
  · have h1 : env.set i (some (.sh d)) = env := List.set_eq_of_length_le (by omega)
    have h2 : σ.set i (some v) = σ := List.set_eq_of_length_le (by have := R.len; omega)
    rw [h1, h2]
    exact ⟨ft, R, fun a h => h⟩
mutual
theorem asg_ok : ∀ (t : CT) (d : D) (env env' : Env), t.asg d env = some env' → ∀ (v : V) (σ : L2.St) (ft : Ft) (Q : L2.St → Hp → Prop), Rel K g env S σ H ft → RD K g S d v →
    (∀ σ' ft', Rel K g env' S σ' H ft' → (∀ a, ft'.own a → ft.own a) → Off t.names σ σ' → Q σ' H) → gOf K t v σ H Q
  | .name i, d, env, env', e, v, σ, ft, Q, R, r, q => by
    have e : some (env.set i (some (.sh d))) = some env' := by simpa [CT.asg] using e
    cases e
    obtain ⟨ft', R', ho⟩ := R.setSh (i := i) r
    unfold gOf
    refine q _ ft' R' ho fun j hj => ?_
    have : i ≠ j := fun z => hj (by simp [CT.names, z])
    rw [List.getElem?_set_ne this]
  | .tup l, d, env, env', e, v, σ, ft, Q, R, r, q => by
    cases d with
    | tup ds =>
      obtain ⟨a, vs, rfl, e1, rs⟩ := r
      have e : CT.asgs l ds env = some env' := by simpa [CT.asg] using e
      unfold gOf
      have hl : ds.length = l.length := asgs_len l ds env env' e
      exact ⟨a, vs, rfl, SqT.of (R.sub _ _ e1), by rw [← RDs.length rs]; exact hl, asgs_ok l ds env env' e vs σ ft Q R rs q⟩
    | _ => cases e
theorem asgs_ok : ∀ (ts : List CT) (ds : List D) (env env' : Env), CT.asgs ts ds env = some env' → ∀ (vs : List V) (σ : L2.St) (ft : Ft) (Q : L2.St → Hp → Prop), Rel K g env S σ H ft → RDs K g S ds vs →
    (∀ σ' ft', Rel K g env' S σ' H ft' → (∀ a, ft'.own a → ft.own a) → Off (CT.namess ts) σ σ' → Q σ' H) → gsOf K ts vs σ H Q
  | [], [], env, env', e, vs, σ, ft, Q, R, r, q => by
    cases (show vs = [] from r)
    have e : some env = some env' := by simpa [CT.asgs] using e
    cases e
    unfold gsOf
    exact ⟨rfl, q σ ft R (fun a h => h) fun j _ => rfl⟩
  | t :: ts, d :: ds, env, env', e, vs, σ, ft, Q, R, r, q => by
    obtain ⟨v, us, rfl, r1, r2⟩ := r
    unfold CT.asgs at e
    cases e1 : t.asg d env with
    | none => rw [e1] at e; cases e
    | some env1 =>
      rw [e1] at e
      unfold gsOf
      refine ⟨v, us, rfl, asg_ok t d env env1 e1 v σ ft _ R r1 fun σ1 ft1 R1 ho1 k1 => ?_⟩
      refine asgs_ok ts ds env1 env' e us σ1 ft1 Q R1 r2 fun σ2 ft2 R2 ho2 k2 => q σ2 ft2 R2 (fun a h => ho1 a (ho2 a h)) fun j hj => ?_
      have hj : j ∉ t.names ++ CT.namess ts := by rwa [CT.namess] at hj
      rw [List.mem_append] at hj
      rw [k2 j fun z => hj (.inr z), k1 j fun z => hj (.inl z)]
  | [], _ :: _, env, env', e, vs, σ, ft, Q, R, r, q => by simp [CT.asgs] at e
  | _ :: _, [], env, env', e, vs, σ, ft, Q, R, r, q => by simp [CT.asgs] at e
theorem asgs_len : ∀ (ts : List CT) (ds : List D) (env env' : Env), CT.asgs ts ds env = some env' → ds.length = ts.length
  | [], [], env, env', e => rfl
  | t :: ts, d :: ds, env, env', e => by
    unfold CT.asgs at e
    cases e1 : t.asg d env with
    | none => rw [e1] at e; cases e
    | some env1 =>
      rw [e1] at e
      simp [asgs_len ts ds env1 env' e]
  | [], _ :: _, env, env', e => by simp [CT.asgs] at e
  | _ :: _, [], env, env', e => by simp [CT.asgs] at e
end

mutual
theorem tg_len : ∀ {t : CT} {d : D} {env env' : Env}, t.asg d env = some env' → env'.length = env.length
  | .name i, d, env, env', e => by
    have e : some (env.set i (some (.sh d))) = some env' := by simpa [CT.asg] using e
    cases e
    simp
  | .tup l, d, env, env', e => by
    cases d with
    | tup ds => exact tgs_len (ts := l) (by simpa [CT.asg] using e)
    | _ => cases e
theorem tgs_len : ∀ {ts : List CT} {ds : List D} {env env' : Env}, CT.asgs ts ds env = some env' → env'.length = env.length
  | [], [], env, env', e => by
    have e : some env = some env' := by simpa [CT.asgs] using e
    cases e; rfl
  | t :: ts, d :: ds, env, env', e => by
    unfold CT.asgs at e
    cases e1 : t.asg d env with
    | none => rw [e1] at e; cases e
    | some env1 =>
      rw [e1] at e
      rw [tgs_len e, tg_len e1]
  | [], _ :: _, env, env', e => by simp [CT.asgs] at e
  | _ :: _, [], env, env', e => by simp [CT.asgs] at e
end
mutual
/-- a target as the text has it -/
inductive Tg (X : Cx) : Expr → CT → Prop
  | name {x : Str} {i : Nat} {p : Pos} : X.N[i]? = some x → Loc X.env.scope x → (X.fn x = true ∨ X.env.scope.names.lookup x = some .local) → Tg X (.Name x p) (.name i)
  | tup {es : List Expr} {l : List CT} {k : Nat} {p : Pos} : Tgs X es l → Tg X (.Tuple es k p) (.tup l)
inductive Tgs (X : Cx) : List Expr → List CT → Prop
  | nil : Tgs X [] []
  | cons {e : Expr} {t : CT} {es : List Expr} {l : List CT} : Tg X e t → Tgs X es l → Tgs X (e :: es) (t :: l)
end
theorem Tg.each {X : Cx} {e : Expr} {t : CT} {es : List Expr} (h : Tg X e t) (env : PySem.Env) : assignEach (e :: es) env = (false, assign e env) :: assignEach es env := by
  cases h <;> rfl
mutual
theorem Tg.pg {X : Cx} (hN : X.N.Nodup) (hc : X.calm = true) : ∀ {e : Expr} {t : CT}, Tg X e t → PG X e (gOf X.K t)
  | _, _, .name h1 h2 h3 => by unfold gOf; exact pg_name hN h1 h2 h3
  | _, _, .tup h => by
    unfold gOf
    obtain ⟨p, l1, l2⟩ := Tgs.pgs hN hc h
    exact pg_tup hc p l1 l2
theorem Tgs.pgs {X : Cx} (hN : X.N.Nodup) (hc : X.calm = true) : ∀ {es : List Expr} {l : List CT}, Tgs X es l → PGs X es (gsOf X.K l) ∧ (assignEach es X.env).length = l.length ∧ (assignEach es X.env).findIdx? (·.1) = none
  | _, _, .nil => by unfold gsOf; exact ⟨pgs_nil, rfl, rfl⟩
  | _, _, .cons h1 h2 => by
    unfold gsOf
    obtain ⟨p, l1, l2⟩ := Tgs.pgs hN hc h2
    refine ⟨pgs_cons (Tg.pg hN hc h1) p (by rw [h1.each]; rfl), by rw [h1.each]; simp [l1], ?_⟩
    rw [h1.each, List.findIdx?_cons]
    simp [l2]
end

theorem Rel.forget (R : Rel K g env S σ H ft) (i : Nat) : Rel K g (env.set i none) S (σ.set i none) H (ft.off i) := by
  have L := R.lend i
  refine ⟨L.sub, by rw [List.length_set, List.length_set]; exact R.len, fun j w e => ?_, L.off, L.nd, L.dj, L.out⟩
  obtain ⟨v, e1, r⟩ := L.slot j w e
  refine ⟨v, ?_, r⟩
  by_cases q : i = j
  · subst q
    by_cases hi : i < env.length
    · rw [List.getElem?_set_self hi] at e; cases e
    · rw [List.getElem?_eq_none (by simpa using hi)] at e; cases e
  · rw [List.getElem?_set_ne q]; exact e1
theorem Rel.wipe (R : Rel K g env S σ H ft) : ∀ vs : List Nat, ∃ ft', Rel K g (wipeE env vs) S (L2.wipe σ vs) H ft' ∧ ∀ a, ft'.own a → ft.own a
  | [] => ⟨ft, R, fun a h => h⟩
  | v :: vs => by
    obtain ⟨ft', R', ho⟩ := R.wipe vs
    exact ⟨_, R'.forget v, fun a h => ho a (off_own h)⟩
theorem wipe_len (σ : L2.St) (vs : List Nat) : (L2.wipe σ vs).length = σ.length := L2.wipe_length σ vs
theorem wipe_get {σ : L2.St} {i : Nat} : ∀ {vs : List Nat}, (L2.wipe σ vs)[i]? = if i ∈ vs then (σ[i]?).map fun _ => none else σ[i]?
  | [] => by simp [L2.wipe]
  | v :: vs => by
    unfold L2.wipe
    by_cases q : v = i
    · subst q
      rw [if_pos List.mem_cons_self]
      by_cases hi : v < σ.length
      · rw [List.getElem?_set_self (by rw [wipe_len]; exact hi), List.getElem?_eq_getElem hi]; rfl
      · rw [List.getElem?_eq_none (by rw [List.length_set, wipe_len]; omega), List.getElem?_eq_none (by omega)]; rfl
    · rw [List.getElem?_set_ne q, wipe_get]
      by_cases h : i ∈ vs
      · rw [if_pos h, if_pos (List.mem_cons_of_mem _ h)]
      · rw [if_neg h, if_neg (by simp only [List.mem_cons, not_or]; exact ⟨fun z => q z.symm, h⟩)]
theorem wipe_eq {vs : List Nat} (hl : σ'.length = σ.length) (h : ∀ j, j ∉ vs → σ'[j]? = σ[j]?) : L2.wipe σ' vs = L2.wipe σ vs := by
  apply List.ext_getElem?
  intro i
  rw [wipe_get, wipe_get]
  by_cases q : i ∈ vs
  · rw [if_pos q, if_pos q]
    by_cases hi : i < σ.length
    · rw [List.getElem?_eq_getElem hi, List.getElem?_eq_getElem (by omega)]; rfl
    · rw [List.getElem?_eq_none (by omega), List.getElem?_eq_none (by omega)]
  · rw [if_neg q, if_neg q]; exact h i q
theorem wipe_wipe {vs : List Nat} : L2.wipe (L2.wipe σ vs) vs = L2.wipe σ vs := by
  apply List.ext_getElem?
  intro i
  rw [wipe_get, wipe_get]
  by_cases q : i ∈ vs
  · rw [if_pos q, if_pos q]
    cases σ[i]? <;> rfl
  · rw [if_neg q]
theorem Off.wipe {ns vs : List Nat} (h : Off ns (L2.wipe σ vs) σ') (hl : σ'.length = σ.length) (sub : ∀ j ∈ ns, j ∈ vs) : L2.wipe σ' vs = L2.wipe σ vs := by
  have := wipe_eq (σ := L2.wipe σ vs) (σ' := σ') (vs := vs) (by rw [wipe_len]; exact hl) fun j hj => h j fun z => hj (sub j z)
  rw [this, wipe_wipe]
theorem wipeE_len : ∀ {vs : List Nat}, (wipeE env vs).length = env.length
  | [] => rfl
  | v :: vs => by unfold wipeE; rw [List.length_set]; exact wipeE_len
def restS (τ σ : L2.St) : List Nat → L2.St
  | [] => τ
  | v :: vs => (restS τ σ vs).set v ((σ[v]?).join)
theorem restS_get {τ : L2.St} {i : Nat} (hl : τ.length = σ.length) : ∀ {vs : List Nat}, (restS τ σ vs)[i]? = (if i ∈ vs then σ[i]? else τ[i]?) ∧ (restS τ σ vs).length = σ.length
  | [] => ⟨by simp [restS], hl⟩
  | v :: vs => by
    obtain ⟨h1, h2⟩ := restS_get (i := i) hl (vs := vs)
    unfold restS
    refine ⟨?_, by rw [List.length_set]; exact h2⟩
    by_cases q : v = i
    · subst q
      rw [if_pos List.mem_cons_self]
      by_cases hi : v < σ.length
      · rw [List.getElem?_set_self (by rw [h2]; exact hi), List.getElem?_eq_getElem hi]; rfl
      · rw [List.getElem?_eq_none (by rw [List.length_set, h2]; omega), List.getElem?_eq_none (by omega)]
    · rw [List.getElem?_set_ne q, h1]
      by_cases h : i ∈ vs
      · rw [if_pos h, if_pos (List.mem_cons_of_mem _ h)]
      · rw [if_neg h, if_neg (by simp only [List.mem_cons, not_or]; exact ⟨fun z => q z.symm, h⟩)]
theorem Rel.rest1 (R : Rel K g env S σ' H ft) : ∀ {us : List Nat}, (∀ v ∈ us, (∃ d u, env1[v]? = some (some (.sh d)) ∧ σ[v]? = some (some u) ∧ RD K g S d u) ∨ (env1[v]?.join = none)) →
    ∃ ft', Rel K g (restE env env1 us) S (restS σ' σ us) H ft' ∧ ∀ a, ft'.own a → ft.own a
  | [], _ => ⟨ft, R, fun a h => h⟩
  | v :: us, hs => by
    obtain ⟨ft', R', ho⟩ := R.rest1 (us := us) fun v hv => hs v (List.mem_cons_of_mem _ hv)
    unfold restE restS
    rcases hs v List.mem_cons_self with ⟨d, u, e1, e2, r⟩ | e1
    · rw [e1, e2]
      obtain ⟨ft2, R2, h2⟩ := R'.setSh (i := v) r
      exact ⟨ft2, R2, fun a h => ho a (h2 a h)⟩
    · rw [e1]
      have L := R'.lend v
      refine ⟨ft'.off v, ⟨L.sub, by rw [List.length_set, List.length_set]; exact R'.len, fun j w e => ?_, L.off, L.nd, L.dj, L.out⟩, fun a h => ho a (off_own h)⟩
      obtain ⟨x, e2, r⟩ := L.slot j w e
      refine ⟨x, ?_, r⟩
      by_cases q : v = j
      · subst q
        by_cases hi : v < (restE env env1 us).length
        · rw [List.getElem?_set_self hi] at e; cases e
        · rw [List.getElem?_eq_none (by rw [List.length_set]; omega)] at e; cases e
      · rw [List.getElem?_set_ne q]; exact e2
/-- the block's own names as they were -/
theorem Rel.rest {vs : List Nat} (R : Rel K g env S (L2.wipe σ vs) H ft) (hs : ∀ v ∈ vs, (∃ d u, env1[v]? = some (some (.sh d)) ∧ σ[v]? = some (some u) ∧ RD K g S d u) ∨ (env1[v]?.join = none)) :
    ∃ ft', Rel K g (restE env env1 vs) S σ H ft' ∧ ∀ a, ft'.own a → ft.own a := by
  obtain ⟨ft', R', ho⟩ := R.rest1 hs
  have : restS (L2.wipe σ vs) σ vs = σ := List.ext_getElem? fun j => by
    rw [(restS_get (wipe_len σ vs)).1, wipe_get]
    by_cases q : j ∈ vs
    · rw [if_pos q]
    · rw [if_neg q, if_neg q]
  rw [this] at R'
  exact ⟨ft', R', ho⟩
theorem light_ok (R : Rel K g env1 S σ H ft) {vs : List Nat} (h : lightE env1 vs = true) : ∀ v ∈ vs, (∃ d u, env1[v]? = some (some (.sh d)) ∧ σ[v]? = some (some u) ∧ RD K g S d u) ∨ (env1[v]?.join = none) := fun v hv => by
  have := List.all_eq_true.mp h v hv
  cases e : env1[v]? with
  | none => exact .inr rfl
  | some o =>
    cases o with
    | none => exact .inr rfl
    | some w =>
      rw [e] at this
      cases w with
      | sh d =>
        obtain ⟨u, e1, r⟩ := R.sh e
        exact .inl ⟨d, u, rfl, e1, r⟩
      | _ => cases this
end

/-- an iterator that gives these trees while F holds; A: what must stand aside -/
structure Wk (K : PySem.W.Frag) (g : G) (J : It) (ds : List D) (A : Addr → Prop) (F : Hp → Hp → Prop) : Prop where
  mono : ∀ {S H S' H' : Hp} {O O' : Addr → Prop}, F S H → Step S H O S' H' O' → (∀ a, A a → ¬ O a) → F S' H'
  stop : ∀ {S H : Hp}, (∀ a o, S a = some o → H a = some o) → F S H → ∀ i, ds.length ≤ i → J.stop i H
  go : ∀ {S H : Hp}, (∀ a o, S a = some o → H a = some o) → F S H → ∀ i d, ds[i]? = some d → J.go i H ∧ ∀ x H', J.yld i H x H' → ∃ S', RD K g S' d x ∧ Sm S S' ∧ Same H H' ∧ (∀ a o, S' a = some o → H' a = some o) ∧ (∀ a o, S' a = some o → S a = some o ∨ H a = none)
/-- a walk that is about to begin in H1; S0, H0: as it stood ahead; A: aside -/
structure Walk (X : Cx) (g : G) (J : It) (ds : List D) (S0 H0 H1 : Hp) (A : Addr → Prop) : Prop where
  ex : ∃ S1 F, Wk X.K g J ds A F ∧ F S1 H1 ∧ (∀ a, H1 a = none → H0 a = none) ∧ (∀ a, S1 a = none → S0 a = none) ∧
    (∀ env σ ft, Rel X.K g env S0 σ H0 ft → (∀ a, A a → ¬ ft.own a) → Rel X.K g env S1 σ H1 ft) ∧
    ∀ S2 H2 O O', (∀ a o, S2 a = some o → H2 a = some o) → Step S1 H1 O S2 H2 O' → (∀ a, A a → ¬ O a) → F S2 H2 → ∃ S3 H3, (H3 = H2 ∨ ∃ d od u, H2 d = some (.frz od u) ∧ (∀ o' u', X.H_0 d ≠ some (.frz o' u')) ∧ H3 = upd H2 d u) ∧
      Step S0 H0 O S3 H3 O' ∧ (∀ a, A a → H3 a = H0 a) ∧ Sm S2 S3 ∧ (∀ a o, S2 a = some o → isF o = false → S3 a = some o) ∧ (∀ a, O' a → H3 a = H2 a ∧ (S2 a = none → S3 a = none)) ∧ ∀ env σ ft, Rel X.K g env S2 σ H2 ft → (∀ a, ft.own a → O' a) → Rel X.K g env S3 σ H3 ft
end Rf

namespace Rf
open PySem L2 PyProof.Rows

section
variable {X : Cx} {g : G} {tg : Expr} {pins : List (Addr × Obj)} {σ : L2.St} {H : Hp} {s : Shared} {R : It → Hp → Prop}
theorem it_list {a : Addr} {xs : List V} (I : L2.Inv X pins σ H s) (hq : SqL X.K H a xs) (q : R (Itl X.K a) H) : wpAny (model X.prog X.w) X.A (pyIter (.ref a)) (PIE X pins σ tg R) X.xe s := by
  obtain ⟨its, rv, p, hz⟩ := I.list hq
  refine wpAny_pyIter_list p.isList ?_
  refine ⟨s.heap.objs.size, [s.heap.objs.size], _, _, H, rfl, I.kept (t' := s.toks) fun b o e => Heap.get?_push_of_some _ e, turn_list a _, ⟨_, Heap.get?_push_size _ rfl, rfl, rfl⟩, fun b hb => ?_, q⟩
  have e : b = s.heap.objs.size := by simpa using hb
  subst e
  exact I.fpOk (Nat.le_refl _) (I.hok.fresh (Nat.le_refl _))
theorem it_tup {a : Addr} {xs : List V} (I : L2.Inv X pins σ H s) (hq : SqT X.K H a xs) (q : R (Itt X.K a) H) : wpAny (model X.prog X.w) X.A (pyIter (.ref a)) (PIE X pins σ tg R) X.xe s := by
  obtain ⟨its, rv, p, hz⟩ := I.tuple hq
  refine wpAny_pyIter_tuple (show s.heap.IsTuple a its.toArray from p) ?_
  refine ⟨s.heap.objs.size, [s.heap.objs.size], _, _, H, rfl, I.kept (t' := s.toks) fun b o e => Heap.get?_push_of_some _ e, turn_tuple a _, ⟨_, Heap.get?_push_size _ rfl, rfl, rfl⟩, fun b hb => ?_, q⟩
  have e : b = s.heap.objs.size := by simpa using hb
  subst e
  exact I.fpOk (Nat.le_refl _) (I.hok.fresh (Nat.le_refl _))
theorem it_keysF {d : Addr} {o : Obj} {kvs : List (Key × V)} (I : L2.Inv X pins σ H s) (hd : H d = some (.frz o (.dK kvs))) (q : R (Itk d o kvs) H) : wpAny (model X.prog X.w) X.A (pyIter (.ref d)) (PIE X pins σ tg R) X.xe s := by
  obtain ⟨hs, hgd, hx, es, ep, vs, hdt, hsz, kv, hm⟩ := I.frzK hd
  refine iter_keys hs hgd hx hdt (pi_one (tk := s.toks) I _ (turn_keys _ hdt) ⟨_, Heap.get?_push_size _ rfl, rfl, ?_⟩ q)
  rw [hsz] <;> rfl
theorem it_keys {d : Addr} {kvs : List (Key × V)} (I : L2.Inv X pins σ H s) (hd : H d = some (.dK kvs)) (q : ∀ od, (∀ o' u', X.H_0 d ≠ some (.frz o' u')) → R (Itk d od kvs) (upd H d (.frz od (.dK kvs)))) :
    wpAny (model X.prog X.w) X.A (pyIter (.ref d)) (PIE X pins σ tg R) X.xe s := by
  obtain ⟨od, I1⟩ := I.lock hd trivial
  exact it_keysF I1 upd_same (q od (I.nofrz hd trivial))
end

section
variable {K : PySem.W.Frag} {g : G} {S H S' H' S0 H0 : Hp} {ft ft' : Ft} {env env' : Env} {σ : L2.St}
theorem Walk.plain {X : Cx} {J : It} {ds : List D} {A : Addr → Prop} {F : Hp → Hp → Prop} (w : Wk X.K g J ds A F) (h : F S0 H0) (hk : ∀ S2 H2 O O', Step S0 H0 O S2 H2 O' → (∀ a, A a → ¬ O a) → ∀ a, A a → H2 a = H0 a) : Walk X g J ds S0 H0 H0 A :=
  ⟨S0, F, w, h, fun _ z => z, fun _ z => z, fun env σ ft R _ => R, fun S2 H2 O O' sub st hA hF => ⟨S2, H2, .inl rfl, st, hk S2 H2 O O' st hA, Sm.refl _, fun _ _ e _ => e, fun _ _ => ⟨rfl, fun z => z⟩, fun env σ ft R _ => R⟩⟩
theorem keep_at {O O' A : Addr → Prop} (there : ∀ a, A a → ∃ o, H a = some o) (st : Step S H O S' H' O') (hA : ∀ a, A a → ¬ O a) : ∀ a, A a → H' a = H a := fun a ha => by
  obtain ⟨o, e⟩ := there a ha
  rw [e, st.keep a o e (hA a ha)]
/-- a yield that changes nothing -/
theorem go_same {d : D} {x : V} (sub : ∀ a o, S a = some o → H a = some o) (r : RD K g S d x) : ∃ S', RD K g S' d x ∧ Sm S S' ∧ Same H H ∧ (∀ a o, S' a = some o → H a = some o) ∧ (∀ a o, S' a = some o → S a = some o ∨ H a = none) :=
  ⟨S, r, Sm.refl S, Same.refl H, sub, fun a o e => .inl e⟩
theorem wk_of_list {a : Addr} {vs : List V} {ds : List D} {A : Addr → Prop} {F : Hp → Hp → Prop} (hm : ∀ {S H S' H' : Hp} {O O' : Addr → Prop}, F S H → Step S H O S' H' O' → (∀ a, A a → ¬ O a) → F S' H')
    (hs : ∀ {S H : Hp}, (∀ a o, S a = some o → H a = some o) → F S H → SqL K H a vs) : Wk K g (Itl K a) ds A (fun S H => F S H ∧ RDs K g S ds vs) := by
  refine ⟨fun h st hA => ⟨hm h.1 st hA, RDs.mono st.same _ _ h.2⟩, fun {S H} sub h i hi => ⟨vs, hs sub h.1, by rw [← RDs.length h.2]; exact hi⟩, fun {S H} sub h i d hd => ?_⟩
  obtain ⟨v, e, r⟩ := RDs.get h.2 hd
  refine ⟨⟨vs, v, hs sub h.1, e⟩, fun x H' y => ?_⟩
  obtain ⟨rfl, y⟩ := y
  have := y vs (hs sub h.1)
  rw [e] at this
  cases this
  exact go_same sub r
theorem wk_of_tup {a : Addr} {vs : List V} {ds : List D} {A : Addr → Prop} {F : Hp → Hp → Prop} (hm : ∀ {S H S' H' : Hp} {O O' : Addr → Prop}, F S H → Step S H O S' H' O' → (∀ a, A a → ¬ O a) → F S' H')
    (hs : ∀ {S H : Hp}, (∀ a o, S a = some o → H a = some o) → F S H → SqT K H a vs) : Wk K g (Itt K a) ds A (fun S H => F S H ∧ RDs K g S ds vs) := by
  refine ⟨fun h st hA => ⟨hm h.1 st hA, RDs.mono st.same _ _ h.2⟩, fun {S H} sub h i hi => ⟨vs, hs sub h.1, by rw [← RDs.length h.2]; exact hi⟩, fun {S H} sub h i d hd => ?_⟩
  obtain ⟨v, e, r⟩ := RDs.get h.2 hd
  refine ⟨⟨vs, v, hs sub h.1, e⟩, fun x H' y => ?_⟩
  obtain ⟨rfl, y⟩ := y
  have := y vs (hs sub h.1)
  rw [e] at this
  cases this
  exact go_same sub r
theorem walk_listS {X : Cx} {a : Addr} {vs : List V} {ds : List D} (h : S0 a = some (.lst vs)) (r : RDs X.K g S0 ds vs) : Walk X g (Itl X.K a) ds S0 H0 H0 (fun _ => False) :=
  Walk.plain (wk_of_list (F := fun S _ => S a = some (.lst vs)) (fun h st _ => st.same.ls _ _ h) fun sub h => SqL.of (sub _ _ h)) ⟨h, r⟩ fun _ _ _ _ _ _ a ha => ha.elim
theorem walk_listA {X : Cx} {a : Addr} {vs : List V} {ds : List D} (h : H0 a = some (.lst vs)) (r : RDs X.K g S0 ds vs) : Walk X g (Itl X.K a) ds S0 H0 H0 (fun b => b = a) :=
  Walk.plain (wk_of_list (F := fun _ H => H a = some (.lst vs)) (fun h st hA => st.keep _ _ h (hA a rfl)) fun sub h => SqL.of h) ⟨h, r⟩ fun _ _ _ _ st hA => keep_at (fun b hb => by subst hb; exact ⟨_, h⟩) st hA
theorem walk_scr {X : Cx} {a : Addr} {l : List Int} (h : SqL X.K S0 a (l.map V.int)) : Walk X g (Itl X.K a) (l.map .int) S0 H0 H0 (fun _ => False) :=
  Walk.plain (wk_of_list (F := fun S _ => SqL X.K S a (l.map V.int)) (fun h st _ => st.same.sqL h) fun sub h => (Sm.of sub).sqL h) ⟨h, RDs.ints l⟩ fun _ _ _ _ _ _ a ha => ha.elim
theorem walk_tup {X : Cx} {a : Addr} {vs : List V} {ds : List D} (h : SqT X.K S0 a vs) (r : RDs X.K g S0 ds vs) : Walk X g (Itt X.K a) ds S0 H0 H0 (fun _ => False) :=
  Walk.plain (wk_of_tup (F := fun S _ => SqT X.K S a vs) (fun h st _ => st.same.sqT h) fun sub h => (Sm.of sub).sqT h) ⟨h, r⟩ fun _ _ _ _ _ _ a ha => ha.elim
theorem walk_rng {X : Cx} {lo : Int} {n : Nat} {ds : List D} (h : ds = (List.range n).map fun (k : Nat) => D.int (lo + (k : Int))) : Walk X g (Itr lo n) ds S0 H0 H0 (fun _ => False) := by
  refine Walk.plain (F := fun _ _ => True) ⟨fun _ _ _ => trivial, fun sub _ i hi => ?_, fun {S H} sub _ i d hd => ?_⟩ trivial fun _ _ _ _ _ _ a ha => ha.elim
  · subst h
    show n ≤ i
    simpa using hi
  · subst h
    rw [List.getElem?_map] at hd
    obtain ⟨k, e1, rfl⟩ := Option.map_eq_some_iff.mp hd
    obtain ⟨hk, e2⟩ := List.getElem?_eq_some_iff.mp e1
    simp at e2 hk
    subst e2
    refine ⟨hk, fun x H' y => ?_⟩
    obtain ⟨rfl, rfl⟩ := y
    exact go_same sub rfl
/-- keys of a dict that is locked -/
theorem wk_keys {d : Addr} {o : Obj} {kvs : List (Key × V)} : Wk K g (Itk d o kvs) ((kvs.map (·.1)).map keyTo) (fun b => b = d) (fun _ H => H d = some (.frz o (.dK kvs))) := by
  refine ⟨fun h st hA => st.keep _ _ h (hA d rfl), fun {S H} sub h i hi => ⟨h, by simpa using hi⟩, fun {S H} sub h i x hx => ?_⟩
  rw [List.getElem?_map, List.getElem?_map] at hx
  obtain ⟨k, e1, rfl⟩ := Option.map_eq_some_iff.mp hx
  obtain ⟨p, e2, rfl⟩ := Option.map_eq_some_iff.mp e1
  refine ⟨⟨h, (List.getElem?_eq_some_iff.mp e2).1⟩, fun x H' y => ?_⟩
  obtain ⟨rfl, k, v, e3, rfl⟩ := y
  rw [e2] at e3
  cases e3
  have r := (keyTo_kV (K := K) (g := g) (H := S) [k])
  obtain ⟨v', us, e4, r1, _⟩ := r
  cases e4
  exact go_same sub r1
theorem walk_keysF {X : Cx} {d : Addr} {o : Obj} {kvs : List (Key × V)} (h : H0 d = some (.frz o (.dK kvs))) : Walk X g (Itk d o kvs) ((kvs.map (·.1)).map keyTo) S0 H0 H0 (fun b => b = d) :=
  Walk.plain wk_keys h fun _ _ _ _ st hA => keep_at (fun b hb => by subst hb; exact ⟨_, h⟩) st hA
/-- .. that a slot alone holds -/
theorem walk_keysA {X : Cx} {d : Addr} {kvs : List (Key × V)} (h : H0 d = some (.dK kvs)) (hS : S0 d = none) (od : Obj) (hn : ∀ o' u', X.H_0 d ≠ some (.frz o' u')) :
    Walk X g (Itk d od kvs) ((kvs.map (·.1)).map keyTo) S0 H0 (upd H0 d (.frz od (.dK kvs))) (fun b => b = d) := by
  refine ⟨S0, _, wk_keys, upd_same, fun a z => ?_, fun _ z => z, fun env σ ft R hA => ?_, fun S2 H2 O O' sub st hA hF => ?_⟩
  · by_cases q : a = d
    · subst q; rw [upd_same] at z; cases z
    · rwa [upd_ne q] at z
  · have hd := hA d rfl
    refine ⟨fun a o e => ?_, R.len, fun i w e => ?_, R.off, R.nd, R.dj, R.out⟩
    · rw [upd_ne (fun z => by rw [z, hS] at e; cases e)]; exact R.sub a o e
    · obtain ⟨v, e1, r⟩ := R.slot i w e
      exact ⟨v, e1, RW.move (Sm.refl _) _ _ _ (fun a ha => upd_ne fun z => hd ⟨i, z ▸ ha⟩) r⟩
  · have hd := hA d rfl
    have hS2 : S2 d = none := by
      cases q : S2 d with
      | none => rfl
      | some o =>
        rcases st.grow d o q with z | z | z
        · rw [hS] at z; cases z
        · rw [upd_same] at z; cases z
        · exact absurd z hd
    refine ⟨S2, upd H2 d (.dK kvs), .inr ⟨d, od, _, hF, hn, rfl⟩, ⟨st.same, fun a o e n => ?_, fun a ha => ?_, fun a o e => ?_, fun a o e => ?_⟩, fun a ha => ?_, Sm.refl _, fun _ _ e _ => e, fun a ha => ⟨upd_ne fun z => ?_, fun z => z⟩, fun env σ ft R hO => ?_⟩
    · by_cases q : a = d
      · subst q; rw [upd_same]; rw [h] at e; exact e
      · rw [upd_ne q]; exact st.keep a o (by rw [upd_ne q]; exact e) n
    · rcases st.own a ha with z | z
      · exact .inl z
      · by_cases q : a = d
        · subst q; rw [upd_same] at z; cases z
        · rw [upd_ne q] at z; exact .inr z
    · rcases st.grow a o e with z | z | z
      · exact .inl z
      · by_cases q : a = d
        · subst q; rw [upd_same] at z; cases z
        · rw [upd_ne q] at z; exact .inr (.inl z)
      · exact .inr (.inr z)
    · by_cases q : a = d
      · subst q; exact ⟨_, upd_same⟩
      · rw [upd_ne q]; exact st.there a o (by rw [upd_ne q]; exact e)
    · subst ha; rw [upd_same, h]
    · subst z
      rcases st.own a ha with y | y
      · exact hd y
      · rw [upd_same] at y; cases y
    · have hdo : ¬ ft.own d := fun z => by
        rcases st.own d (hO d z) with y | y
        · exact hd y
        · rw [upd_same] at y; cases y
      refine ⟨fun a o e => ?_, R.len, fun i w e => ?_, R.off, R.nd, R.dj, R.out⟩
      · rw [upd_ne (fun z => by rw [z, hS2] at e; cases e)]; exact R.sub a o e
      · obtain ⟨v, e1, r⟩ := R.slot i w e
        exact ⟨v, e1, RW.move (Sm.refl _) _ _ _ (fun a ha => upd_ne fun z => hdo ⟨i, z ▸ ha⟩) r⟩
/-- .. that is shared -/
theorem walk_keysS {X : Cx} {d : Addr} {kvs : List (Key × V)} (h : S0 d = some (.dK kvs)) (sub0 : ∀ a o, S0 a = some o → H0 a = some o) (od : Obj) (hn : ∀ o' u', X.H_0 d ≠ some (.frz o' u')) :
    Walk X g (Itk d od kvs) ((kvs.map (·.1)).map keyTo) S0 H0 (upd H0 d (.frz od (.dK kvs))) (fun b => b = d) := by
  have sm1 : Sm S0 (upd S0 d (.frz od (.dK kvs))) := by
    refine ⟨fun a u hf r => ?_, fun a C dx fs e => ?_, fun a T n e => ?_, fun a vs e => ?_, fun a vs e => ?_, fun a vs e => ?_⟩
    · by_cases q : a = d
      · subst q
        rcases r with r | ⟨o, r⟩
        · rw [h] at r; cases r; exact .inr ⟨od, upd_same⟩
        · rw [h] at r; cases r
      · rcases r with r | ⟨o, r⟩
        · exact .inl (by rw [upd_ne q]; exact r)
        · exact .inr ⟨o, by rw [upd_ne q]; exact r⟩
    all_goals
      rw [upd_ne (fun z => by rw [z, h] at e; cases e)]; exact e
  refine ⟨upd S0 d (.frz od (.dK kvs)), _, wk_keys, upd_same, fun a z => ?_, fun a z => ?_, fun env σ ft R hA => ?_, fun S2 H2 O O' sub st hA hF => ?_⟩
  · by_cases q : a = d
    · subst q; rw [upd_same] at z; cases z
    · rwa [upd_ne q] at z
  · by_cases q : a = d
    · subst q; rw [upd_same] at z; cases z
    · rwa [upd_ne q] at z
  · have hd := hA d rfl
    refine ⟨fun a o e => ?_, R.len, fun i w e => ?_, R.off, R.nd, R.dj, fun i a ha => ?_⟩
    · by_cases q : a = d
      · subst q; rw [upd_same] at e ⊢; exact e
      · rw [upd_ne q] at e ⊢; exact R.sub a o e
    · obtain ⟨v, e1, r⟩ := R.slot i w e
      exact ⟨v, e1, RW.move sm1 _ _ _ (fun a ha => upd_ne fun z => hd ⟨i, z ▸ ha⟩) r⟩
    · have hne : a ≠ d := fun z => hd ⟨i, by rw [← z]; exact ha⟩
      rw [upd_ne hne]; exact R.out i a ha
  · have hd := hA d rfl
    have hR := st.same.rd d (.dK kvs) rfl (.inr ⟨od, upd_same⟩)
    have hS2 : S2 d = some (.frz od (.dK kvs)) := by
      rcases hR with z | ⟨o, z⟩
      · have := sub d _ z; rw [hF] at this; cases this
      · have := sub d _ z; rw [hF] at this; cases this; exact z
    have sm2 : Sm S2 (upd S2 d (.dK kvs)) := by
      refine ⟨fun a u hf r => ?_, fun a C dx fs e => ?_, fun a T n e => ?_, fun a vs e => ?_, fun a vs e => ?_, fun a vs e => ?_⟩
      · by_cases q : a = d
        · subst q
          rcases r with r | ⟨o, r⟩
          · rw [hS2] at r; cases r; cases hf
          · rw [hS2] at r; cases r; exact .inl upd_same
        · rcases r with r | ⟨o, r⟩
          · exact .inl (by rw [upd_ne q]; exact r)
          · exact .inr ⟨o, by rw [upd_ne q]; exact r⟩
      all_goals
        rw [upd_ne (fun z => by rw [z, hS2] at e; cases e)]; exact e
    refine ⟨upd S2 d (.dK kvs), upd H2 d (.dK kvs), .inr ⟨d, od, _, hF, hn, rfl⟩, ⟨(sm1.trans st.same).trans sm2, fun a o e n => ?_, fun a ha => ?_, fun a o e => ?_, fun a o e => ?_⟩, fun a ha => ?_, sm2, fun a o e hf => by rw [upd_ne (fun z => by rw [z, hS2] at e; cases e; cases hf)]; exact e, fun a ha => ?_, fun env σ ft R hO => ?_⟩
    · by_cases q : a = d
      · subst q; rw [upd_same]; rw [sub0 _ _ h] at e; exact e
      · rw [upd_ne q]; exact st.keep a o (by rw [upd_ne q]; exact e) n
    · rcases st.own a ha with z | z
      · exact .inl z
      · by_cases q : a = d
        · subst q; rw [upd_same] at z; cases z
        · rw [upd_ne q] at z; exact .inr z
    · by_cases q : a = d
      · subst q; rw [upd_same] at e; rw [h]; exact .inl e
      · rw [upd_ne q] at e
        rcases st.grow a o e with z | z | z
        · rw [upd_ne q] at z; exact .inl z
        · rw [upd_ne q] at z; exact .inr (.inl z)
        · exact .inr (.inr z)
    · by_cases q : a = d
      · subst q; exact ⟨_, upd_same⟩
      · rw [upd_ne q]; exact st.there a o (by rw [upd_ne q]; exact e)
    · subst ha; rw [upd_same, sub0 _ _ h]
    · have q : a ≠ d := fun z => by
        subst z
        rcases st.own a ha with y | y
        · exact hd y
        · rw [upd_same] at y; cases y
      exact ⟨upd_ne q, fun z => by rw [upd_ne q]; exact z⟩
    · have hdo : ¬ ft.own d := fun z => by
        rcases st.own d (hO d z) with y | y
        · exact hd y
        · rw [upd_same] at y; cases y
      refine ⟨fun a o e => ?_, R.len, fun i w e => ?_, R.off, R.nd, R.dj, fun i a ha => ?_⟩
      · by_cases q : a = d
        · subst q; rw [upd_same] at e ⊢; exact e
        · rw [upd_ne q] at e ⊢; exact R.sub a o e
      · obtain ⟨v, e1, r⟩ := R.slot i w e
        exact ⟨v, e1, RW.move sm2 _ _ _ (fun a ha => upd_ne fun z => hdo ⟨i, z ▸ ha⟩) r⟩
      · have hne : a ≠ d := fun z => hdo ⟨i, by rw [← z]; exact ha⟩
        rw [upd_ne hne]; exact R.out i a ha
end
end Rf

namespace Rf
open PySem L2 PyProof.Rows

/-- a content that is lent out of a slot while its items are walked -/
def LentR (K : PySem.W.Frag) (g : G) (o : Option (Nat × W)) (l : List Addr) (env1 : Env) (S0 : Hp) (σ : L2.St) (H0 : Hp) : Prop := match o with
  | none => l = []
  | some (i, w) => i < env1.length ∧ ∃ v, σ[i]? = some (some v) ∧ RW K g S0 H0 w v l ∧ l.Nodup ∧ ∀ a ∈ l, S0 a = none
def tIt (X : Cx) (g : G) (Wx : WX) (r : Env → R (List D × Option (Nat × W))) : TI := fun σ H Q => ∃ env S ft, Rel X.K g env S σ H ft ∧ match r env with
  | .ok s env1 => ∀ S0 H0 ft1 l A J H1, Rel X.K g env1 S0 σ H0 ft1 → Step S H ft.own S0 H0 (fun a => ft1.own a ∨ a ∈ l) → (∀ a, A a → ¬ ft1.own a) → (∀ a ∈ l, A a) → LentR X.K g s.2 l env1 S0 σ H0 → s.1.length ≤ lim → Walk X g J s.1 S0 H0 H1 A → Q J H1
  | .exc x env1 => ∀ cls dx S' H' ft', Rel X.K g env1 S' σ H' ft' → Step S H ft.own S' H' ft'.own → RX X.K g S' x cls dx → Wx cls dx σ H'
  | .bad => False

section
variable {X : Cx} {g : G} {Wx : WX} {tg e : Expr} {E : Ev} {pins : List (Addr × Obj)} {σ : L2.St} {H S : Hp} {s : Shared} {R : It → Hp → Prop} {env env1 : Env} {ft : Ft}
theorem it_val {d : D} {l : List D} {x : V} {u : Value} (I : L2.Inv X pins σ H s) (rx : RelV x u) (Rl : Rel X.K g env S σ H ft) (r : RD X.K g S d x) (hi : d.items = some l)
    (q : ∀ A J H1, (∀ a, A a → ¬ ft.own a) → l.length ≤ lim → Walk X g J l S H H1 A → R J H1) : wpAny (model X.prog X.w) X.A (pyIter u) (PIE X pins σ tg R) X.xe s := by
  have nown : ∀ {a o}, S a = some o → ¬ ft.own a := fun {a o} e ⟨i, hi⟩ => by rw [Rl.out i a hi] at e; cases e
  cases d with
  | lst ds =>
    cases hi
    obtain ⟨a, vs, rfl, e, rs⟩ := r
    cases rx
    have hq : SqL X.K H a vs := SqL.of (Rl.sub _ _ e)
    obtain ⟨_, _, _, hz⟩ := I.list hq
    exact it_list I hq (q _ _ _ (fun _ z => z.elim) (by rw [RDs.length rs, ← slim]; exact hz) (walk_listS e rs))
  | tup ds =>
    cases hi
    obtain ⟨a, vs, rfl, e, rs⟩ := r
    cases rx
    have hq : SqT X.K H a vs := SqT.of (Rl.sub _ _ e)
    obtain ⟨_, _, _, hz⟩ := I.tuple hq
    exact it_tup I hq (q _ _ _ (fun _ z => z.elim) (by rw [RDs.length rs, ← slim]; exact hz) (walk_tup (SqT.of e) rs))
  | kt ds =>
    cases hi
    obtain ⟨a, vs, rfl, e, rs⟩ := r
    cases rx
    have hq : SqT X.K H a vs := (Sm.of Rl.sub).sqT e
    obtain ⟨_, _, _, hz⟩ := I.tuple hq
    exact it_tup I hq (q _ _ _ (fun _ z => z.elim) (by rw [RDs.length rs, ← slim]; exact hz) (walk_tup e rs))
  | scr ds =>
    cases hi
    obtain ⟨a, rfl, e⟩ := r
    cases rx
    have hq : SqL X.K H a (ds.map V.int) := (Sm.of Rl.sub).sqL e
    obtain ⟨_, _, _, hz⟩ := I.list hq
    exact it_list I hq (q _ _ _ (fun _ z => z.elim) (by rw [List.length_map] at hz ⊢; rw [← slim]; exact hz) (walk_scr e))
  | dK ks vs =>
    cases hi
    obtain ⟨a, kvs, rfl, e, ek, rs⟩ := r
    cases rx
    subst ek
    have hlen : ((kvs.map (·.1)).map keyTo).length ≤ lim := by
      rw [List.length_map, List.length_map, ← slim]
      have hx : ObjOk X.prog X.w H s.heap a (.dK kvs) := Rd.ok ((Sm.of Rl.sub).rd _ _ rfl e) I.hok
      exact hx.1
    rcases e with e | ⟨o, e⟩
    · exact it_keys I (Rl.sub _ _ e) fun od hn => q _ _ _ (fun b hb => by subst hb; exact nown e) hlen (walk_keysS e Rl.sub od hn)
    · exact it_keysF I (Rl.sub _ _ e) (q _ _ _ (fun b hb => by subst hb; exact nown e) hlen (walk_keysF (Rl.sub _ _ e)))
  | _ => cases hi
theorem items_len {d : D} {l : List D} (h : d.items = some l) : True := trivial
theorem pi_val (h : Snd X g Wx e E) : PI X tg e (tIt X g Wx (runI .val [E])) := by
  refine ⟨fun pins s σ H R I ⟨env, S, ft, Rl, m⟩ => ?_⟩
  unfold runI at m
  have st0 : Step S H ft.own S H (fun a => ft.own a ∨ a ∈ ([] : List Addr)) := Step.refl.post fun a ha => ha.elim id fun z => by cases z
  have other : (match (E.e env).bind fun d env1 => match d.items with | some l => Rf.R.ok (l, (none : Option (Nat × W))) env1 | none => .bad with
      | .ok s env1 => ∀ S0 H0 ft1 l A J H1, Rel X.K g env1 S0 σ H0 ft1 → Step S H ft.own S0 H0 (fun a => ft1.own a ∨ a ∈ l) → (∀ a, A a → ¬ ft1.own a) → (∀ a ∈ l, A a) → LentR X.K g s.2 l env1 S0 σ H0 → s.1.length ≤ lim → Walk X g J s.1 S0 H0 H1 A → R J H1
      | .exc x env1 => ∀ cls dx S' H' ft', Rel X.K g env1 S' σ H' ft' → Step S H ft.own S' H' ft'.own → RX X.K g S' x cls dx → Wx cls dx σ H'
      | .bad => False) → wpAny (model X.prog X.w) X.A (eval e X.env) (fun v s1 => wpAny (model X.prog X.w) X.A (pyIter v) (PIE X pins σ tg R) X.xe s1) X.xe s := fun m => by
    refine thn (h.pe.run pins s σ H (fun v H1 => ∃ env1 S1 ft1 d l, Rel X.K g env1 S1 σ H1 ft1 ∧ RD X.K g S1 d v ∧ d.items = some l ∧ ∀ A J H2, (∀ a, A a → ¬ ft1.own a) → l.length ≤ lim → Walk X g J l S1 H1 H2 A → R J H2) I ⟨env, S, ft, Rl, ?_⟩) fun u s1 ⟨v, H1, I1, ru, env1, S1, ft1, d, l, R1, r, hi, q⟩ => it_val I1 ru R1 r hi q
    cases e1 : E.e env with
    | ok d env1 =>
      simp only [e1, Rf.R.bind_ok] at m
      intro v S1 H1 ft1 R1 st r
      cases hi : d.items with
      | none => rw [hi] at m; exact m.elim
      | some l =>
        rw [hi] at m
        exact ⟨env1, S1, ft1, d, l, R1, r, hi, fun A J H2 hA hl w => m S1 H1 ft1 [] A J H2 R1 (st.post fun a ha => ha.elim id fun z => by cases z) hA (fun a ha => by cases ha) rfl hl w⟩
    | exc x env1 => simp only [e1, Rf.R.bind_exc] at m; exact m
    | bad => simp only [e1, Rf.R.bind_bad] at m
  cases q : E.pk with
  | no => simp only [q] at m; exact other m
  | fld i f => simp only [q] at m; exact other m
  | var i =>
    simp only [q] at m
    cases e0 : env[i]? with
    | none => simp only [e0] at m
    | some o =>
      cases o with
      | none => simp only [e0] at m
      | some w =>
        have run : ∀ {v : V}, σ[i]? = some (some v) → (∀ s1, L2.Inv X pins σ H s1 → ∀ u, RelV v u → wpAny (model X.prog X.w) X.A (pyIter u) (PIE X pins σ tg R) X.xe s1) → wpAny (model X.prog X.w) X.A (eval e X.env) (fun v s1 => wpAny (model X.prog X.w) X.A (pyIter v) (PIE X pins σ tg R) X.xe s1) X.xe s := fun {v} ev k =>
          thn ((h.pv i q).1.run pins s σ H (fun u H1 => u = v ∧ H1 = H) I ⟨v, ev, rfl, rfl⟩) fun u s1 ⟨v', H1, I1, ru, q⟩ => by
            obtain ⟨rfl, rfl⟩ := q
            exact k s1 I1 u ru
        obtain ⟨v, ev, r⟩ := Rl.slot i w e0
        have hil : i < env.length := (List.getElem?_eq_some_iff.mp e0).1
        have lent : ∀ {S0 : Hp}, S0 = S → LentR X.K g (some (i, w)) (ft i) (env.set i none) S σ H := fun _ => ⟨by rw [List.length_set]; exact hil, v, ev, r, Rl.nd i, fun a ha => Rl.out i a ha⟩
        have offn : ∀ a, a ∈ ft i → ¬ (ft.off i).own a := fun a ha ⟨j, hj⟩ => by
          unfold Ft.off at hj
          split at hj
          · cases hj
          · rename_i q
            exact Rl.dj i j a (Ne.symm q) ha hj
        have stL : Step S H ft.own S H (fun a => (ft.off i).own a ∨ a ∈ ft i) := Step.refl.post fun a ha => ha.elim off_own fun z => ⟨i, z⟩
        cases w with
        | sh d =>
          simp only [e0] at m
          refine run ev fun s1 I1 u ru => ?_
          cases hi : d.items with
          | none => rw [hi] at m; exact m.elim
          | some l =>
            rw [hi] at m
            exact it_val I1 ru Rl r.2 hi fun A J H2 hA hl w => m S H ft [] A J H2 Rl st0 hA (fun a ha => by cases ha) rfl hl w
        | oL ds =>
          simp only [e0, W.peek, D.items] at m
          refine run ev fun s1 I1 u ru => ?_
          obtain ⟨a, vs, rfl, ef, e1, rs⟩ := id r
          cases ru
          have hq : SqL X.K H a vs := SqL.of e1
          obtain ⟨_, _, _, hz⟩ := I1.list hq
          refine it_list I1 hq (m S H _ (ft i) (fun b => b = a) _ _ (Rl.lend i) stL (fun b hb => ?_) (fun b hb => ?_) (lent rfl) (by rw [RDs.length rs, ← slim]; exact hz) (walk_listA e1 rs))
          · subst hb; exact offn b (by rw [ef]; exact List.mem_singleton.mpr rfl)
          · rw [ef] at hb; exact List.mem_singleton.mp hb
        | oK ks ds =>
          simp only [e0, W.peek, D.items] at m
          refine run ev fun s1 I1 u ru => ?_
          obtain ⟨a, kvs, rfl, ef, e1, ek, rs⟩ := id r
          cases ru
          subst ek
          have hS : S a = none := Rl.out i a (by rw [ef]; exact List.mem_singleton.mpr rfl)
          have hx : ObjOk X.prog X.w H s1.heap a (.dK kvs) := I1.hok a _ e1
          refine it_keys I1 e1 fun od hn => m S H _ (ft i) (fun b => b = a) _ _ (Rl.lend i) stL (fun b hb => ?_) (fun b hb => ?_) (lent rfl) (by rw [List.length_map, List.length_map, ← slim]; exact hx.1) (walk_keysA e1 hS od hn)
          · subst hb; exact offn b (by rw [ef]; exact List.mem_singleton.mpr rfl)
          · rw [ef] at hb; exact List.mem_singleton.mp hb
        | oT ks ds => simp only [e0, W.peek, D.items] at m
        | oI c fs ws => simp only [e0, W.peek] at m
        | xn c f d => simp only [e0, W.peek] at m
end
end Rf

namespace Rf
open PySem L2 PyProof.Rows

section
variable {X : Cx} {g : G} {Wx : WX} {tg e a b : Expr} {E A B : Ev} {es : List Expr} {Es : List Ev} {pins : List (Addr × Obj)} {σ : L2.St} {H S : Hp} {s : Shared} {env env1 : Env} {ft : Ft}
theorem pa_e (h : Snds X g Wx es Es) : PA X es (tDs X.K g Wx (runE Es)) := by
  induction h with
  | nil => exact ⟨fun pos pins s σ H Q I q => (pa_nil (X := X)).run pos pins s σ H Q I (runE_nil q)⟩
  | cons h1 h2 ih => exact ⟨fun pos pins s σ H Q I q => (pa_cons h1.pe ih (h1.ns _ _)).run pos pins s σ H Q I (runE_cons q)⟩
theorem pi_rng1 {p pos : Pos} (hg : Gl X "range") (hm : X.mg "range" = none) (h : Snd X g Wx a A) : PI X tg (.Call (.Name "range" p) [a] [] pos) (tIt X g Wx (runI .range [A])) := by
  refine ⟨fun pins s σ H R I ⟨env, S, ft, Rl, m⟩ => (pi_range1 hg hm (pa_e (.cons h .nil)) (by rw [h.ns]; rfl)).run pins s σ H R I ⟨env, S, ft, Rl, ?_⟩⟩
  unfold runI at m
  unfold runE
  cases e1 : A.e env with
  | ok d env1 =>
    simp only [e1, Rf.R.bind_ok, runE] at m ⊢
    intro vs S1 H1 ft1 R1 st rs
    cases d with
    | int j =>
      simp only at m
      by_cases c : (inLim j && decide (j ≤ (lim : Int))) = true
      · rw [if_pos c] at m
        obtain ⟨c1, c2⟩ := Bool.and_eq_true_iff.mp c
        obtain ⟨c3, c4⟩ := Bool.and_eq_true_iff.mp c1
        obtain ⟨v, us, rfl, r1, r2⟩ := rs
        cases (show us = [] from r2)
        cases (show v = .int j from r1)
        have c2 := of_decide_eq_true c2
        refine ⟨j, rfl, of_decide_eq_true c3, of_decide_eq_true c4, m S1 H1 ft1 [] (fun _ => False) _ _ R1 (st.post fun a ha => ha.elim id fun z => by cases z) (fun _ z => z.elim) (fun a ha => by cases ha) rfl ?_ (walk_rng ?_)⟩
        · simp only [rangeD, List.length_map, List.length_range]; omega
        · unfold rangeD; rw [show (j - 0).toNat = j.toNat by omega]
      · rw [if_neg c] at m; exact m.elim
    | _ => exact m.elim
  | exc x env1 => simp only [e1, Rf.R.bind_exc] at m ⊢; exact m
  | bad => simp only [e1, Rf.R.bind_bad] at m
theorem pi_rng2 {p pos : Pos} (hg : Gl X "range") (hm : X.mg "range" = none) (h : Snd X g Wx a A) (h2 : Snd X g Wx b B) : PI X tg (.Call (.Name "range" p) [a, b] [] pos) (tIt X g Wx (runI .range [A, B])) := by
  refine ⟨fun pins s σ H R I ⟨env, S, ft, Rl, m⟩ => (pi_range2 hg hm (pa_e (.cons h (.cons h2 .nil))) (by rw [h.ns, h2.ns]; rfl) (by rw [h2.ns]; rfl)).run pins s σ H R I ⟨env, S, ft, Rl, ?_⟩⟩
  unfold runI at m
  unfold runE
  cases e1 : A.e env with
  | ok d env1 =>
    simp only [e1, Rf.R.bind_ok] at m ⊢
    unfold runE
    cases e2 : B.e env1 with
    | ok d2 env2 =>
      simp only [e2, Rf.R.bind_ok, runE] at m ⊢
      intro vs S1 H1 ft1 R1 st rs
      cases d with
      | int i =>
        cases d2 with
        | int j =>
          simp only at m
          by_cases c : (inLim i && inLim j && decide (j - i ≤ (lim : Int))) = true
          · rw [if_pos c] at m
            obtain ⟨c1, c2⟩ := Bool.and_eq_true_iff.mp c
            obtain ⟨c3, c4⟩ := Bool.and_eq_true_iff.mp c1
            obtain ⟨c5, c6⟩ := Bool.and_eq_true_iff.mp c3
            obtain ⟨c7, c8⟩ := Bool.and_eq_true_iff.mp c4
            obtain ⟨v, us, rfl, r1, r2⟩ := rs
            obtain ⟨v2, us2, rfl, r3, r4⟩ := r2
            cases (show us2 = [] from r4)
            cases (show v = .int i from r1)
            cases (show v2 = .int j from r3)
            have c2 := of_decide_eq_true c2
            refine ⟨i, j, rfl, ⟨of_decide_eq_true c5, of_decide_eq_true c6, of_decide_eq_true c7, of_decide_eq_true c8⟩, m S1 H1 ft1 [] (fun _ => False) _ _ R1 (st.post fun a ha => ha.elim id fun z => by cases z) (fun _ z => z.elim) (fun a ha => by cases ha) rfl ?_ (walk_rng rfl)⟩
            simp only [rangeD, List.length_map, List.length_range]; omega
          · rw [if_neg c] at m; exact m.elim
        | _ => exact m.elim
      | _ => exact m.elim
    | exc x env1 => simp only [e2, Rf.R.bind_exc] at m ⊢; exact m
    | bad => simp only [e2, Rf.R.bind_bad] at m
  | exc x env1 => simp only [e1, Rf.R.bind_exc] at m ⊢; exact m
  | bad => simp only [e1, Rf.R.bind_bad] at m

theorem pe_unl {t : TE} (h : PE X e t) : PE X e (fun σ H Q => t σ H fun v H' => Q v H' ∨ ∃ d od u, H' d = some (.frz od u) ∧ (∀ o' u', X.H_0 d ≠ some (.frz o' u')) ∧ Q v (upd H' d u)) := by
  refine ⟨fun pins s σ H Q I hw => thn (h.run pins s σ H _ I hw) fun v s1 ⟨x, H1, I1, r, q⟩ => ?_⟩
  rcases q with q | ⟨d, od, u, e, hn, q⟩
  · exact ⟨x, H1, I1, r, q⟩
  · exact ⟨x, _, I1.unlock e hn, r, q⟩
theorem ps_unl {st : Stmt} {t : TS} (h : PS X st t) : PS X st (fun D σ H => t ⟨fun σ' H' => D.nx σ' H' ∨ ∃ d od u, H' d = some (.frz od u) ∧ (∀ o' u', X.H_0 d ≠ some (.frz o' u')) ∧ D.nx σ' (upd H' d u),
    fun v H' => D.rt v H' ∨ ∃ d od u, H' d = some (.frz od u) ∧ (∀ o' u', X.H_0 d ≠ some (.frz o' u')) ∧ D.rt v (upd H' d u),
    fun σ' H' => D.bk σ' H' ∨ ∃ d od u, H' d = some (.frz od u) ∧ (∀ o' u', X.H_0 d ≠ some (.frz o' u')) ∧ D.bk σ' (upd H' d u),
    fun σ' H' => D.ct σ' H' ∨ ∃ d od u, H' d = some (.frz od u) ∧ (∀ o' u', X.H_0 d ≠ some (.frz o' u')) ∧ D.ct σ' (upd H' d u)⟩ σ H) := by
  refine ⟨fun pins s σ H D I hw => thn (h.run pins s σ H _ I hw) fun f s1 q => ?_⟩
  cases f with
  | next =>
    obtain ⟨σ', H', I2, q⟩ := q
    rcases q with q | ⟨d, od, u, e, hn, q⟩
    · exact ⟨σ', H', I2, q⟩
    · exact ⟨σ', _, I2.unlock e hn, q⟩
  | brk =>
    obtain ⟨σ', H', I2, q⟩ := q
    rcases q with q | ⟨d, od, u, e, hn, q⟩
    · exact ⟨σ', H', I2, q⟩
    · exact ⟨σ', _, I2.unlock e hn, q⟩
  | cont =>
    obtain ⟨σ', H', I2, q⟩ := q
    rcases q with q | ⟨d, od, u, e, hn, q⟩
    · exact ⟨σ', H', I2, q⟩
    · exact ⟨σ', _, I2.unlock e hn, q⟩
  | ret v =>
    obtain ⟨x, σ', H', I2, r, q⟩ := q
    rcases q with q | ⟨d, od, u, e, hn, q⟩
    · exact ⟨x, σ', H', I2, r, q⟩
    · exact ⟨x, σ', _, I2.unlock e hn, r, q⟩
end
end Rf

namespace PySem
open AutoSeq1 (wpAny_loadPart')
theorem rf_enum_newT (l : Addr) (items : Array Value) :
    Meets (Builtin.«enumerate.__new__» ⟨[.type "enumerate", .ref l], []⟩) (fun _ R s => s.heap.IsTuple l items ∧
      R (.ok (.ret (.ref (s.heap.push { cls := .type "tuple_iterator", data := .fields #[.ref l, .int 0 0] }).objs.size)))
        { s with heap := (s.heap.push { cls := .type "tuple_iterator", data := .fields #[.ref l, .int 0 0] }).push { cls := .type "enumerate", data := .fields #[.none, .bool false, .ref s.heap.objs.size, rawInt 0, .none, .none] } }) :=
  .of_wp fun prog w A R s h => by
    obtain ⟨hp, g, d, tk, os⟩ := s; obtain ⟨hL, h⟩ := h
    have hsub := sub_enumerate
    have hL : Heap.IsTuple (Shared.heap ⟨hp, g, d, tk, os⟩) l items := hL
    wp_walk
    refine wpAny_stack_any fun st => wpAny_pure ?_
    split
    · rename_i c _ _ _ _ _
      cases (c == Value.type "enumerate")
      · wp_walk using wpAny_pyIter_tuple hL
        exact ⟨_, rfl, h⟩
      · wp_walk using wpAny_pyIter_tuple hL
        exact ⟨_, rfl, h⟩
    · wp_walk using wpAny_pyIter_tuple hL
      exact ⟨_, rfl, h⟩
section
variable {prog : Program} {w : World} {A : Around} {E : Value → Shared → Prop} {s : Shared}
theorem rf_call_enumT {l : Addr} {items : Array Value} {Q : Value → Shared → Prop} (hL : s.heap.IsTuple l items)
    (h : ∀ h', IsEnum h' (s.heap.objs.size + 1) s.heap.objs.size 0 .none → h'.IsTupleIter s.heap.objs.size l 0 → h'.objs.size = s.heap.objs.size + 2 →
      (∀ b o, s.heap.get? b = some o → h'.get? b = some o) → Q (.ref (s.heap.objs.size + 1)) { s with heap := h' }) :
    wpAny (model prog w) A (call (.type "enumerate") [.ref l]) Q E s := by
  refine callType_new F.called_enumerate (by decide) (F.typeCall_enumerate_1 _) (F.newCall_enumerate_1 _) (fun obj => F.args_object_init_2 obj _) F.entry_enumerate_new
    (rf_enum_newT l items) ⟨hL, ?_⟩
  have hz : (s.heap.push { cls := .type "tuple_iterator", data := .fields #[.ref l, .int 0 0] }).objs.size = s.heap.objs.size + 1 := Heap.size_push ..
  show _ ∧ _
  rw [hz]
  have he : IsEnum ((s.heap.push { cls := .type "tuple_iterator", data := .fields #[.ref l, .int 0 0] }).push
      { cls := .type "enumerate", data := .fields #[.none, .bool false, .ref s.heap.objs.size, rawInt 0, .none, .none] }) (s.heap.objs.size + 1) s.heap.objs.size 0 .none := by
    have := Heap.get?_push_size (s.heap.push { cls := .type "tuple_iterator", data := .fields #[.ref l, .int 0 0] })
      (o := { cls := .type "enumerate", data := .fields #[.none, .bool false, .ref s.heap.objs.size, rawInt 0, .none, .none] }) rfl
    rw [hz] at this; exact this
  refine ⟨⟨_, he, rfl⟩, h _ he ⟨_, Heap.get?_push_of_some _ (Heap.get?_push_size _ rfl), rfl, rfl⟩ (by rw [Heap.size_push, hz]) fun b o x => Heap.get?_push_of_some _ (Heap.get?_push_of_some _ x)⟩
end
end PySem
namespace Rf
open PySem L2 PyProof.Rows
def IteT (K : PySem.W.Frag) (a : Addr) : It :=
  ⟨fun i H => ∃ (xs : List V) (x : V), SqT K H a xs ∧ xs[i]? = some x, fun i H v H' => ∃ T x, v = .ref T ∧ H T = none ∧ H' = upd H T (.tup [.int (i : Nat), x]) ∧ ∀ xs, SqT K H a xs → xs[i]? = some x, fun i H => ∃ xs : List V, SqT K H a xs ∧ xs.length ≤ i⟩
theorem turn_enumT {P : Program} {w : World} {K : PySem.W.Frag} {elts : List Expr} {kk : Nat} {tpos : Pos} (a e it : Addr) :
    Turn P w K (.Tuple elts kk tpos) (IteT K a) [e, it] e (fun i h => (∃ old, IsEnum h e it ((i : Nat) : Int) old) ∧ h.IsTupleIter it a i ∧ e ≠ it) where
  mem := by simp
  obj := fun i h st b hb => by
    obtain ⟨⟨old, he⟩, ⟨o, ho, hc, hd⟩, _⟩ := st
    have e' : b = e ∨ b = it := by simpa using hb
    rcases e' with z | z
    · rw [z]; exact ⟨_, he, fun v q => nomatch q⟩
    · rw [z]; exact ⟨o, ho, fun v q => by rw [hd] at q; cases q⟩
  keep := fun i h h' st k => let ⟨⟨old, he⟩, hi, hne⟩ := st; ⟨⟨old, k e (by simp) _ he⟩, hi.at fun o q => k it (by simp) o q, hne⟩
  item := by
    intro X hP hw hK hc i pins s σ H E I hf st hg
    subst hP hw hK
    obtain ⟨⟨old, he⟩, hit, hne⟩ := st
    obtain ⟨xs, x, hq, hx⟩ := hg
    obtain ⟨its, rv, p, hz⟩ := I.tuple hq
    obtain ⟨u, hu, ru⟩ := rv.get hx
    have hel : e < s.heap.objs.size := Heap.lt_size he
    have hil : it < s.heap.objs.size := by obtain ⟨_, q, _⟩ := hit; exact Heap.lt_size q
    have pT : s.heap.IsTuple a its.toArray := p
    have ha : a ≠ it := fun z => by
      obtain ⟨o1, q1, c1, _⟩ := pT
      obtain ⟨o2, q2, c2, _⟩ := hit
      rw [z, q2] at q1; cases q1
      rw [c2] at c1; exact absurd c1 (by decide)
    have hea : e ≠ a := fun z => by
      obtain ⟨o1, q1, c1, _⟩ := pT
      have he2 : s.heap.get? e = some _ := he
      rw [← z, he2] at q1; cases q1; exact absurd c1 (by show ¬ (Value.type "enumerate" = Value.type "tuple"); decide)
    have hlt : i < its.toArray.size := by
      have := (List.getElem?_eq_some_iff.mp hu).1
      simpa using this
    refine wpAny_pyNext_enum_itemD (Draws.tuple (A := X.A.in1) (I.ok.hd hc) it a ha its.toArray) he ⟨hit, pT⟩ hlt hne (by simp [hne, hea]) fun y h' tk hP ho hit' hT hsz hk => ?_
    have hy : y = u := by
      have h1 : its.toArray[i]? = some u := by simpa using hu
      have h2 : its.toArray[i]? = some y := hP
      rw [h1] at h2; exact (Option.some.inj h2).symm
    subst hy
    refine ⟨_, rfl, wpAny_letOwnedTupleGo_enum (s := { s with heap := h', toks := tk + 1 }) ho fun h'' he' sb => ?_⟩
    have hT2 : h''.get? s.heap.objs.size = some { cls := .type "tuple", data := .seq #[.int i tk, y] } := (sb.2 _ (Nat.ne_of_gt hel)).trans hT
    have new : ObjOk X.prog X.w (upd H s.heap.objs.size (.tup [.int (i : Nat), x])) h'' s.heap.objs.size (.tup [.int (i : Nat), x]) :=
      ⟨by show 2 ≤ sizeLine; decide, [.int i tk, y], .cons ⟨_, rfl⟩ (.cons ru .nil), ⟨_, hT2, rfl, _, rfl⟩⟩
    have I1 : Inv X pins σ (upd H s.heap.objs.size (.tup [.int (i : Nat), x])) { s with heap := h'', toks := tk + 1 } :=
      I.turnedNew (ch := [e, it]) (fun b ob hb q => (sb.2 b (fun z => hb (by simp [z]))).trans (hk b ob (fun z => hb (by simp [z])) (fun z => hb (by simp [z])) q)) hf (Nat.le_refl _) new
    refine ⟨.ref s.heap.objs.size, _, I1, rfl, ⟨_, x, rfl, I.hok.fresh (Nat.le_refl _), rfl, fun ys hy => by rw [I.tuple_inj hy hq]; exact hx⟩, ⟨⟨y, ?_⟩, hit'.1.at fun o q => (sb.2 it (Ne.symm hne)).trans q, hne⟩, fun b hb => ?_⟩
    · have e1 : ((i + 1 : Nat) : Int) = (i : Int) + 1 := by omega
      rw [e1]; exact he'
    · have hb' : b < s.heap.objs.size := by
        have e' : b = e ∨ b = it := by simpa using hb
        rcases e' with z | z
        · rw [z]; exact hel
        · rw [z]; exact hil
      rw [upd_ne (Nat.ne_of_lt hb')]
      exact (hf b hb).1
  done := by
    intro X hP hw hK hc i pins s σ H E I hf st hg
    subst hP hw hK
    obtain ⟨⟨old, he⟩, hit, hne⟩ := st
    obtain ⟨xs, hq, hx⟩ := hg
    obtain ⟨its, rv, p, hz⟩ := I.tuple hq
    have pT : s.heap.IsTuple a its.toArray := p
    have ha : a ≠ it := fun z => by
      obtain ⟨o1, q1, c1, _⟩ := pT
      obtain ⟨o2, q2, c2, _⟩ := hit
      rw [z, q2] at q1; cases q1
      rw [c2] at c1; exact absurd c1 (by decide)
    obtain ⟨f0, f1, f2, f3, f4, f5⟩ := hf it (by simp)
    have hl := rv.length
    have hdone : ∀ (s' : Shared) (Q : Value → Shared → Prop) (E : Value → Shared → Prop), (i = i ∧ s'.heap.IsTupleIter it a i ∧ s'.heap.IsTuple a its.toArray) →
        (∀ h' e, Heap.ExtBut it s'.heap h' → (∃ o, h'.get? e = some o ∧ o.cls = .type "StopIteration") → E (.ref e) { s' with heap := h' }) → wpAny (model X.prog X.w) X.A.in1 (Builtin.SmallTypes.nextOf (.ref it)) Q E s' := fun s' Q E z hE =>
      wpAny_nextOf_tuple_end (I.ok.hd hc) z.2.1 z.2.2 (by simp; omega) hE
    have D2 : Draws X.prog X.w X.A.in1 it [it, a] i (fun _ _ => True) (fun j h => j = i ∧ h.IsTupleIter it a i ∧ h.IsTuple a its.toArray) :=
      ⟨fun _ _ st => let ⟨o, ho, _⟩ := st.2.1; ⟨o, ho⟩, fun _ _ _ st hk => ⟨st.1, st.2.1.at fun o e => hk it (by simp) o e, st.2.2.at fun o e => hk a (by simp) o e⟩,
       fun j s Q E hj st _ => absurd st.1 (Nat.ne_of_lt hj), fun s Q E st hE => hdone s Q E st hE⟩
    exact wpAny_pyNext_enum_endD D2 he ⟨rfl, hit, pT⟩ fun h' eb => ⟨rfl, I.turned (t' := s.toks) (fun b o hb q => eb b o hb q) f0 f1 f3 f4 f5⟩
  self := fun A i s Q E st h => let ⟨⟨_, he⟩, _⟩ := st; wpAny_pyIter_enum he h

section
variable {X : Cx} {g : G} {pins : List (Addr × Obj)} {σ : L2.St} {H : Hp} {s : Shared} {R : It → Hp → Prop} {elts : List Expr} {kk : Nat} {tpos : Pos}
theorem it_enumL {a : Addr} {xs : List V} (I : L2.Inv X pins σ H s) (hq : SqL X.K H a xs) (q : R (Ite X.K a) H) : wpAny (model X.prog X.w) X.A (call (.type "enumerate") [.ref a]) (fun v s1 => wpAny (model X.prog X.w) X.A (pyIter v) (PIE X pins σ (.Tuple elts kk tpos) R) X.xe s1) X.xe s := by
  obtain ⟨its, rv, p', hz⟩ := I.list hq
  refine call_enumerate_list p'.isList fun h' he hit hsz hk => wpAny_pyIter_enum he ?_
  have I2 : Inv X pins σ H { s with heap := h' } := I.kept (t' := s.toks) hk
  refine ⟨s.heap.objs.size + 1, [s.heap.objs.size + 1, s.heap.objs.size], _, _, H, rfl, I2, turn_enum a (s.heap.objs.size + 1) s.heap.objs.size, ⟨⟨.none, he⟩, hit, Nat.succ_ne_self _⟩, fun b hb => ?_, q⟩
  have e' : b = s.heap.objs.size + 1 ∨ b = s.heap.objs.size := by simpa using hb
  have hle : s.heap.objs.size ≤ b := by
    rcases e' with z | z
    · rw [z]; exact Nat.le_add_right _ _
    · rw [z]; exact Nat.le_refl _
  exact I.fpOk hle (I.hok.fresh hle)
theorem it_enumT {a : Addr} {xs : List V} (I : L2.Inv X pins σ H s) (hq : SqT X.K H a xs) (q : R (IteT X.K a) H) : wpAny (model X.prog X.w) X.A (call (.type "enumerate") [.ref a]) (fun v s1 => wpAny (model X.prog X.w) X.A (pyIter v) (PIE X pins σ (.Tuple elts kk tpos) R) X.xe s1) X.xe s := by
  obtain ⟨its, rv, p', hz⟩ := I.tuple hq
  refine rf_call_enumT (show s.heap.IsTuple a its.toArray from p') fun h' he hit hsz hk => wpAny_pyIter_enum he ?_
  have I2 : Inv X pins σ H { s with heap := h' } := I.kept (t' := s.toks) hk
  refine ⟨s.heap.objs.size + 1, [s.heap.objs.size + 1, s.heap.objs.size], _, _, H, rfl, I2, turn_enumT a (s.heap.objs.size + 1) s.heap.objs.size, ⟨⟨.none, he⟩, hit, Nat.succ_ne_self _⟩, fun b hb => ?_, q⟩
  have e' : b = s.heap.objs.size + 1 ∨ b = s.heap.objs.size := by simpa using hb
  have hle : s.heap.objs.size ≤ b := by
    rcases e' with z | z
    · rw [z]; exact Nat.le_add_right _ _
    · rw [z]; exact Nat.le_refl _
  exact I.fpOk hle (I.hok.fresh hle)
end
section
variable {K : PySem.W.Frag} {g : G} {S H S' H' S0 H0 : Hp} {ft ft' : Ft} {env env' : Env} {σ : L2.St}
theorem enumD_len : ∀ (n : Nat) (ds : List D), (enumD n ds).length = ds.length
  | _, [] => rfl
  | n, d :: ds => by simp [enumD, enumD_len]
theorem enumD_get : ∀ {n : Nat} {ds : List D} {i : Nat} {x : D}, (enumD n ds)[i]? = some x → ∃ d, ds[i]? = some d ∧ x = .tup [.int ((n + i : Nat) : Int), d]
  | n, [], i, x, h => by simp [enumD] at h
  | n, d :: ds, 0, x, h => by
    simp [enumD] at h
    exact ⟨d, rfl, by rw [← h]; simp⟩
  | n, d :: ds, i + 1, x, h => by
    obtain ⟨e, h1, h2⟩ := enumD_get (n := n + 1) (ds := ds) (i := i) (x := x) (by simpa [enumD] using h)
    exact ⟨e, by simpa using h1, by rw [h2, show n + 1 + i = n + (i + 1) by omega]⟩
/-- a yield of a new pair -/
theorem go_pair {x y : V} {dx dy : D} {T : Addr} (sub : ∀ a o, S a = some o → H a = some o) (rx : RD K g S dx x) (ry : RD K g S dy y) (hT : H T = none) :
    ∃ S', RD K g S' (.tup [dx, dy]) (.ref T) ∧ Sm S S' ∧ Same H (upd H T (.tup [x, y])) ∧ (∀ a o, S' a = some o → upd H T (.tup [x, y]) a = some o) ∧ (∀ a o, S' a = some o → S a = some o ∨ H a = none) := by
  have sT := subS sub hT
  have sm : Sm S (upd S T (.tup [x, y])) := Sm.of (Same.upd' sT)
  refine ⟨upd S T (.tup [x, y]), ⟨T, _, rfl, upd_same, .cons (RD.mono sm _ _ rx) (.one (RD.mono sm _ _ ry))⟩, sm, Same.upd' hT, fun a o e => ?_, fun a o e => ?_⟩
  · by_cases z : a = T
    · subst z; rw [upd_same] at e ⊢; exact e
    · rw [upd_ne z] at e ⊢; exact sub a o e
  · by_cases z : a = T
    · subst z; exact .inr hT
    · rw [upd_ne z] at e; exact .inl e
theorem wk_enumL {a : Addr} {vs : List V} {ds : List D} {A : Addr → Prop} {F : Hp → Hp → Prop} (hm : ∀ {S H S' H' : Hp} {O O' : Addr → Prop}, F S H → Step S H O S' H' O' → (∀ a, A a → ¬ O a) → F S' H')
    (hs : ∀ {S H : Hp}, (∀ a o, S a = some o → H a = some o) → F S H → SqL K H a vs) : Wk K g (Ite K a) (enumD 0 ds) A (fun S H => F S H ∧ RDs K g S ds vs) := by
  refine ⟨fun h st hA => ⟨hm h.1 st hA, RDs.mono st.same _ _ h.2⟩, fun {S H} sub h i hi => ⟨vs, hs sub h.1, by rw [← RDs.length h.2, ← enumD_len 0 ds]; exact hi⟩, fun {S H} sub h i d hd => ?_⟩
  obtain ⟨d0, hd0, rfl⟩ := enumD_get hd
  obtain ⟨v, e, r⟩ := RDs.get h.2 hd0
  refine ⟨⟨vs, v, hs sub h.1, e⟩, fun x H' y => ?_⟩
  obtain ⟨T, z, rfl, hT, rfl, y⟩ := y
  have := y vs (hs sub h.1)
  rw [e] at this
  cases this
  rw [Nat.zero_add]
  exact go_pair sub (show RD K g _ (.int _) (.int _) from rfl) r hT
theorem wk_enumT {a : Addr} {vs : List V} {ds : List D} {A : Addr → Prop} {F : Hp → Hp → Prop} (hm : ∀ {S H S' H' : Hp} {O O' : Addr → Prop}, F S H → Step S H O S' H' O' → (∀ a, A a → ¬ O a) → F S' H')
    (hs : ∀ {S H : Hp}, (∀ a o, S a = some o → H a = some o) → F S H → SqT K H a vs) : Wk K g (IteT K a) (enumD 0 ds) A (fun S H => F S H ∧ RDs K g S ds vs) := by
  refine ⟨fun h st hA => ⟨hm h.1 st hA, RDs.mono st.same _ _ h.2⟩, fun {S H} sub h i hi => ⟨vs, hs sub h.1, by rw [← RDs.length h.2, ← enumD_len 0 ds]; exact hi⟩, fun {S H} sub h i d hd => ?_⟩
  obtain ⟨d0, hd0, rfl⟩ := enumD_get hd
  obtain ⟨v, e, r⟩ := RDs.get h.2 hd0
  refine ⟨⟨vs, v, hs sub h.1, e⟩, fun x H' y => ?_⟩
  obtain ⟨T, z, rfl, hT, rfl, y⟩ := y
  have := y vs (hs sub h.1)
  rw [e] at this
  cases this
  rw [Nat.zero_add]
  exact go_pair sub (show RD K g _ (.int _) (.int _) from rfl) r hT
end
section
variable {X : Cx} {g : G} {Wx : WX} {e : Expr} {E : Ev} {elts : List Expr} {kk : Nat} {tpos p pos : Pos}
/-- enumerate's walk over a value -/
theorem it_en {K : PySem.W.Frag} {pins : List (Addr × Obj)} {σ : L2.St} {H : Hp} {s : Shared} {R : It → Hp → Prop} {env : Env} {S : Hp} {ft : Ft} {d : D} {l : List D} {v : V} {u : Value} (I : L2.Inv X pins σ H s) (ru : RelV v u) (Rl : Rel X.K g env S σ H ft) (r : RD X.K g S d v) (hi : d.seq? = some l)
    (q : ∀ A J H2, (∀ a, A a → ¬ ft.own a) → (enumD 0 l).length ≤ lim → Walk X g J (enumD 0 l) S H H2 A → R J H2) :
    wpAny (model X.prog X.w) X.A (call (.type "enumerate") [u]) (fun v s1 => wpAny (model X.prog X.w) X.A (pyIter v) (PIE X pins σ (.Tuple elts kk tpos) R) X.xe s1) X.xe s := by
  cases d with
  | lst ds =>
    cases hi
    obtain ⟨a, vs, rfl, e, rs⟩ := r
    cases ru
    have hq : SqL X.K H a vs := SqL.of (Rl.sub _ _ e)
    obtain ⟨_, _, _, hz⟩ := I.list hq
    exact it_enumL I hq (q (fun _ => False) _ _ (fun _ z => z.elim) (by rw [enumD_len, RDs.length rs, ← slim]; exact hz)
      (Walk.plain (wk_enumL (F := fun S _ => S a = some (.lst vs)) (fun h st _ => st.same.ls _ _ h) fun sub h => SqL.of (sub _ _ h)) ⟨e, rs⟩ fun _ _ _ _ _ _ a ha => ha.elim))
  | tup ds =>
    cases hi
    obtain ⟨a, vs, rfl, e, rs⟩ := r
    cases ru
    have hq : SqT X.K H a vs := SqT.of (Rl.sub _ _ e)
    obtain ⟨_, _, _, hz⟩ := I.tuple hq
    exact it_enumT I hq (q (fun _ => False) _ _ (fun _ z => z.elim) (by rw [enumD_len, RDs.length rs, ← slim]; exact hz)
      (Walk.plain (wk_enumT (F := fun S _ => SqT X.K S a vs) (fun h st _ => st.same.sqT h) fun sub h => (Sm.of sub).sqT h) ⟨SqT.of e, rs⟩ fun _ _ _ _ _ _ a ha => ha.elim))
  | _ => cases hi
theorem pi_en (hg : Gl X "enumerate") (hm : X.mg "enumerate" = none) (h : Snd X g Wx e E) : PI X (.Tuple elts kk tpos) (.Call (.Name "enumerate" p) [e] [] pos) (tIt X g Wx (runI .enum [E])) := by
  refine ⟨fun pins s σ H R I ⟨env, S, ft, Rl, m⟩ => ?_⟩
  have hs : starEach [e] X.env = [(false, eval e X.env)] := by rw [h.ns]; rfl
  have st0 : Step S H ft.own S H (fun a => ft.own a ∨ a ∈ ([] : List Addr)) := Step.refl.post fun a ha => ha.elim id fun z => by cases z
  -- the call, from what the argument tells
  have go : ∀ {t : TE}, PE X e t → t σ H (fun x H1 => ∃ v, [x] = [v] ∧ ∀ s1, L2.Inv X pins σ H1 s1 → ∀ u, RelV v u → wpAny (model X.prog X.w) X.A (call (.type "enumerate") [u]) (fun v s1 => wpAny (model X.prog X.w) X.A (pyIter v) (PIE X pins σ (.Tuple elts kk tpos) R) X.xe s1) X.xe s1) →
      wpAny (model X.prog X.w) X.A (eval (.Call (.Name "enumerate" p) [e] [] pos) X.env) (fun v s1 => wpAny (model X.prog X.w) X.A (pyIter v) (PIE X pins σ (.Tuple elts kk tpos) R) X.xe s1) X.xe s := fun {t} he q => by
    refine Call_ (ld_blt I hg hm boot_enumerate (PyProof.Rows.callWith_type1 (thn ((pa_cons he pa_nil (h.ns _ _)).run pos pins s σ H (fun vs H1 => ∃ v, vs = [v] ∧ ∀ s1, L2.Inv X pins σ H1 s1 → ∀ u, RelV v u → wpAny (model X.prog X.w) X.A (call (.type "enumerate") [u]) (fun v s1 => wpAny (model X.prog X.w) X.A (pyIter v) (PIE X pins σ (.Tuple elts kk tpos) R) X.xe s1) X.xe s1) I q) fun us s1 ⟨vs, H1, I1, r1, v, ev, q1⟩ => ?_) hs rfl))
    subst ev
    obtain ⟨u, rfl, ru⟩ := vals1 r1
    exact q1 s1 I1 u ru
  unfold runI at m
  have other : (match (E.e env).bind fun d env1 => match d.seq? with | some l => Rf.R.ok (enumD 0 l, (none : Option (Nat × W))) env1 | none => .bad with
      | .ok s env1 => ∀ S0 H0 ft1 l A J H1, Rel X.K g env1 S0 σ H0 ft1 → Step S H ft.own S0 H0 (fun a => ft1.own a ∨ a ∈ l) → (∀ a, A a → ¬ ft1.own a) → (∀ a ∈ l, A a) → LentR X.K g s.2 l env1 S0 σ H0 → s.1.length ≤ lim → Walk X g J s.1 S0 H0 H1 A → R J H1
      | .exc x env1 => ∀ cls dx S' H' ft', Rel X.K g env1 S' σ H' ft' → Step S H ft.own S' H' ft'.own → RX X.K g S' x cls dx → Wx cls dx σ H'
      | .bad => False) → wpAny (model X.prog X.w) X.A (eval (.Call (.Name "enumerate" p) [e] [] pos) X.env) (fun v s1 => wpAny (model X.prog X.w) X.A (pyIter v) (PIE X pins σ (.Tuple elts kk tpos) R) X.xe s1) X.xe s := fun m => by
    refine go h.pe ⟨env, S, ft, Rl, ?_⟩
    cases e1 : E.e env with
    | ok d env1 =>
      simp only [e1, Rf.R.bind_ok] at m
      intro v S1 H1 ft1 R1 st r
      cases hi : d.seq? with
      | none => rw [hi] at m; exact m.elim
      | some l =>
        rw [hi] at m
        exact ⟨v, rfl, fun s1 I1 u ru => it_en (K := X.K) I1 ru R1 r hi fun A J H2 hA hl w => m S1 H1 ft1 [] A J H2 R1 (st.post fun a ha => ha.elim id fun z => by cases z) hA (fun a ha => by cases ha) rfl hl w⟩
    | exc x env1 => simp only [e1, Rf.R.bind_exc] at m; exact m
    | bad => simp only [e1, Rf.R.bind_bad] at m
  cases q : E.pk with
  | no => simp only [q] at m; exact other m
  | fld i f => simp only [q] at m; exact other m
  | var i =>
    simp only [q] at m
    cases e0 : env[i]? with
    | none => simp only [e0] at m
    | some o =>
      cases o with
      | none => simp only [e0] at m
      | some w =>
        obtain ⟨v, ev, r⟩ := Rl.slot i w e0
        have hil : i < env.length := (List.getElem?_eq_some_iff.mp e0).1
        have offn : ∀ a, a ∈ ft i → ¬ (ft.off i).own a := fun a ha ⟨j, hj⟩ => by
          unfold Ft.off at hj
          split at hj
          · cases hj
          · rename_i q
            exact Rl.dj i j a (Ne.symm q) ha hj
        have stL : Step S H ft.own S H (fun a => (ft.off i).own a ∨ a ∈ ft i) := Step.refl.post fun a ha => ha.elim off_own fun z => ⟨i, z⟩
        cases w with
        | sh d =>
          simp only [e0] at m
          cases hi : d.seq? with
          | none => rw [hi] at m; exact m.elim
          | some l =>
            rw [hi] at m
            exact go (h.pv i q).1 ⟨v, ev, v, rfl, fun s1 I1 u ru => it_en (K := X.K) I1 ru Rl r.2 hi fun A J H2 hA hl w => m S H ft [] A J H2 Rl st0 hA (fun a ha => by cases ha) rfl hl w⟩
        | oL ds =>
          simp only [e0] at m
          refine go (h.pv i q).1 ⟨v, ev, v, rfl, fun s1 I1 u ru => ?_⟩
          obtain ⟨a, vs, rfl, ef, e1, rs⟩ := id r
          cases ru
          have hq : SqL X.K H a vs := SqL.of e1
          obtain ⟨_, _, _, hz⟩ := I1.list hq
          have lent : LentR X.K g (some (i, .oL ds)) (ft i) (env.set i none) S σ H := ⟨by rw [List.length_set]; exact hil, .ref a, ev, r, Rl.nd i, fun a ha => Rl.out i a ha⟩
          refine it_enumL I1 hq (m S H _ (ft i) (fun b => b = a) _ _ (Rl.lend i) stL (fun b hb => ?_) (fun b hb => ?_) lent (by rw [enumD_len, RDs.length rs, ← slim]; exact hz)
            (Walk.plain (wk_enumL (F := fun _ H => H a = some (.lst vs)) (fun h st hA => st.keep _ _ h (hA a rfl)) fun sub h => SqL.of h) ⟨e1, rs⟩ fun _ _ _ _ st hA => keep_at (fun b hb => by subst hb; exact ⟨_, e1⟩) st hA))
          · subst hb; exact offn b (by rw [ef]; exact List.mem_singleton.mpr rfl)
          · rw [ef] at hb; exact List.mem_singleton.mp hb
        | _ => simp only [e0] at m
end
end Rf

namespace Rf
open PySem L2 PyProof.Rows

/-- nothing raises in a block -/
def WF : WX := fun _ _ _ _ => False
theorem takesF {X : Cx} : Takes X WF := fun u s' ⟨a, B, sI, pins, σ, H, cls, d, e, I, nb, up, sky, na, os, ag, w⟩ => w.elim
/-- the contexts of a block's code -/
abbrev Blk (X : Cx) (scope : Scope) (P : Cx → Prop) : Prop := ∀ (s : Shared) (H : Hp) (C : Addr) (cl : List (Str × Addr)) (fp : List Addr), P (X.blk s H scope (compEnvC scope cl C X.env) fp)

section
variable {X : Cx} {g : G} {Wx : WX} {K : PySem.W.Frag} {S H S' H' S1 H1 S0 H0 : Hp} {ft ft' ft1 : Ft} {env env' env1 : Env} {σ : L2.St} {es : List Expr} {Es : List Ev}
/-- a cell that no slot holds is changed -/
theorem Rel.updOff (R : Rel K g env S σ H ft) {D : Addr} {o : HO} (hS : S D = none) (hO : ¬ ft.own D) : Rel K g env S σ (upd H D o) ft :=
  ⟨fun a u e => by rw [upd_ne (fun z => by rw [z, hS] at e; cases e)]; exact R.sub a u e, R.len, fun i w e => by
    obtain ⟨v, e1, r⟩ := R.slot i w e
    exact ⟨v, e1, RW.move (Sm.refl _) _ _ _ (fun a ha => upd_ne fun z => hO ⟨i, by rw [← z]; exact ha⟩) r⟩, R.off, R.nd, R.dj, R.out⟩
theorem Step.updOwn {O O' : Addr → Prop} (st : Step S H O S' H' O') {D : Addr} {o : HO} (hD : O' D) : Step S H O S' (upd H' D o) O' := by
  refine ⟨st.same, fun a u e n => ?_, st.own, st.grow, fun a u e => ?_⟩
  · have : a ≠ D := fun z => by
      subst z
      rcases st.own a hD with y | y
      · exact n y
      · rw [e] at y; cases y
    rw [upd_ne this]; exact st.keep a u e n
  · by_cases q : a = D
    · subst q; exact ⟨_, upd_same⟩
    · rw [upd_ne q]; exact st.there a u e
theorem tT_runC (h : Snds X g WF es Es) (hl : es.length ≤ 1) : PTs X es (tT X.K g WF (runC Es)) := by
  cases h with
  | nil => exact ⟨fun pins s σ H Q I ⟨env, S, ft, R, m⟩ => pts_nil.run pins s σ H Q I (by simp only [runC] at m; exact m S H ft R .refl)⟩
  | @cons e E es Es h1 h2 =>
    cases h2 with
    | cons _ _ => simp at hl
    | nil =>
      refine ⟨fun pins s σ H Q I ⟨env, S, ft, R, m⟩ => (pts_one h1.pt).run pins s σ H Q I ⟨env, S, ft, R, ?_⟩⟩
      unfold runC at m
      cases e1 : E.t env with
      | ok k env1 =>
        simp only [e1, Rf.R.bind_ok] at m
        cases k with
        | true => simpa [runC] using m
        | false => simpa using m
      | exc x env1 => simp only [e1, Rf.R.bind_exc] at m; exact m
      | bad => simp only [e1, Rf.R.bind_bad] at m
/-- one turn of a block, its target set and its tests made -/
theorem turn_ok {J : It} {ds : List D} {A : Addr → Prop} {F : Hp → Hp → Prop} {own : List Nat} {tg : CT} {Fs : List Ev} {i : Nat} {d : D} {x : V} {env2 : Env} {k : Bool} {O1 : Addr → Prop} {D : Addr} {acc : HO} {Q : Bool → L2.St → Hp → Prop}
    (wk : Wk K g J ds A F) (hsub : ∀ j ∈ tg.names, j ∈ own) (R : Rel K g env S (L2.wipe σ own) H ft) (hF : F S H) (hD : H D = some acc) (hDS : S D = none) (hDo : ¬ ft.own D) (st : Step S1 H1 O1 S H (fun a => ft.own a ∨ a = D))
    (hd : ds[i]? = some d) (hy : J.yld i H x H') (ha : tg.asg d env = some env1) (hc : runC Fs env1 = .ok k env2)
    (q : ∀ σ2 S3 H3 ft3, Rel K g env2 S3 σ2 H3 ft3 → σ2.length = σ.length → L2.wipe σ2 own = L2.wipe σ own → H3 D = some acc → S3 D = none → ¬ ft3.own D → Sm S S3 → Step S1 H1 O1 S3 H3 (fun a => ft3.own a ∨ a = D) → Q k σ2 H3) :
    gOf K tg x (L2.wipe σ own) H' fun σ2 H2 => L2.wipe σ2 own = L2.wipe σ own ∧ tT K g WF (runC Fs) σ2 H2 fun b H3 => Q b σ2 H3 := by
  obtain ⟨_, hgo⟩ := wk.go R.sub hF i d hd
  obtain ⟨S', r, sm, hh, sub', gr⟩ := hgo x H' hy
  have R1 := R.grow sm hh sub' gr
  have stA : Step S H (fun a => ft.own a ∨ a = D) S' H' (fun a => ft.own a ∨ a = D) := Step.grow' sm hh gr
  refine asg_ok tg d env env1 ha x _ ft _ R1 r fun σ2 ft2 R2 ho2 k2 => ?_
  have hlen : σ2.length = σ.length := by
    have h1 := R2.len
    have h2 := R1.len
    have h3 := tg_len ha
    rw [wipe_len] at h2
    omega
  have hw : L2.wipe σ2 own = L2.wipe σ own := Off.wipe k2 hlen hsub
  refine ⟨hw, env1, S', ft2, R2, ?_⟩
  rw [hc]
  intro S3 H3 ft3 R3 st3
  have hDH' : H' D = some acc := hh D acc hD
  have hDS' : S' D = none := by
    cases q : S' D with
    | none => rfl
    | some o =>
      rcases gr D o q with z | z
      · rw [hDS] at z; cases z
      · rw [hD] at z; cases z
  have hDo2 : ¬ ft2.own D := fun z => hDo (ho2 D z)
  have hDo3 : ¬ ft3.own D := fun z => by
    rcases st3.own D z with y | y
    · exact hDo2 y
    · rw [hDH'] at y; cases y
  have hDS3 : S3 D = none := by
    cases q : S3 D with
    | none => rfl
    | some o =>
      rcases st3.grow D o q with z | z | z
      · rw [hDS'] at z; cases z
      · rw [hDH'] at z; cases z
      · exact absurd z hDo2
  refine q σ2 S3 H3 ft3 R3 hlen hw (by rw [st3.keep D acc hDH' hDo2]) hDS3 hDo3 (sm.trans st3.same) ?_
  exact st.trans (stA.trans ((st3.frame fun a => a = D).pre fun a ha => ha.imp (ho2 a) id))
theorem lcLoop_cons {own : List Nat} {tg : CT} {Fs : List Ev} {E : Ev} {d : D} {ds : List D} {env env2 : Env} {r : List D} (h : lcLoop own tg Fs E (d :: ds) env = .ok r env2) :
    ∃ env1 k env3, tg.asg d env = some env1 ∧ runC Fs env1 = .ok k env3 ∧ ((k = true ∧ ∃ x env4 r', E.e env3 = .ok x env4 ∧ lcLoop own tg Fs E ds (wipeE env4 own) = .ok r' env2 ∧ r = x :: r') ∨ (k = false ∧ lcLoop own tg Fs E ds (wipeE env3 own) = .ok r env2)) := by
  unfold lcLoop at h
  cases e1 : tg.asg d env with
  | none => rw [e1] at h; cases h
  | some env1 =>
    rw [e1] at h
    simp only at h
    cases e2 : runC Fs env1 with
    | bad => rw [e2] at h; cases h
    | exc x e => rw [e2] at h; cases h
    | ok k env3 =>
      simp only [e2, Rf.R.bind_ok] at h
      refine ⟨env1, k, env3, rfl, e2, ?_⟩
      cases k with
      | false => exact .inr ⟨rfl, by simpa using h⟩
      | true =>
        simp only [if_true] at h
        cases e3 : E.e env3 with
        | bad => rw [e3] at h; cases h
        | exc x e => rw [e3] at h; cases h
        | ok x env4 =>
          simp only [e3, Rf.R.bind_ok] at h
          cases e4 : lcLoop own tg Fs E ds (wipeE env4 own) with
          | bad => rw [e4] at h; cases h
          | exc x e => rw [e4] at h; cases h
          | ok r' env5 =>
            simp only [e4, Rf.R.bind_ok] at h
            cases h
            exact .inl ⟨rfl, x, env4, r', rfl, e4, rfl⟩
/-- behind a walk: the block's names as they were, the lent content back; the new thing at D -/
theorem walk_end {A : Addr → Prop} {own : List Nat} {tg : CT} {o : Option (Nat × W)} {l : List Addr} {ftw ftc : Ft} {S3 H3 : Hp} {env2 : Env} {D : Addr}
    (R1 : Rel K g env1 S0 σ H0 ft1) (hb : blkE own tg o env1 = true) (hA : ∀ a, A a → ¬ ft1.own a) (hlA : ∀ a ∈ l, A a) (lr : LentR K g o l env1 S0 σ H0) (how : ∀ a, ftw.own a → ft1.own a)
    (R3 : Rel K g env2 S3 (L2.wipe σ own) H3 ftc) (st : Step S0 H0 ftw.own S3 H3 (fun a => ftc.own a ∨ a = D)) (hl2 : env2.length = env1.length) (hA3 : ∀ a, A a → H3 a = H0 a) (hD0 : H0 D = none) :
    ∃ ft', Rel K g (unlend (restE env2 env1 own) o) S3 σ H3 ft' ∧ (∀ a, ft'.own a → ftc.own a ∨ a ∈ l) := by
  unfold blkE at hb
  obtain ⟨hb1, hb3⟩ := Bool.and_eq_true_iff.mp hb
  obtain ⟨hb1, hb2⟩ := Bool.and_eq_true_iff.mp hb1
  obtain ⟨ft4, R4, ho4⟩ := R3.rest (fun v hv => (light_ok R1 hb1 v hv).imp (fun ⟨d, u, e1, e2, r⟩ => ⟨d, u, e1, e2, RD.mono st.same _ _ r⟩) id)
  cases o with
  | none => exact ⟨ft4, R4, fun a h => .inl (ho4 a h)⟩
  | some p =>
    obtain ⟨i, w⟩ := p
    obtain ⟨hi, v, ev, r, nd, out⟩ := lr
    have there := RW.there w v l r
    have r3 : RW K g S3 H3 w v l := RW.move st.same w v l (fun a ha => hA3 a (hlA a ha)) r
    have no : ∀ a ∈ l, ¬ ftc.own a := fun a ha hc => by
      obtain ⟨u, e⟩ := there a ha
      rcases st.own a (.inl hc) with z | z
      · exact hA a (hlA a ha) (how a z)
      · rw [e] at z; cases z
    have out3 : ∀ a ∈ l, S3 a = none := fun a ha => by
      obtain ⟨u, e⟩ := there a ha
      cases q : S3 a with
      | none => rfl
      | some u' =>
        rcases st.grow a u' q with z | z | z
        · rw [out a ha] at z; cases z
        · rw [e] at z; cases z
        · exact absurd (how a z) (hA a (hlA a ha))
    have hlen : i < (restE env2 env1 own).length := by
      have h1 := R4.len
      have h2 := R1.len
      omega
    have hσ : σ.set i (some v) = σ := by
      apply List.ext_getElem?
      intro j
      by_cases q : i = j
      · subst q
        have hi' : i < σ.length := (List.getElem?_eq_some_iff.mp ev).1
        rw [List.getElem?_set_self hi', ev]
      · rw [List.getElem?_set_ne q]
    have R5 := R4.store hlen r3 nd (fun j a _ ha hb => no a ha (ho4 a ⟨j, hb⟩)) out3
    rw [hσ] at R5
    refine ⟨_, R5, fun a ⟨j, hj⟩ => ?_⟩
    by_cases q : j = i
    · subst q; rw [Ft.put_self] at hj; exact .inr hj
    · rw [Ft.put_ne q] at hj; exact .inl (ho4 a ⟨j, hj⟩)
end

section
variable {X : Cx} {g : G} {Wx : WX} {elt tgx iter : Expr} {ifs : List Expr} {Fs Is : List Ev} {E : Ev} {t : CT} {k : IK} {scope : Scope} {own : List (Str × Nat)} {pos : Pos}
theorem lc_read {σ : L2.St} {H : Hp} {Q : VK} (h : tW X.K g Wx (fun env => (lcEv (own.map (·.2)) E t k Is Fs env).bind fun l env' => .ok (.oL l) env') σ H Q) :
    tLc (tIt X g Wx (runI k Is)) (gOf X.K t) (tT X.K g WF (runC Fs)) (tE X.K g WF E.e) (own.map (·.2)) σ H fun v H' => Q v H' ∨ ∃ d od u, H' d = some (.frz od u) ∧ (∀ o' u', X.H_0 d ≠ some (.frz o' u')) ∧ Q v (upd H' d u) := by
  obtain ⟨env, S, ft, R, m⟩ := tW_iff.mp h
  unfold lcEv at m
  refine ⟨env, S, ft, R, ?_⟩
  cases e1 : runI k Is env with
  | bad => simp only [e1, Rf.R.bind_bad] at m; exact m.elim
  | exc x env1 => simp only [e1, Rf.R.bind_exc] at m; exact m
  | ok s env1 =>
    simp only [e1, Rf.R.bind_ok] at m
    intro S0 H0 ft1 l A J H1 R1 st0 hA hlA lr hlen ⟨S1, F, wk, hF1, hn1, hs1, hrel, hfin⟩ D hD
    by_cases hb : blkE (own.map (·.2)) t s.2 env1 = true
    case neg => simp only [if_neg hb, Rf.R.bind_bad] at m; exact m.elim
    rw [if_pos hb] at m
    have hsub : ∀ j ∈ t.names, j ∈ own.map (·.2) := fun j hj => by
      unfold blkE at hb
      obtain ⟨hb1, hb3⟩ := Bool.and_eq_true_iff.mp hb
      obtain ⟨hb1, hb2⟩ := Bool.and_eq_true_iff.mp hb1
      have := List.all_eq_true.mp hb2 j hj
      simpa using this
    cases e2 : lcLoop (own.map (·.2)) t Fs E s.1 (wipeE env1 (own.map (·.2))) with
    | bad => simp only [e2, Rf.R.bind_bad] at m; exact m.elim
    | exc x env2 => simp only [e2, Rf.R.bind_bad] at m; exact m.elim
    | ok ds env2 =>
      simp only [e2, Rf.R.bind_ok] at m
      have R1' := hrel env1 σ ft1 R1 hA
      obtain ⟨ftw, Rw, how⟩ := R1'.wipe (own.map (·.2))
      have hAw : ∀ a, A a → ¬ ftw.own a := fun a ha hb => hA a ha (how a hb)
      have hDS1 : S1 D = none := by
        cases q : S1 D with
        | none => rfl
        | some o => rw [R1'.sub D o q] at hD; cases hD
      have hDw : ¬ ftw.own D := fun ⟨j, hj⟩ => by
        obtain ⟨o, e⟩ := Rw.hasAt hj
        rw [hD] at e; cases e
      refine ⟨fun i mm Hc => ∃ envc Sc ftc acc accD r, mm = s.1.length - i ∧ i ≤ s.1.length ∧ Rel X.K g envc Sc (L2.wipe σ (own.map (·.2))) Hc ftc ∧ Hc D = some (.lst acc) ∧ Sc D = none ∧ ¬ ftc.own D ∧ RDs X.K g Sc accD acc ∧ accD.length ≤ i ∧
        Step S1 H1 ftw.own Sc Hc (fun a => ftc.own a ∨ a = D) ∧ lcLoop (own.map (·.2)) t Fs E (s.1.drop i) envc = .ok r env2 ∧ ds = accD ++ r, ⟨s.1.length, wipeE env1 (own.map (·.2)), S1, ftw, [], [], ds, by simp, Nat.zero_le _, Rw.updOff hDS1 hDw, upd_same, hDS1, hDw, RDs.nil, Nat.le_refl _, ?_, by rw [List.drop_zero]; exact e2, rfl⟩, ?_⟩
      · refine ⟨Sm.refl _, fun a o e n => ?_, fun a ha => ?_, fun a o e => .inl e, fun a o e => ?_⟩
        · rw [upd_ne (ne_of_none e hD)]; exact e
        · rcases ha with ha | ha
          · exact .inl ha
          · subst ha; exact .inr hD
        · exact ⟨o, by rw [upd_ne (ne_of_none e hD)]; exact e⟩
      · rintro i mm Hc ⟨envc, Sc, ftc, acc, accD, r, rfl, hi, Rc, hDc, hDSc, hDoc, ra, hal, stc, hloop, hds⟩
        have hFc : F Sc Hc := wk.mono hF1 stc hAw
        by_cases hlt : i < s.1.length
        · -- a turn
          obtain ⟨d, hd⟩ : ∃ d, s.1[i]? = some d := ⟨s.1[i], List.getElem?_eq_getElem hlt⟩
          have hdrop : s.1.drop i = d :: s.1.drop (i + 1) := by
            have := List.getElem?_eq_some_iff.mp hd
            obtain ⟨h1, h2⟩ := this
            rw [List.drop_eq_getElem_cons h1, h2]
          rw [hdrop] at hloop
          obtain ⟨envA, kk, envB, ha, hc, hrest⟩ := lcLoop_cons hloop
          refine .inr ⟨(wk.go Rc.sub hFc i d hd).1, _, fun H' hN => ⟨s.1.length - (i + 1), by omega, hN⟩, fun x H' hy => ?_⟩
          have key := turn_ok (Q := fun b σ2 H3 => if b = true then tE X.K g WF E.e σ2 H3 fun y H4 => ∃ acc, H4 D = some (.lst acc) ∧ acc.length < sizeLine ∧
              (fun H' => ∃ envc Sc ftc acc accD r, s.1.length - (i + 1) = s.1.length - (i + 1) ∧ i + 1 ≤ s.1.length ∧ Rel X.K g envc Sc (L2.wipe σ (own.map (·.2))) H' ftc ∧ H' D = some (.lst acc) ∧ Sc D = none ∧ ¬ ftc.own D ∧ RDs X.K g Sc accD acc ∧ accD.length ≤ i + 1 ∧
        Step S1 H1 ftw.own Sc H' (fun a => ftc.own a ∨ a = D) ∧ lcLoop (own.map (·.2)) t Fs E (s.1.drop (i + 1)) envc = .ok r env2 ∧ ds = accD ++ r) (upd H4 D (.lst (acc ++ [y]))) else
              (fun H' => ∃ envc Sc ftc acc accD r, s.1.length - (i + 1) = s.1.length - (i + 1) ∧ i + 1 ≤ s.1.length ∧ Rel X.K g envc Sc (L2.wipe σ (own.map (·.2))) H' ftc ∧ H' D = some (.lst acc) ∧ Sc D = none ∧ ¬ ftc.own D ∧ RDs X.K g Sc accD acc ∧ accD.length ≤ i + 1 ∧
        Step S1 H1 ftw.own Sc H' (fun a => ftc.own a ∨ a = D) ∧ lcLoop (own.map (·.2)) t Fs E (s.1.drop (i + 1)) envc = .ok r env2 ∧ ds = accD ++ r) H3) wk hsub Rc hFc hDc hDSc hDoc stc hd hy ha hc ?_
          · exact key
          · intro σ2 S3 H3 ft3 R3 hl3 hw3 hD3 hDS3 hDo3 sm3 st3
            rcases hrest with ⟨rfl, y, envD, r', hE, hL, rfl⟩ | ⟨rfl, hL⟩
            · simp only [if_true]
              refine ⟨envB, S3, ft3, R3, ?_⟩
              rw [hE]
              intro v S4 H4 ft4 R4 st4 r4
              have hD4 : H4 D = some (.lst acc) := by rw [st4.keep D _ hD3 hDo3]
              have hDo4 : ¬ ft4.own D := fun z => by
                rcases st4.own D z with y | y
                · exact hDo3 y
                · rw [hD3] at y; cases y
              have hDS4 : S4 D = none := by
                cases q : S4 D with
                | none => rfl
                | some o =>
                  rcases st4.grow D o q with z | z | z
                  · rw [hDS3] at z; cases z
                  · rw [hD3] at z; cases z
                  · exact absurd z hDo3
              obtain ⟨ft5, R5, ho5⟩ := R4.wipe (own.map (·.2))
              rw [hw3] at R5
              have hDo5 : ¬ ft5.own D := fun z => hDo4 (ho5 D z)
              have rl := RDs.length ra
              refine ⟨acc, hD4, ?_, wipeE envD (own.map (·.2)), S4, ft5, acc ++ [v], accD ++ [y], r', by trivial, hlt, R5.updOff hDS4 hDo5, upd_same, hDS4, hDo5, RDs.append (RDs.mono (sm3.trans st4.same) _ _ ra) (.one r4), by simp; omega, ?_, hL, by rw [hds]; simp⟩
              · rw [slim]; omega
              · refine Step.updOwn (O' := fun a => ft5.own a ∨ a = D) ?_ (.inr rfl)
                exact (st3.trans (st4.frame fun a => a = D)).post fun a ha => ha.imp (ho5 a) id
            · simp only [Bool.false_eq_true, if_false]
              obtain ⟨ft5, R5, ho5⟩ := R3.wipe (own.map (·.2))
              rw [hw3] at R5
              exact ⟨wipeE envB (own.map (·.2)), S3, ft5, acc, accD, r, by trivial, hlt, R5, hD3, hDS3, fun z => hDo3 (ho5 D z), RDs.mono sm3 _ _ ra, by omega, st3.post fun a ha => ha.imp (ho5 a) id, hL, hds⟩
        · -- the end
          have hie : i = s.1.length := by omega
          subst hie
          rw [List.drop_length] at hloop
          simp only [lcLoop] at hloop
          cases hloop
          rw [List.append_nil] at hds
          subst hds
          obtain ⟨S3, H3, hH3, st3, hA3, sm3, _, hO3, hrel3⟩ := hfin Sc Hc _ _ Rc.sub stc hAw hFc
          have R3 := hrel3 _ _ ftc Rc fun a ha => .inl ha
          have hD0 : H0 D = none := hn1 D hD
          have hlc : env2.length = env1.length := by
            have h1 := Rc.len
            have h2 := R1.len
            rw [wipe_len] at h1
            omega
          obtain ⟨ft6, R6, ho6⟩ := walk_end R1 hb hA hlA lr how R3 st3 hlc hA3 hD0
          obtain ⟨hDH3, hDS3⟩ := hO3 D (.inr rfl)
          have hDS3 := hDS3 hDSc
          have hDl : D ∉ l := fun hm => by
            have hs2 := lr
            cases hq : s.2 with
            | none => rw [hq] at lr; cases (show l = [] from lr); cases hm
            | some p =>
              rw [hq] at lr
              obtain ⟨_, v, _, rr, _, _⟩ := lr
              obtain ⟨o, e⟩ := RW.there _ _ _ rr D hm
              rw [hD0] at e; cases e
          have hDo6 : ∀ j a, a ∈ [D] → a ∉ ft6 j := fun j a ha hb => by
            have : a = D := by simpa using ha
            subst this
            rcases ho6 a ⟨j, hb⟩ with z | z
            · exact hDoc z
            · exact hDl z
          have R7 := R6.push (w := .oL ds) (v := .ref D) (l := [D]) ⟨D, acc, rfl, rfl, by rw [hDH3]; exact hDc, RDs.mono sm3 _ _ ra⟩ (by simp) hDo6 fun a ha => by
            have : a = D := by simpa using ha
            subst this
            exact hDS3
          have fin : Q (.ref D) H3 := by
            refine m (.ref D) S3 H3 _ R7 (st0.trans (((st3.frame fun a => a ∈ l).pre fun a ha => ha.imp (how a) id).post fun a ⟨j, hj⟩ => ?_))
            by_cases q : j = (unlend (restE env2 env1 (own.map (·.2))) s.2).length
            · subst q
              rw [Ft.put_self] at hj
              have : a = D := by simpa using hj
              exact .inl (.inr this)
            · rw [Ft.put_ne q] at hj
              exact (ho6 a ⟨j, hj⟩).imp .inl id
          refine .inl ⟨wk.stop Rc.sub hFc _ (Nat.le_refl _), ?_⟩
          rcases hH3 with rfl | ⟨d, od, u, e, hn, rfl⟩
          · exact .inl fin
          · exact .inr ⟨d, od, u, e, hn, fin⟩
end
end Rf

namespace Rf
open PySem L2 PyProof.Rows

section
variable {X : Cx} {g : G} {Wx : WX} {Γ : Gam} {C : Call} {elt kx vx tgx iter : Expr} {ifs : List Expr} {Fs Is : List Ev} {E F : Ev} {t : CT} {k : IK} {scope : Scope} {own : List (Str × Nat)} {pos spos py : Pos}
theorem s_lc (hc : X.calm = true) (hN : X.N.Nodup) (hi : PI X tgx iter (tIt X g Wx (runI k Is))) (ok : BlkOk X.N X.env.scope scope own) (ht : Blk X scope fun X' => Tg X' tgx t) (hf : Blk X scope fun X' => Snds X' g WF ifs Fs) (hl : ifs.length ≤ 1)
    (he : Blk X scope fun X' => Snd X' g WF elt E) (hs : ∀ x, foldedSetIterable iter X.env x = pure x) :
    Snd X g Wx (.ListComp elt [⟨tgx, iter, ifs, 0⟩] scope pos) (mkEv fun env => (lcEv (own.map (·.2)) E t k Is Fs env).bind fun l env' => .ok (.oL l) env') :=
  s_plain (PE.imp (pe_unl (pe_lc (g := gOf X.K t) (tt := tT X.K g WF (runC Fs)) (te := tE X.K g WF E.e) hc hN hi ok (fun s H C cl fp => Tg.pg (X := X.blk s H scope (compEnvC scope cl C X.env) fp) hN hc (ht s H C cl fp)) (fun s H C cl fp => tT_runC (hf s H C cl fp) hl) (fun s H C cl fp => (he s H C cl fp).pe) hs)) fun σ H Q h => lc_read h) (fun _ => rfl) fun _ _ => rfl
/-- name = [..] on one line -/
theorem st_setLc {i : Nat} {y : Str} (hc : X.calm = true) (hN : X.N.Nodup) (hy : X.N[i]? = some y) (hyl : X.env.scope.names.lookup y = some .local)
    (hsw : swapsWith (.ListComp elt [⟨tgx, iter, ifs, 0⟩] scope pos) (some (.Name y py)) spos.line X.env = pure true) (hi : PI X tgx iter (tIt X g Wx (runI k Is))) (ok : BlkOk X.N X.env.scope scope own) (ht : Blk X scope fun X' => Tg X' tgx t) (hf : Blk X scope fun X' => Snds X' g WF ifs Fs) (hl : ifs.length ≤ 1)
    (he : Blk X scope fun X' => Snd X' g WF elt E) (hs : ∀ x, foldedSetIterable iter X.env x = pure x) :
    PS X (.Assign [.Name y py] (.ListComp elt [⟨tgx, iter, ifs, 0⟩] scope pos) spos) (tAsg (tW X.K g Wx fun env => (lcEv (own.map (·.2)) E t k Is Fs env).bind fun l env' => .ok (.oL l) env') (gName i)) := by
  refine PS.imp (ps_unl (ps_setLc (g := gOf X.K t) (tt := tT X.K g WF (runC Fs)) (te := tE X.K g WF E.e) hc hN hy hyl hsw hi ok (fun s H C cl fp => Tg.pg (X := X.blk s H scope (compEnvC scope cl C X.env) fp) hN hc (ht s H C cl fp)) (fun s H C cl fp => tT_runC (hf s H C cl fp) hl) (fun s H C cl fp => (he s H C cl fp).pe) hs)) fun D σ H h => ?_
  exact lc_read (Q := fun x H1 => gName i x σ H1 D.nx) h

theorem dcLoop_cons {own : List Nat} {tg : CT} {Fs : List Ev} {d : D} {ds : List D} {env env2 : Env} {acc r : List Key × List D} (h : dcLoop own tg Fs E F (d :: ds) acc env = .ok r env2) :
    ∃ env1 k env3, tg.asg d env = some env1 ∧ runC Fs env1 = .ok k env3 ∧ ((k = true ∧ ∃ x env4 y env5 kk, E.e env3 = .ok x env4 ∧ F.e env4 = .ok y env5 ∧ keyD x = some kk ∧ dcLoop own tg Fs E F ds (putD kk y acc.1 acc.2) (wipeE env5 own) = .ok r env2) ∨ (k = false ∧ dcLoop own tg Fs E F ds acc (wipeE env3 own) = .ok r env2)) := by
  unfold dcLoop at h
  cases e1 : tg.asg d env with
  | none => rw [e1] at h; cases h
  | some env1 =>
    rw [e1] at h
    simp only at h
    cases e2 : runC Fs env1 with
    | bad => rw [e2] at h; cases h
    | exc x e => rw [e2] at h; cases h
    | ok k env3 =>
      simp only [e2, Rf.R.bind_ok] at h
      refine ⟨env1, k, env3, rfl, e2, ?_⟩
      cases k with
      | false => exact .inr ⟨rfl, by simpa using h⟩
      | true =>
        simp only [if_true] at h
        cases e3 : E.e env3 with
        | bad => rw [e3] at h; cases h
        | exc x e => rw [e3] at h; cases h
        | ok x env4 =>
          simp only [e3, Rf.R.bind_ok] at h
          cases e4 : F.e env4 with
          | bad => rw [e4] at h; cases h
          | exc x e => rw [e4] at h; cases h
          | ok y env5 =>
            simp only [e4, Rf.R.bind_ok] at h
            cases e5 : keyD x with
            | none => rw [e5] at h; cases h
            | some kk =>
              rw [e5] at h
              exact .inl ⟨rfl, x, env4, y, env5, kk, rfl, e4, e5, h⟩
theorem dc_read {σ : L2.St} {H : Hp} {Q : VK} (h : tW X.K g Wx (fun env => (dcEv (own.map (·.2)) E F t k Is Fs env).bind fun r env' => .ok (.oK r.1 r.2) env') σ H Q) :
    tDc (tIt X g Wx (runI k Is)) (gOf X.K t) (tT X.K g WF (runC Fs)) (tE X.K g WF E.e) (tE X.K g WF F.e) (own.map (·.2)) σ H fun v H' => Q v H' ∨ ∃ d od u, H' d = some (.frz od u) ∧ (∀ o' u', X.H_0 d ≠ some (.frz o' u')) ∧ Q v (upd H' d u) := by
  obtain ⟨env, S, ft, R, m⟩ := tW_iff.mp h
  unfold dcEv at m
  refine ⟨env, S, ft, R, ?_⟩
  cases e1 : runI k Is env with
  | bad => simp only [e1, Rf.R.bind_bad] at m; exact m.elim
  | exc x env1 => simp only [e1, Rf.R.bind_exc] at m; exact m
  | ok s env1 =>
    simp only [e1, Rf.R.bind_ok] at m
    intro S0 H0 ft1 l A J H1 R1 st0 hA hlA lr hlen ⟨S1, F', wk, hF1, hn1, hs1, hrel, hfin⟩ D hD
    by_cases hb : blkE (own.map (·.2)) t s.2 env1 = true
    case neg => simp only [if_neg hb, Rf.R.bind_bad] at m; exact m.elim
    rw [if_pos hb] at m
    have hsub : ∀ j ∈ t.names, j ∈ own.map (·.2) := fun j hj => by
      unfold blkE at hb
      obtain ⟨hb1, hb3⟩ := Bool.and_eq_true_iff.mp hb
      obtain ⟨hb1, hb2⟩ := Bool.and_eq_true_iff.mp hb1
      have := List.all_eq_true.mp hb2 j hj
      simpa using this
    cases e2 : dcLoop (own.map (·.2)) t Fs E F s.1 ([], []) (wipeE env1 (own.map (·.2))) with
    | bad => simp only [e2, Rf.R.bind_bad] at m; exact m.elim
    | exc x env2 => simp only [e2, Rf.R.bind_bad] at m; exact m.elim
    | ok res env2 =>
      simp only [e2, Rf.R.bind_ok] at m
      have R1' := hrel env1 σ ft1 R1 hA
      obtain ⟨ftw, Rw, how⟩ := R1'.wipe (own.map (·.2))
      have hAw : ∀ a, A a → ¬ ftw.own a := fun a ha hb => hA a ha (how a hb)
      have hDS1 : S1 D = none := by
        cases q : S1 D with
        | none => rfl
        | some o => rw [R1'.sub D o q] at hD; cases hD
      have hDw : ¬ ftw.own D := fun ⟨j, hj⟩ => by
        obtain ⟨o, e⟩ := Rw.hasAt hj
        rw [hD] at e; cases e
      refine ⟨fun i mm Hc => ∃ envc Sc ftc kvs accV, mm = s.1.length - i ∧ i ≤ s.1.length ∧ Rel X.K g envc Sc (L2.wipe σ (own.map (·.2))) Hc ftc ∧ Hc D = some (.dK kvs) ∧ Sc D = none ∧ ¬ ftc.own D ∧ RDs X.K g Sc accV (kvs.map (·.2)) ∧ kvs.length ≤ i ∧
        Step S1 H1 ftw.own Sc Hc (fun a => ftc.own a ∨ a = D) ∧ dcLoop (own.map (·.2)) t Fs E F (s.1.drop i) (kvs.map (·.1), accV) envc = .ok res env2, ⟨s.1.length, wipeE env1 (own.map (·.2)), S1, ftw, [], [], by simp, Nat.zero_le _, Rw.updOff hDS1 hDw, upd_same, hDS1, hDw, RDs.nil, Nat.le_refl _, ?_, by rw [List.drop_zero]; exact e2⟩, ?_⟩
      · refine ⟨Sm.refl _, fun a o e n => ?_, fun a ha => ?_, fun a o e => .inl e, fun a o e => ?_⟩
        · rw [upd_ne (ne_of_none e hD)]; exact e
        · rcases ha with ha | ha
          · exact .inl ha
          · subst ha; exact .inr hD
        · exact ⟨o, by rw [upd_ne (ne_of_none e hD)]; exact e⟩
      · rintro i mm Hc ⟨envc, Sc, ftc, kvs, accV, rfl, hi, Rc, hDc, hDSc, hDoc, ra, hal, stc, hloop⟩
        have hFc : F' Sc Hc := wk.mono hF1 stc hAw
        by_cases hlt : i < s.1.length
        · obtain ⟨d, hd⟩ : ∃ d, s.1[i]? = some d := ⟨s.1[i], List.getElem?_eq_getElem hlt⟩
          have hdrop : s.1.drop i = d :: s.1.drop (i + 1) := by
            obtain ⟨h1, h2⟩ := List.getElem?_eq_some_iff.mp hd
            rw [List.drop_eq_getElem_cons h1, h2]
          rw [hdrop] at hloop
          obtain ⟨envA, kk, envB, ha, hc, hrest⟩ := dcLoop_cons hloop
          refine .inr ⟨(wk.go Rc.sub hFc i d hd).1, _, fun H' hN => ⟨s.1.length - (i + 1), by omega, hN⟩, fun x H' hy => ?_⟩
          refine turn_ok (Q := fun b σ2 H3 => if b = true then tE X.K g WF E.e σ2 H3 fun y H4 => tE X.K g WF F.e σ2 H4 fun z H5 => ∃ kvs k, y = kV k ∧ H5 D = some (.dK kvs) ∧ kvs.length < sizeLine ∧
              (fun H' => ∃ envc Sc ftc kvs accV, s.1.length - (i + 1) = s.1.length - (i + 1) ∧ i + 1 ≤ s.1.length ∧ Rel X.K g envc Sc (L2.wipe σ (own.map (·.2))) H' ftc ∧ H' D = some (.dK kvs) ∧ Sc D = none ∧ ¬ ftc.own D ∧ RDs X.K g Sc accV (kvs.map (·.2)) ∧ kvs.length ≤ i + 1 ∧
        Step S1 H1 ftw.own Sc H' (fun a => ftc.own a ∨ a = D) ∧ dcLoop (own.map (·.2)) t Fs E F (s.1.drop (i + 1)) (kvs.map (·.1), accV) envc = .ok res env2) (upd H5 D (.dK (putK kvs k z))) else
              (fun H' => ∃ envc Sc ftc kvs accV, s.1.length - (i + 1) = s.1.length - (i + 1) ∧ i + 1 ≤ s.1.length ∧ Rel X.K g envc Sc (L2.wipe σ (own.map (·.2))) H' ftc ∧ H' D = some (.dK kvs) ∧ Sc D = none ∧ ¬ ftc.own D ∧ RDs X.K g Sc accV (kvs.map (·.2)) ∧ kvs.length ≤ i + 1 ∧
        Step S1 H1 ftw.own Sc H' (fun a => ftc.own a ∨ a = D) ∧ dcLoop (own.map (·.2)) t Fs E F (s.1.drop (i + 1)) (kvs.map (·.1), accV) envc = .ok res env2) H3) wk hsub Rc hFc hDc hDSc hDoc stc hd hy ha hc ?_
          intro σ2 S3 H3 ft3 R3 hl3 hw3 hD3 hDS3 hDo3 sm3 st3
          have keepD : ∀ {Sx Hx Sy Hy : Hp} {fx fy : Ft} {o : HO}, Step Sx Hx fx.own Sy Hy fy.own → Hx D = some o → Sx D = none → ¬ fx.own D → Hy D = some o ∧ Sy D = none ∧ ¬ fy.own D := fun {Sx Hx Sy Hy fx fy o} st h1 h2 h3 => by
            refine ⟨st.keep D _ h1 h3, ?_, fun z => ?_⟩
            · cases q : Sy D with
              | none => rfl
              | some o =>
                rcases st.grow D o q with z | z | z
                · rw [h2] at z; cases z
                · rw [h1] at z; cases z
                · exact absurd z h3
            · rcases st.own D z with y | y
              · exact h3 y
              · rw [h1] at y; cases y
          rcases hrest with ⟨rfl, a, envC, b, envD, key, hE, hFe, hk, hL⟩ | ⟨rfl, hL⟩
          · simp only [if_true]
            refine ⟨envB, S3, ft3, R3, ?_⟩
            rw [hE]
            intro va S4 H4 ft4 R4 st4 r4
            obtain ⟨hD4, hDS4, hDo4⟩ := keepD st4 hD3 hDS3 hDo3
            refine ⟨envC, S4, ft4, R4, ?_⟩
            rw [hFe]
            intro vb S5 H5 ft5 R5 st5 r5
            obtain ⟨hD5, hDS5, hDo5⟩ := keepD st5 hD4 hDS4 hDo4
            obtain ⟨ft6, R6, ho6⟩ := R5.wipe (own.map (·.2))
            rw [hw3] at R6
            have hDo6 : ¬ ft6.own D := fun z => hDo5 (ho6 D z)
            cases keyD_kV hk r4
            obtain ⟨p1, p2⟩ := putD_ok (k := key) r5 (RDs.mono (sm3.trans (st4.same.trans st5.same)) _ _ ra)
            refine ⟨kvs, key, rfl, hD5, by rw [slim]; omega, wipeE envD (own.map (·.2)), S5, ft6, putK kvs key vb, _, by trivial, hlt, R6.updOff hDS5 hDo6, upd_same, hDS5, hDo6, p2, ?_, ?_, ?_⟩
            · have := length_putK kvs key vb; omega
            · refine Step.updOwn (O' := fun a => ft6.own a ∨ a = D) ?_ (.inr rfl)
              exact (st3.trans ((st4.trans st5).frame fun a => a = D)).post fun a ha => ha.imp (ho6 a) id
            · rw [p1]; exact hL
          · simp only [Bool.false_eq_true, if_false]
            obtain ⟨ft5, R5, ho5⟩ := R3.wipe (own.map (·.2))
            rw [hw3] at R5
            exact ⟨wipeE envB (own.map (·.2)), S3, ft5, kvs, accV, by trivial, hlt, R5, hD3, hDS3, fun z => hDo3 (ho5 D z), RDs.mono sm3 _ _ ra, by omega, st3.post fun a ha => ha.imp (ho5 a) id, hL⟩
        · have hie : i = s.1.length := by omega
          subst hie
          rw [List.drop_length] at hloop
          simp only [dcLoop] at hloop
          obtain ⟨h1, h2⟩ := Rf.R.ok.inj hloop
          subst h1 h2
          obtain ⟨S3, H3, hH3, st3, hA3, sm3, _, hO3, hrel3⟩ := hfin Sc Hc _ _ Rc.sub stc hAw hFc
          have R3 := hrel3 _ _ ftc Rc fun a ha => .inl ha
          have hD0 : H0 D = none := hn1 D hD
          have hlc : envc.length = env1.length := by
            have h1 := Rc.len
            have h2 := R1.len
            rw [wipe_len] at h1
            omega
          obtain ⟨ft6, R6, ho6⟩ := walk_end R1 hb hA hlA lr how R3 st3 hlc hA3 hD0
          obtain ⟨hDH3, hDS3⟩ := hO3 D (.inr rfl)
          have hDS3 := hDS3 hDSc
          have hDl : D ∉ l := fun hm => by
            cases hq : s.2 with
            | none => rw [hq] at lr; cases (show l = [] from lr); cases hm
            | some p =>
              rw [hq] at lr
              obtain ⟨_, v, _, rr, _, _⟩ := lr
              obtain ⟨o, e⟩ := RW.there _ _ _ rr D hm
              rw [hD0] at e; cases e
          have hDo6 : ∀ j a, a ∈ [D] → a ∉ ft6 j := fun j a ha hb => by
            have : a = D := by simpa using ha
            subst this
            rcases ho6 a ⟨j, hb⟩ with z | z
            · exact hDoc z
            · exact hDl z
          have R7 := R6.push (w := .oK (kvs.map (·.1)) accV) (v := .ref D) (l := [D]) ⟨D, kvs, rfl, rfl, by rw [hDH3]; exact hDc, rfl, RDs.mono sm3 _ _ ra⟩ (by simp) hDo6 fun a ha => by
            have : a = D := by simpa using ha
            subst this
            exact hDS3
          have fin : Q (.ref D) H3 := by
            refine m (.ref D) S3 H3 _ R7 (st0.trans (((st3.frame fun a => a ∈ l).pre fun a ha => ha.imp (how a) id).post fun a ⟨j, hj⟩ => ?_))
            by_cases q : j = (unlend (restE envc env1 (own.map (·.2))) s.2).length
            · subst q
              rw [Ft.put_self] at hj
              have : a = D := by simpa using hj
              exact .inl (.inr this)
            · rw [Ft.put_ne q] at hj
              exact (ho6 a ⟨j, hj⟩).imp .inl id
          refine .inl ⟨wk.stop Rc.sub hFc _ (Nat.le_refl _), ?_⟩
          rcases hH3 with rfl | ⟨d, od, u, e, hn, rfl⟩
          · exact .inl fin
          · exact .inr ⟨d, od, u, e, hn, fin⟩
theorem s_dc (hc : X.calm = true) (hN : X.N.Nodup) (hi : PI X tgx iter (tIt X g Wx (runI k Is))) (ok : BlkOk X.N X.env.scope scope own) (ht : Blk X scope fun X' => Tg X' tgx t) (hf : Blk X scope fun X' => Snds X' g WF ifs Fs) (hl : ifs.length ≤ 1)
    (hk : Blk X scope fun X' => Snd X' g WF kx E) (he : Blk X scope fun X' => Snd X' g WF vx F) (hs : ∀ x, foldedSetIterable iter X.env x = pure x) :
    Snd X g Wx (.DictComp kx vx [⟨tgx, iter, ifs, 0⟩] scope pos) (mkEv fun env => (dcEv (own.map (·.2)) E F t k Is Fs env).bind fun r env' => .ok (.oK r.1 r.2) env') :=
  s_plain (PE.imp (pe_unl (pe_dc (g := gOf X.K t) (tt := tT X.K g WF (runC Fs)) (tk := tE X.K g WF E.e) (tv := tE X.K g WF F.e) hc hN hi ok (fun s H C cl fp => Tg.pg (X := X.blk s H scope (compEnvC scope cl C X.env) fp) hN hc (ht s H C cl fp)) (fun s H C cl fp => tT_runC (hf s H C cl fp) hl) (fun s H C cl fp => (hk s H C cl fp).pe) (fun s H C cl fp => (he s H C cl fp).pe) hs)) fun σ H Q h => dc_read h) (fun _ => rfl) fun _ _ => rfl
end
end Rf

namespace Rf
open PySem L2 PyProof.Rows

abbrev St (X : Cx) (g : G) (Wx : WX) (pr : Nat → Bool) (st : Stmt) (f : ES) : Prop := PS X st (tS X.K g Wx pr f)
abbrev Sts (X : Cx) (g : G) (Wx : WX) (pr : Nat → Bool) (st : List Stmt) (f : ES) : Prop := PSs X st (tS X.K g Wx pr f)
section
variable {K : PySem.W.Frag} {g : G} {Wx : WX} {pr : Nat → Bool} {S H S' H' : Hp} {ft ft' : Ft} {env env' : Env} {σ σ' σ2 : L2.St} {D : Ends}
theorem Kp.refl : Kp pr σ σ := fun _ _ => rfl
theorem Kp.trans (h : Kp pr σ σ') (h2 : Kp pr σ' σ2) : Kp pr σ σ2 := fun j hj => (h2 j hj).trans (h j hj)
theorem Kp.set {i : Nat} {v : Option V} (h : pr i = false) : Kp pr σ (σ.set i v) := fun j hj => by
  have : i ≠ j := fun z => by subst z; rw [h] at hj; cases hj
  rw [List.getElem?_set_ne this]
theorem Kp.off {ns : List Nat} (h : Off ns σ σ') (hp : ns.any pr = false) : Kp pr σ σ' := fun j hj => h j fun hm => by
  have := List.any_eq_false.mp hp j hm
  exact this hj
/-- what is wanted behind a statement that began with σ0 in S, H with the owned O -/
def AfterS (K : PySem.W.Frag) (g : G) (Wx : WX) (pr : Nat → Bool) (D : Ends) (σ0 : L2.St) (S H : Hp) (O : Addr → Prop) : Fl → Prop
  | .nx env' => ∀ σ' S' H' ft', Rel K g env' S' σ' H' ft' → Step S H O S' H' ft'.own → Kp pr σ0 σ' → D.nx σ' H'
  | .bk env' => ∀ σ' S' H' ft', Rel K g env' S' σ' H' ft' → Step S H O S' H' ft'.own → Kp pr σ0 σ' → D.bk σ' H'
  | .ct env' => ∀ σ' S' H' ft', Rel K g env' S' σ' H' ft' → Step S H O S' H' ft'.own → Kp pr σ0 σ' → D.ct σ' H'
  | .rt w env' => ∀ v σ' S' H' ft', Rel K g (env' ++ [some w]) S' (σ' ++ [some v]) H' ft' → Step S H O S' H' ft'.own → Kp pr σ0 σ' → D.rt v H'
  | .exc x env' => ∀ cls dx σ' S' H' ft', Rel K g env' S' σ' H' ft' → Step S H O S' H' ft'.own → Kp pr σ0 σ' → RX K g S' x cls dx → Wx cls dx σ' H'
  | .bad => False
theorem tS_iff {f : ES} : tS K g Wx pr f D σ H ↔ ∃ env S ft, Rel K g env S σ H ft ∧ AfterS K g Wx pr D σ S H ft.own (f env) := by
  constructor
  · rintro ⟨env, S, ft, R, m⟩
    refine ⟨env, S, ft, R, ?_⟩
    cases e : f env <;> rw [e] at m <;> exact m
  · rintro ⟨env, S, ft, R, m⟩
    refine ⟨env, S, ft, R, ?_⟩
    cases e : f env <;> rw [e] at m <;> exact m
theorem AfterS.pre {O O1 : Addr → Prop} {S1 H1 : Hp} {σ1 : L2.St} {r : Fl} (h : AfterS K g Wx pr D σ S H O r) (st : Step S H O S1 H1 O1) (k : Kp pr σ σ1) : AfterS K g Wx pr D σ1 S1 H1 O1 r := by
  cases r with
  | nx env' => exact fun σ' S' H' ft' R st' k' => h σ' S' H' ft' R (st.trans st') (k.trans k')
  | bk env' => exact fun σ' S' H' ft' R st' k' => h σ' S' H' ft' R (st.trans st') (k.trans k')
  | ct env' => exact fun σ' S' H' ft' R st' k' => h σ' S' H' ft' R (st.trans st') (k.trans k')
  | rt w env' => exact fun v σ' S' H' ft' R st' k' => h v σ' S' H' ft' R (st.trans st') (k.trans k')
  | exc x env' => exact fun cls dx σ' S' H' ft' R st' k' => h cls dx σ' S' H' ft' R (st.trans st') (k.trans k')
  | bad => exact h
theorem AfterS.ends {O : Addr → Prop} {r : Fl} {D' : Ends} (h : AfterS K g Wx pr D σ S H O r) (h1 : ∀ σ H, D.nx σ H → D'.nx σ H) (h2 : ∀ v H, D.rt v H → D'.rt v H) (h3 : ∀ σ H, D.bk σ H → D'.bk σ H) (h4 : ∀ σ H, D.ct σ H → D'.ct σ H) : AfterS K g Wx pr D' σ S H O r := by
  cases r with
  | nx env' => exact fun σ' S' H' ft' R st' k' => h1 _ _ (h σ' S' H' ft' R st' k')
  | bk env' => exact fun σ' S' H' ft' R st' k' => h3 _ _ (h σ' S' H' ft' R st' k')
  | ct env' => exact fun σ' S' H' ft' R st' k' => h4 _ _ (h σ' S' H' ft' R st' k')
  | rt w env' => exact fun v σ' S' H' ft' R st' k' => h2 _ _ (h v σ' S' H' ft' R st' k')
  | exc x env' => exact h
  | bad => exact h
theorem AfterS.prs {pr' : Nat → Bool} {O : Addr → Prop} {r : Fl} (h : AfterS K g Wx pr D σ S H O r) (hp : ∀ j, pr j = true → pr' j = true) : AfterS K g Wx pr' D σ S H O r := by
  have kk : ∀ {σ'}, Kp pr' σ σ' → Kp pr σ σ' := fun k j hj => k j (hp j hj)
  cases r with
  | nx env' => exact fun σ' S' H' ft' R st' k' => h σ' S' H' ft' R st' (kk k')
  | bk env' => exact fun σ' S' H' ft' R st' k' => h σ' S' H' ft' R st' (kk k')
  | ct env' => exact fun σ' S' H' ft' R st' k' => h σ' S' H' ft' R st' (kk k')
  | rt w env' => exact fun v σ' S' H' ft' R st' k' => h v σ' S' H' ft' R st' (kk k')
  | exc x env' => exact fun cls dx σ' S' H' ft' R st' k' => h cls dx σ' S' H' ft' R st' (kk k')
  | bad => exact h
/-- an evaluation, then more -/
theorem tW_fl {r : Env → R W} {f : W → Env → Fl} (h : tS K g Wx pr (fun env => (r env).fl f) D σ H) :
    tW K g Wx r σ H fun v H1 => ∃ env S ft w, Rel K g (env ++ [some w]) S (σ ++ [some v]) H1 ft ∧ AfterS K g Wx pr D σ S H1 ft.own (f w env) := by
  obtain ⟨env, S, ft, R, m⟩ := tS_iff.mp h
  refine ⟨env, S, ft, R, ?_⟩
  cases e : r env with
  | ok w env1 => rw [e] at m; exact fun v S' H' ft' R' st => ⟨env1, S', ft', w, R', m.pre st .refl⟩
  | exc x env1 => rw [e] at m; exact fun cls dx S' H' ft' R' st rx => m cls dx σ S' H' ft' R' st .refl rx
  | bad => rw [e] at m; exact m
theorem tE_fl {r : Env → R Rf.D} {f : Rf.D → Env → Fl} (h : tS K g Wx pr (fun env => (r env).fl f) D σ H) :
    tE K g Wx r σ H fun v H1 => ∃ env S ft d, Rel K g env S σ H1 ft ∧ RD K g S d v ∧ AfterS K g Wx pr D σ S H1 ft.own (f d env) := by
  obtain ⟨env, S, ft, R, m⟩ := tS_iff.mp h
  refine ⟨env, S, ft, R, ?_⟩
  cases e : r env with
  | ok w env1 => rw [e] at m; exact fun v S' H' ft' R' st r => ⟨env1, S', ft', w, R', r, m.pre st .refl⟩
  | exc x env1 => rw [e] at m; exact fun cls dx S' H' ft' R' st rx => m cls dx σ S' H' ft' R' st .refl rx
  | bad => rw [e] at m; exact m
theorem tT_fl {r : Env → R Bool} {f : Bool → Env → Fl} (h : tS K g Wx pr (fun env => (r env).fl f) D σ H) :
    tT K g Wx r σ H fun k H1 => ∃ env S ft, Rel K g env S σ H1 ft ∧ AfterS K g Wx pr D σ S H1 ft.own (f k env) := by
  obtain ⟨env, S, ft, R, m⟩ := tS_iff.mp h
  refine ⟨env, S, ft, R, ?_⟩
  cases e : r env with
  | ok w env1 => rw [e] at m; exact fun S' H' ft' R' st => ⟨env1, S', ft', R', m.pre st .refl⟩
  | exc x env1 => rw [e] at m; exact fun cls dx S' H' ft' R' st rx => m cls dx σ S' H' ft' R' st .refl rx
  | bad => rw [e] at m; exact m
end

section
variable {X : Cx} {g : G} {Wx : WX} {pr : Nat → Bool} {e c : Expr} {E F : Ev} {pos pos' tpos : Pos} {a b : List Stmt} {fa fb : ES} {st : Stmt} {sts : List Stmt}
theorem st_expr (h : Snd X g Wx e E) (hs : swapsWith e none pos.line X.env = pure false) : St X g Wx pr (.Expr e pos) (fun env => (E.w env).fl fun _ env' => .nx env') :=
  PS.imp (ps_expr h.pw hs) fun D σ H q => tW_mono (tW_fl q) fun v H1 ⟨env, S, ft, w, R, m⟩ => m σ S H1 _ R.drop (Step.refl.post fun a => off_own) .refl
theorem st_ret (h : Snd X g Wx e E) : St X g Wx pr (.Return (some e) pos) (fun env => (E.w env).fl fun w env' => .rt w env') :=
  PS.imp (ps_ret h.pw) fun D σ H q => tW_mono (tW_fl q) fun v H1 ⟨env, S, ft, w, R, m⟩ => m v σ S H1 ft R .refl .refl
theorem st_retN : St X g Wx pr (.Return none pos) (fun env => .rt (.sh .non) env) :=
  PS.imp ps_retN fun D σ H q => by
    obtain ⟨env, S, ft, R, m⟩ := tS_iff.mp q
    obtain ⟨ft2, R2, ho⟩ := R.pushSh (d := .non) (v := .non) rfl
    exact m .non σ S H ft2 R2 (Step.refl.post ho) .refl
theorem st_pass : St X g Wx pr (.Pass pos) (fun env => .nx env) := PS.imp ps_pass fun D σ H q => by
  obtain ⟨env, S, ft, R, m⟩ := tS_iff.mp q
  exact m σ S H ft R .refl .refl
theorem st_brk : St X g Wx pr (.Break pos) (fun env => .bk env) := PS.imp ps_break fun D σ H q => by
  obtain ⟨env, S, ft, R, m⟩ := tS_iff.mp q
  exact m σ S H ft R .refl .refl
theorem st_cnt : St X g Wx pr (.Continue pos) (fun env => .ct env) := PS.imp ps_continue fun D σ H q => by
  obtain ⟨env, S, ft, R, m⟩ := tS_iff.mp q
  exact m σ S H ft R .refl .refl
theorem sts_nil : Sts X g Wx pr [] (fun env => .nx env) := PSs.imp pss_nil fun D σ H q => by
  obtain ⟨env, S, ft, R, m⟩ := tS_iff.mp q
  exact m σ S H ft R .refl .refl
theorem sts_cons (h1 : St X g Wx pr st fa) (h2 : Sts X g Wx pr sts fb) : Sts X g Wx pr (st :: sts) (fun env => match fa env with | .nx env' => fb env' | r => r) := by
  refine PSs.imp (pss_cons h1 h2) fun D σ H q => ?_
  obtain ⟨env, S, ft, R, m⟩ := tS_iff.mp q
  refine tS_iff.mpr ⟨env, S, ft, R, ?_⟩
  cases e : fa env with
  | nx env' => rw [e] at m; exact fun σ' S' H' ft' R' st' k => tS_iff.mpr ⟨env', S', ft', R', m.pre st' k⟩
  | bk env' => rw [e] at m; exact m
  | ct env' => rw [e] at m; exact m
  | rt w env' => rw [e] at m; exact m
  | exc x env' => rw [e] at m; exact m
  | bad => rw [e] at m; exact m
theorem st_if (hc : Snd X g Wx c F) (ha : Sts X g Wx pr a fa) (hb : Sts X g Wx pr b fb) : St X g Wx pr (.If c a b pos) (fun env => (F.t env).fl fun k env' => if k then fa env' else fb env') := by
  refine PS.imp (ps_if hc.pt ha hb) fun D σ H q => tT_mono (tT_fl q) fun k H1 ⟨env, S, ft, R, m⟩ => ?_
  cases k with
  | true => exact tS_iff.mpr ⟨env, S, ft, R, m⟩
  | false => exact tS_iff.mpr ⟨env, S, ft, R, m⟩
/-- name = value -/
theorem st_asg {i : Nat} {x : Str} {own : Bool} (hN : X.N.Nodup) (hi : X.N[i]? = some x) (hx : Loc X.env.scope x) (h : Snd X g Wx e E) (hs : swapsWith e (some (.Name x pos')) pos.line X.env = pure false) (hf : X.fn x = true ∨ X.env.scope.names.lookup x = some .local) :
    St X g Wx pr (.Assign [.Name x pos'] e pos) (asgEv own i E pr) := by
  cases own with
  | true =>
    refine PS.imp (ps_set hN hi hx h.pw hs hf) fun D σ H q => ?_
    obtain ⟨env, S, ft, R, m⟩ := tS_iff.mp q
    unfold asgEv at m
    split at m
    · exact m.elim
    · rename_i hc
      have hc : pr i = false ∧ i < env.length := by simpa using hc
      have q2 : tS X.K g Wx pr (fun env => (E.w env).fl fun w env' => .nx (env'.set i (some w))) D σ H := tS_iff.mpr ⟨env, S, ft, R, by simpa using m⟩
      refine tW_mono (tW_fl q2) fun v H1 ⟨env1, S1, ft1, w, R1, m1⟩ => ?_
      have hl : i < env1.length := by
        have h1 := R1.len
        have h2 := R.len
        simp at h1
        omega
      exact m1 _ S1 H1 _ (R1.settle hl) (Step.refl.post fun a => settle_sub) (Kp.set hc.1)
  | false =>
    refine PS.imp (ps_set hN hi hx h.pe hs hf) fun D σ H q => ?_
    obtain ⟨env, S, ft, R, m⟩ := tS_iff.mp q
    unfold asgEv at m
    split at m
    · exact m.elim
    · rename_i hc
      have hc : pr i = false ∧ i < env.length := by simpa using hc
      have q2 : tS X.K g Wx pr (fun env => (E.e env).fl fun w env' => .nx (env'.set i (some (.sh w)))) D σ H := tS_iff.mpr ⟨env, S, ft, R, by simpa using m⟩
      refine tE_mono (tE_fl q2) fun v H1 ⟨env1, S1, ft1, d, R1, r, m1⟩ => ?_
      obtain ⟨ft2, R2, ho⟩ := R1.setSh (i := i) r
      exact m1 _ S1 H1 ft2 R2 (Step.refl.post ho) (Kp.set hc.1)
/-- targets = value -/
theorem st_asgT {tg : Expr} {t : CT} (hN : X.N.Nodup) (hc : X.calm = true) (ht : Tg X tg t) (h : Snd X g Wx e E) (hs : swapsWithSole [tg] e pos.line X.env = pure false) (hw : swappedStores [tg] e X.env = pure none) :
    St X g Wx pr (.Assign [tg] e pos) (fun env => if t.names.any pr then .bad else (E.e env).fl fun d env' => match t.asg d env' with | some env2 => .nx env2 | none => .bad) := by
  refine PS.imp (ps_asg h.pe (ht.pg hN hc) hs hw (by rw [ht.each]; rfl)) fun D σ H q => ?_
  obtain ⟨env, S, ft, R, m⟩ := tS_iff.mp q
  by_cases hp : t.names.any pr = true
  · rw [if_pos hp] at m; exact m.elim
  · rw [if_neg hp] at m
    have hp : t.names.any pr = false := by simpa using hp
    have q2 : tS X.K g Wx pr (fun env => (E.e env).fl fun d env' => match t.asg d env' with | some env2 => .nx env2 | none => .bad) D σ H := tS_iff.mpr ⟨env, S, ft, R, m⟩
    refine tE_mono (tE_fl q2) fun v H1 ⟨env1, S1, ft1, d, R1, r, m1⟩ => ?_
    cases e1 : t.asg d env1 with
    | none => rw [e1] at m1; exact m1.elim
    | some env2 =>
      rw [e1] at m1
      exact asg_ok t d env1 env2 e1 v σ ft1 _ R1 r fun σ' ft' R' ho k => m1 σ' S1 H1 ft' R' (Step.refl.post ho) (Kp.off k hp)
/-- name = [..] on one line, the name a plain local -/
theorem st_asgLc {i : Nat} {r : Env → R W} (h : PS X st (tAsg (tW X.K g Wx r) (gName i))) (hE : E.w = r) : St X g Wx pr st (asgEv true i E pr) := by
  refine PS.imp h fun D σ H q => ?_
  obtain ⟨env, S, ft, R, m⟩ := tS_iff.mp q
  unfold asgEv at m
  split at m
  · exact m.elim
  · rename_i hc
    have hc : pr i = false ∧ i < env.length := by simpa using hc
    have q2 : tS X.K g Wx pr (fun env => (E.w env).fl fun w env' => .nx (env'.set i (some w))) D σ H := tS_iff.mpr ⟨env, S, ft, R, by simpa using m⟩
    rw [hE] at q2
    refine tW_mono (tW_fl q2) fun v H1 ⟨env1, S1, ft1, w, R1, m1⟩ => ?_
    have hl : i < env1.length := by
      have h1 := R1.len
      have h2 := R.len
      simp at h1
      omega
    exact m1 _ S1 H1 _ (R1.settle hl) (Step.refl.post fun a => settle_sub) (Kp.set hc.1)
end
end Rf

namespace Rf
open PySem L2 PyProof.Rows

section
variable {K : PySem.W.Frag} {g : G} {S H : Hp} {ft : Ft} {env : Env} {σ : L2.St}
/-- what a slot alone holds is changed -/
theorem Rel.chg (R : Rel K g env S σ H ft) {i : Nat} {w' : W} {v : V} {p : Addr} {o : HO} (hi : i < env.length) (hv : σ[i]? = some (some v)) (hp : p ∈ ft i) (r : RW K g S (upd H p o) w' v (ft i)) :
    Rel K g (env.set i (some w')) S σ (upd H p o) ft ∧ Step S H ft.own S (upd H p o) ft.own := by
  have hS : S p = none := R.out i p hp
  refine ⟨⟨fun a u e => ?_, by rw [List.length_set]; exact R.len, fun j w e => ?_, fun j h => ?_, R.nd, R.dj, R.out⟩, ⟨Sm.refl _, fun a u e n => ?_, fun a h => .inl h, fun a u e => .inl e, fun a u e => ?_⟩⟩
  · rw [upd_ne (fun z => by rw [z, hS] at e; cases e)]; exact R.sub a u e
  · by_cases q : i = j
    · subst q
      rw [List.getElem?_set_self hi] at e
      cases e
      exact ⟨v, hv, r⟩
    · rw [List.getElem?_set_ne q] at e
      obtain ⟨u, e1, r1⟩ := R.slot j w e
      exact ⟨u, e1, RW.move (Sm.refl _) _ _ _ (fun a ha => upd_ne fun z => R.dj i j p q hp (by rw [← z]; exact ha)) r1⟩
  · by_cases q : i = j
    · subst q
      exact absurd (List.getElem?_set_self hi) (h w')
    · exact R.off j fun w e => h w (by rw [List.getElem?_set_ne q]; exact e)
  · rw [upd_ne (fun z => n ⟨i, by rw [z]; exact hp⟩)]; exact e
  · by_cases q : a = p
    · subst q; exact ⟨_, upd_same⟩
    · exact ⟨u, by rw [upd_ne q]; exact e⟩
end

section
variable {X : Cx} {g : G} {Wx : WX} {pr : Nat → Bool} {o k e c : Expr} {O M E F : Ev} {pos p2 apos cpos : Pos}
theorem pset_or {t t' : TSet} (h : PSet X t) (h' : PSet X t') : PSet X (fun o i v H Q => t o i v H Q ∨ t' o i v H Q) := fun pins s σ H o i v ov iv u Q I ro ri rv q => by
  rcases q with q | q
  · exact h pins s σ H o i v ov iv u Q I ro ri rv q
  · exact h' pins s σ H o i v ov iv u Q I ro ri rv q
/-- x[k] = e -/
theorem st_seti {i : Nat} (hu : X.A.units + 1 < cLine) (ho : PE X o (tVar i)) (hk : Snd X g Wx k M) (h : Snd X g Wx e E) (hs : swapsWithSole [.Subscript o k p2] e pos.line X.env = pure false) (hw : swappedStores [.Subscript o k p2] e X.env = pure none) (hn : notSlice k = true) :
    St X g Wx pr (.Assign [.Subscript o k p2] e pos) (fun env => (E.e env).fl fun d env1 => if preAt i none (fun _ => true) env1 then (M.e env1).fl fun kd env2 => chgAt i none (putI kd d) env2 else .bad) := by
  refine PS.imp (ps_asg h.pe (pg_sub ho hk.pe (pset_or set_list (set_dict hu)) (fun v => ?_)) hs hw rfl) fun D σ H q => ?_
  · cases k <;> first | rfl | cases hn
  refine tE_mono (tE_fl q) fun x H1 ⟨env1, S1, ft1, d, R1, r, m1⟩ => ?_
  by_cases hp : preAt i none (fun _ => true) env1 = true
  case neg => rw [if_neg hp] at m1; exact m1.elim
  rw [if_pos hp] at m1
  have hw1 : ∃ w, env1[i]? = some (some w) := by
    unfold preAt at hp
    cases e1 : env1[i]? with
    | none => rw [e1] at hp; cases hp
    | some o => cases o with
      | none => rw [e1] at hp; cases hp
      | some w => exact ⟨w, rfl⟩
  obtain ⟨w1, e1⟩ := hw1
  obtain ⟨v, ev, _⟩ := R1.slot i w1 e1
  refine ⟨v, ev, ?_⟩
  refine tE_mono (Q := fun y H2 => ∃ env2 S2 ft2 kd, Rel X.K g env2 S2 σ H2 ft2 ∧ RD X.K g S2 d x ∧ RD X.K g S2 kd y ∧ AfterS X.K g Wx pr D σ S2 H2 ft2.own (chgAt i none (putI kd d) env2)) ?_ fun y H2 ⟨env2, S2, ft2, kd, R2, r1, r2, m2⟩ => ?_
  · refine ⟨env1, S1, ft1, R1, ?_⟩
    cases e2 : M.e env1 with
    | ok kd env2 => rw [e2] at m1; exact fun y S2 H2 ft2 R2 st2 r2 => ⟨env2, S2, ft2, kd, R2, RD.mono st2.same _ _ r, r2, m1.pre st2 .refl⟩
    | exc x env2 => rw [e2] at m1; exact fun cls dx S' H' ft' R' st rx => m1 cls dx σ S' H' ft' R' st .refl rx
    | bad => rw [e2] at m1; exact m1
  · unfold chgAt at m2
    cases e2 : env2[i]? with
    | none => rw [e2] at m2; exact m2.elim
    | some oo =>
      cases oo with
      | none => rw [e2] at m2; exact m2.elim
      | some w =>
        rw [e2] at m2
        simp only [inField] at m2
        have hi2 : i < env2.length := (List.getElem?_eq_some_iff.mp e2).1
        obtain ⟨v2, ev2, rw2⟩ := R2.slot i w e2
        rw [ev] at ev2
        cases ev2
        cases e3 : putI kd d w with
        | none => rw [e3] at m2; exact m2.elim
        | some w' =>
          rw [e3] at m2
          cases w with
          | oL l =>
            obtain ⟨a, vs, rfl, ef, e4, rs⟩ := id rw2
            cases kd with
            | int j =>
              obtain ⟨⟨h0, h1⟩, rfl⟩ := iteS (show (if 0 ≤ j ∧ j < l.length then some _ else none) = some w' from e3)
              cases (show y = .int j from r2)
              have hl := RDs.length rs
              refine .inl ⟨a, vs, j, j.toNat, rfl, rfl, e4, ?_, ?_⟩
              · unfold ixN
                rw [if_pos h0, if_pos (by omega)]
              · have rN : RW X.K g S2 (upd H2 a (.lst (vs.set j.toNat x))) (.oL (l.set j.toNat d)) (.ref a) (ft2 i) := ⟨a, _, rfl, ef, upd_same, RDs.set _ rs r1⟩
                obtain ⟨R3, st3⟩ := R2.chg hi2 ev (by rw [ef]; exact List.mem_singleton.mpr rfl) rN
                exact m2 σ S2 _ ft2 R3 st3 .refl
            | _ => cases e3
          | oK ks ds =>
            obtain ⟨a, kvs, rfl, ef, e4, ek, rs⟩ := id rw2
            subst ek
            have e3 : (match keyD kd with | some k => if (kvs.map (·.1)).length < lim then some (W.oK (putD k d (kvs.map (·.1)) ds).1 (putD k d (kvs.map (·.1)) ds).2) else none | none => none) = some w' := e3
            cases e5 : keyD kd with
            | none => rw [e5] at e3; cases e3
            | some kk =>
              rw [e5] at e3
              obtain ⟨hz, rfl⟩ := iteS e3
              cases keyD_kV e5 r2
              obtain ⟨q1, q2⟩ := putD_ok (k := kk) r1 rs
              refine .inr ⟨a, _, rfl, DPut.k e4 (by rw [slim]; simpa using hz), ?_⟩
              have rN : RW X.K g S2 (upd H2 a (.dK (putK kvs kk x))) (.oK (putD kk d (kvs.map (·.1)) ds).1 (putD kk d (kvs.map (·.1)) ds).2) (.ref a) (ft2 i) := ⟨a, _, rfl, ef, upd_same, q1, q2⟩
              obtain ⟨R3, st3⟩ := R2.chg hi2 ev (by rw [ef]; exact List.mem_singleton.mpr rfl) rN
              exact m2 σ S2 _ ft2 R3 st3 .refl
          | oT ks ds =>
            obtain ⟨a, kvs, rfl, ef, e4, ek, rs⟩ := id rw2
            subst ek
            cases kd with
            | tup kl =>
              have e3 : (match keysD kl with | some k => if (kvs.map (·.1)).length < lim then some (W.oT (putD k d (kvs.map (·.1)) ds).1 (putD k d (kvs.map (·.1)) ds).2) else none | none => none) = some w' := e3
              cases e5 : keysD kl with
              | none => rw [e5] at e3; cases e3
              | some kk =>
                rw [e5] at e3
                obtain ⟨hz, rfl⟩ := iteS e3
                obtain ⟨b, kvl, rfl, eb, rk⟩ := r2
                cases keysD_kV e5 rk
                obtain ⟨q1, q2⟩ := putD_ok (k := kk) r1 rs
                refine .inr ⟨a, _, rfl, DPut.t e4 (R2.sub _ _ eb) (by rw [slim]; simpa using hz), ?_⟩
                have rN : RW X.K g S2 (upd H2 a (.dT (putK kvs kk x))) (.oT (putD kk d (kvs.map (·.1)) ds).1 (putD kk d (kvs.map (·.1)) ds).2) (.ref a) (ft2 i) := ⟨a, _, rfl, ef, upd_same, q1, q2⟩
                obtain ⟨R3, st3⟩ := R2.chg hi2 ev (by rw [ef]; exact List.mem_singleton.mpr rfl) rN
                exact m2 σ S2 _ ft2 R3 st3 .refl
            | _ => cases e3
          | sh d' => cases e3
          | oI c fs ws => cases e3
          | xn c f d => cases e3
/-- x.append(e), x a name -/
theorem st_app {i : Nat} {x : Str} {px : Pos} (ho : PE X (.Name x px) (tVar i)) (h : Snd X g Wx e E) (hl : (apos.endLine == cpos.line) = true) (hs : swapsWith (.Call (.Attribute (.Name x px) "append" apos) [e] [] cpos) none pos.line X.env = pure false) :
    St X g Wx pr (.Expr (.Call (.Attribute (.Name x px) "append" apos) [e] [] cpos) pos) (fun env => if preAt i none isOL env then (E.e env).fl fun d env1 => chgAt i none (appW d) env1 else .bad) := by
  have hsn : Snds X g Wx [e] [E] := .cons h .nil
  refine PS.imp (ps_expr (pe_bm PySem.F.plainAttrs_list PySem.F.slot_list_append PySem.F.type_list_append mt_append ho (pa_cons h.pe pa_nil (h.ns _ _)) (attributeBase_of rfl) (form_of (pos := cpos) hsn .nil (by show 1 + 0 < 29; decide)) hl (h.ns _ _) rfl) hs) fun D σ H q => ?_
  obtain ⟨env, S, ft, R, m⟩ := tS_iff.mp q
  by_cases hp : preAt i none isOL env = true
  case neg => rw [if_neg hp] at m; exact m.elim
  rw [if_pos hp] at m
  have hw1 : ∃ l, env[i]? = some (some (.oL l)) := by
    unfold preAt at hp
    cases e1 : env[i]? with
    | none => rw [e1] at hp; cases hp
    | some o => cases o with
      | none => rw [e1] at hp; cases hp
      | some w =>
        rw [e1] at hp
        cases w <;> first | exact ⟨_, rfl⟩ | cases hp
  obtain ⟨l0, e1⟩ := hw1
  obtain ⟨v, ev, r0⟩ := R.slot i _ e1
  obtain ⟨a0, vs0, ea, _, e0, _⟩ := id r0
  refine ⟨v, ev, ?_, ?_⟩
  · subst ea; exact .inl ⟨rfl, vs0, SqL.of e0⟩
  refine tE_mono (Q := fun y H2 => ∃ env2 S2 ft2 d, Rel X.K g env2 S2 σ H2 ft2 ∧ RD X.K g S2 d y ∧ AfterS X.K g Wx pr D σ S2 H2 ft2.own (chgAt i none (appW d) env2)) ?_ fun y H2 ⟨env2, S2, ft2, d, R2, r2, m2⟩ => ?_
  · refine ⟨env, S, ft, R, ?_⟩
    cases e2 : E.e env with
    | ok kd env2 => rw [e2] at m; exact fun y S2 H2 ft2 R2 st2 r2 => ⟨env2, S2, ft2, kd, R2, r2, m.pre st2 .refl⟩
    | exc x env2 => rw [e2] at m; exact fun cls dx S' H' ft' R' st rx => m cls dx σ S' H' ft' R' st .refl rx
    | bad => rw [e2] at m; exact m
  · unfold chgAt at m2
    cases e2 : env2[i]? with
    | none => rw [e2] at m2; exact m2.elim
    | some oo =>
      cases oo with
      | none => rw [e2] at m2; exact m2.elim
      | some w =>
        rw [e2] at m2
        simp only [inField] at m2
        have hi2 : i < env2.length := (List.getElem?_eq_some_iff.mp e2).1
        obtain ⟨v2, ev2, rw2⟩ := R2.slot i w e2
        rw [ev] at ev2
        cases ev2
        cases e3 : appW d w with
        | none => rw [e3] at m2; exact m2.elim
        | some w' =>
          rw [e3] at m2
          cases w with
          | oL l =>
            obtain ⟨a, vs, rfl, ef, e4, rs⟩ := id rw2
            obtain ⟨hz, rfl⟩ := iteS (show (if l.length < lim then some (W.oL (l ++ [d])) else none) = some w' from e3)
            have hl := RDs.length rs
            refine ⟨a, vs, y, rfl, rfl, e4, by rw [slim, ← hl]; exact hz, ?_⟩
            have rN : RW X.K g S2 (upd H2 a (.lst (vs ++ [y]))) (.oL (l ++ [d])) (.ref a) (ft2 i) := ⟨a, _, rfl, ef, upd_same, RDs.append rs (.one r2)⟩
            obtain ⟨R3, st3⟩ := R2.chg hi2 ev (by rw [ef]; exact List.mem_singleton.mpr rfl) rN
            exact m2 σ S2 _ ft2 R3 st3 .refl
          | sh d' => cases e3
          | oK ks ds => cases e3
          | oT ks ds => cases e3
          | oI c fs ws => cases e3
          | xn c f d => cases e3

/-- an exception's wish with a lock lifted -/
def WU (X : Cx) (Wx : WX) : WX := fun cls d σ H => Wx cls d σ H ∨ ∃ p od u, H p = some (.frz od u) ∧ (∀ o' u', X.H_0 p ≠ some (.frz o' u')) ∧ Wx cls d σ (upd H p u)
theorem Takes.unl (tk : Takes X Wx) : Takes X (WU X Wx) := fun u s' ⟨a, B, sI, pins, σ, H, cls, d, e, I, nb, up, sky, na, os, ag, w⟩ => by
  rcases w with w | ⟨p, od, v, hp, hn, w⟩
  · exact tk u s' ⟨a, B, sI, pins, σ, H, cls, d, e, I, nb, up, sky, na, os, ag, w⟩
  · refine tk u s' ⟨a, B, sI, pins, σ, _, cls, d, e, I.unlock hp hn, nb, up, sky, ?_, os, ag, w⟩
    rw [upd_ne (fun z => by rw [z, hp] at na; cases na)]; exact na
theorem pss_ex {α : Type} {body : List Stmt} {t : α → TS} (h : ∀ a, PSs X body (t a)) : PSs X body (fun D σ H => ∃ a, t a D σ H) := ⟨fun pins s σ H D I ⟨a, q⟩ => (h a).run pins s σ H D I q⟩
/-- a lent content goes back behind a loop -/
theorem Rel.unlend {K : PySem.W.Frag} {env1 env2 : Env} {S0 H0 S3 H3 : Hp} {σ σ2 : L2.St} {ft1 ftc : Ft} {l : List Addr} {o : Option (Nat × W)} {A : Addr → Prop} (R3 : Rel K g env2 S3 σ2 H3 ftc) (lr : LentR K g o l env1 S0 σ H0) (hA : ∀ a, A a → ¬ ft1.own a)
    (hlA : ∀ a ∈ l, A a) (st : Step S0 H0 ft1.own S3 H3 ftc.own) (hA3 : ∀ a, A a → H3 a = H0 a) (hk : ∀ j, lentAt o j = true → σ2[j]? = σ[j]?) : ∃ ft', Rel K g (Rf.unlend env2 o) S3 σ2 H3 ft' ∧ ∀ a, ft'.own a → ftc.own a ∨ a ∈ l := by
  cases o with
  | none => exact ⟨ftc, R3, fun a h => .inl h⟩
  | some p =>
    obtain ⟨i, w⟩ := p
    obtain ⟨hi, v, ev, r, nd, out⟩ := lr
    have there := RW.there w v l r
    have r3 : RW K g S3 H3 w v l := RW.move st.same w v l (fun a ha => hA3 a (hlA a ha)) r
    have no : ∀ a ∈ l, ¬ ftc.own a := fun a ha hc => by
      obtain ⟨u, e⟩ := there a ha
      rcases st.own a hc with z | z
      · exact hA a (hlA a ha) z
      · rw [e] at z; cases z
    have out3 : ∀ a ∈ l, S3 a = none := fun a ha => by
      obtain ⟨u, e⟩ := there a ha
      cases q : S3 a with
      | none => rfl
      | some u' =>
        rcases st.grow a u' q with z | z | z
        · rw [out a ha] at z; cases z
        · rw [e] at z; cases z
        · exact absurd z (hA a (hlA a ha))
    have ev2 : σ2[i]? = some (some v) := by rw [hk i (by simp [lentAt]), ev]
    have hσ : σ2.set i (some v) = σ2 := by
      apply List.ext_getElem?
      intro j
      by_cases q : i = j
      · subst q
        have hi' : i < σ2.length := (List.getElem?_eq_some_iff.mp ev2).1
        rw [List.getElem?_set_self hi', ev2]
      · rw [List.getElem?_set_ne q]
    have hi2 : i < env2.length := by rw [R3.len]; exact (List.getElem?_eq_some_iff.mp ev2).1
    have R5 := R3.store hi2 r3 nd (fun j a _ ha hb => no a ha ⟨j, hb⟩) out3
    rw [hσ] at R5
    refine ⟨_, R5, fun a ⟨j, hj⟩ => ?_⟩
    by_cases q : j = i
    · subst q; rw [Ft.put_self] at hj; exact .inr hj
    · rw [Ft.put_ne q] at hj; exact .inl ⟨j, hj⟩
theorem forLoop_cons {t : CT} {b : ES} {d : Rf.D} {ds : List Rf.D} {env : Env} : forLoop t b (d :: ds) env = match t.asg d env with
    | none => .bad
    | some env1 => match b env1 with
      | .nx env2 => forLoop t b ds env2
      | .ct env2 => forLoop t b ds env2
      | .bk env2 => .nx env2
      | r => r := rfl
theorem st_for {tgx iter : Expr} {body : List Stmt} {t : CT} {kk : IK} {Is : List Ev} {fb : (Nat → Bool) → ES} (tk : Takes X Wx) (hp : PassesOwn (model X.prog X.w) X.A X.env X.xe) (hN : X.N.Nodup) (hc : X.calm = true) (hi : PI X tgx iter (tIt X g Wx (runI kk Is))) (ht : Tg X tgx t)
    (hb : ∀ Wx' pr', Takes X Wx' → Sts X g Wx' pr' body (fb pr')) (hs : ∀ x, foldedSetIterable iter X.env x = pure x) :
    St X g Wx pr (.For tgx iter body [] pos) (fun env => (runI kk Is env).fl fun s env1 => if t.names.any (fun j => pr j || lentAt s.2 j) then .bad else (forLoop t (fb fun j => pr j || lentAt s.2 j) s.1 env1).un s.2) := by
  refine PS.imp (ps_unl (ps_for hp hc hi (ht.pg hN hc) (pss_ex fun pr' => hb (WU X Wx) pr' (Takes.unl tk)) hs)) fun D σ H q => ?_
  obtain ⟨env, S, ft, R, m⟩ := tS_iff.mp q
  refine ⟨env, S, ft, R, ?_⟩
  cases e1 : runI kk Is env with
  | bad => rw [e1] at m; exact m
  | exc x env1 => rw [e1] at m; exact fun cls dx S' H' ft' R' st rx => m cls dx σ S' H' ft' R' st .refl rx
  | ok s env1 =>
    rw [e1] at m
    simp only [Rf.R.fl] at m
    intro S0 H0 ft1 l A J H1 R1 st0 hA hlA lr hlen ⟨S1, F, wk, hF1, hn1, hs1, hrel, hfin⟩
    by_cases hpr : t.names.any (fun j => pr j || lentAt s.2 j) = true
    · rw [if_pos hpr] at m; exact m.elim
    rw [if_neg hpr] at m
    have hpr : t.names.any (fun j => pr j || lentAt s.2 j) = false := by simpa using hpr
    generalize hpp : (fun j => pr j || lentAt s.2 j) = pp at m hpr
    have hp1 : ∀ j, pr j = true → pp j = true := fun j h => by rw [← hpp]; simp [h]
    have hp2 : ∀ j, lentAt s.2 j = true → pp j = true := fun j h => by rw [← hpp]; simp [h]
    have R1' := hrel env1 σ ft1 R1 hA
    have kpr : ∀ {σ1 σ2 : L2.St}, Kp pp σ1 σ2 → Kp pr σ1 σ2 := fun k j h => k j (hp1 j h)
    -- the end of the walk, from a state within it
    have fin : ∀ {envc : Env} {Sc Hc : Hp} {ftc : Ft} {σc : L2.St}, Rel X.K g envc Sc σc Hc ftc → Step S1 H1 ft1.own Sc Hc ftc.own → (∀ i, lentAt s.2 i = true → σc[i]? = σ[i]?) → ∃ S3 H3 ft3, (H3 = Hc ∨ ∃ d od u, Hc d = some (.frz od u) ∧ (∀ o' u', X.H_0 d ≠ some (.frz o' u')) ∧ H3 = upd Hc d u) ∧
        Rel X.K g (Rf.unlend envc s.2) S3 σc H3 ft3 ∧ Step S H ft.own S3 H3 ft3.own ∧ ∀ x cls dx, RX X.K g Sc x cls dx → RX X.K g S3 x cls dx := fun {envc Sc Hc ftc σc} Rc stc hlk => by
      obtain ⟨S3, H3, hH3, st3, hA3, sm3, ex3, hO3, hrel3⟩ := hfin Sc Hc _ _ Rc.sub stc hA (wk.mono hF1 stc hA)
      have R3 := hrel3 _ _ ftc Rc fun a ha => ha
      obtain ⟨ft6, R6, ho6⟩ := R3.unlend lr hA hlA st3 hA3 hlk
      refine ⟨S3, H3, ft6, hH3, R6, st0.trans (((st3.frame fun a => a ∈ l)).post ho6), fun x cls dx rx => ?_⟩
      cases x with
      | ins c fs ds =>
        obtain ⟨h1, d, vs, h2, h3, h4, h5⟩ := rx
        exact ⟨h1, d, vs, h2, ex3 d _ h3 rfl, RDs.mono sm3 _ _ h4, h5⟩
      | _ => exact rx.elim
    have toD : ∀ {P : Hp → Prop} {H3 Hc : Hp}, (H3 = Hc ∨ ∃ d od u, Hc d = some (.frz od u) ∧ (∀ o' u', X.H_0 d ≠ some (.frz o' u')) ∧ H3 = upd Hc d u) → P H3 → P Hc ∨ ∃ d od u, Hc d = some (.frz od u) ∧ (∀ o' u', X.H_0 d ≠ some (.frz o' u')) ∧ P (upd Hc d u) := fun {P H3 Hc} h p => by
      rcases h with rfl | ⟨d, od, u, e, hn, rfl⟩
      · exact .inl p
      · exact .inr ⟨d, od, u, e, hn, p⟩
    refine ⟨fun i mm σc Hc => ∃ envc Sc ftc, mm = s.1.length - i ∧ i ≤ s.1.length ∧ Rel X.K g envc Sc σc Hc ftc ∧ Step S1 H1 ft1.own Sc Hc ftc.own ∧ Kp pp σ σc ∧ forLoop t (fb pp) s.1 env1 = forLoop t (fb pp) (s.1.drop i) envc,
      ⟨s.1.length, env1, S1, ft1, by simp, Nat.zero_le _, R1', .refl, .refl, by rw [List.drop_zero]⟩, ?_⟩
    rintro i mm σc Hc ⟨envc, Sc, ftc, rfl, hi, Rc, stc, kc, heq⟩
    have hFc : F Sc Hc := wk.mono hF1 stc hA
    by_cases hlt : i < s.1.length
    · obtain ⟨d, hd⟩ : ∃ d, s.1[i]? = some d := ⟨s.1[i], List.getElem?_eq_getElem hlt⟩
      have hdrop : s.1.drop i = d :: s.1.drop (i + 1) := by
        obtain ⟨h1, h2⟩ := List.getElem?_eq_some_iff.mp hd
        rw [List.drop_eq_getElem_cons h1, h2]
      obtain ⟨hgo, hyl⟩ := wk.go Rc.sub hFc i d hd
      refine .inr ⟨hgo, fun σ' H' => ∃ envc Sc ftc, s.1.length - (i + 1) = s.1.length - (i + 1) ∧ i + 1 ≤ s.1.length ∧ Rel X.K g envc Sc σ' H' ftc ∧ Step S1 H1 ft1.own Sc H' ftc.own ∧ Kp pp σ σ' ∧ forLoop t (fb pp) s.1 env1 = forLoop t (fb pp) (s.1.drop (i + 1)) envc,
        fun σ' H' hN => ⟨s.1.length - (i + 1), by omega, hN⟩, fun x H' hy => ?_⟩
      obtain ⟨S', r, sm, hh, sub', gr⟩ := hyl x H' hy
      have R2 := Rc.grow sm hh sub' gr
      have st2 : Step S1 H1 ft1.own S' H' ftc.own := stc.trans (Step.grow' sm hh gr)
      rw [hdrop, forLoop_cons] at heq
      cases e2 : t.asg d envc with
      | none =>
        simp only [e2] at heq
        rw [heq] at m
        exact m.elim
      | some envA =>
        simp only [e2] at heq
        refine asg_ok t d envc envA e2 x σc ftc _ R2 r fun σ2 ft2 R3 ho2 k2 => ?_
        have k2 : Kp pp σ σ2 := kc.trans (Kp.off k2 hpr)
        have st3 : Step S1 H1 ft1.own S' H' ft2.own := st2.post ho2
        refine ⟨pp, tS_iff.mpr ⟨envA, S', ft2, R3, ?_⟩⟩
        cases e3 : fb pp envA with
        | nx env2 =>
          simp only [e3] at heq
          exact fun σ' S'' H'' ft'' R'' st k => ⟨env2, S'', ft'', rfl, hlt, R'', st3.trans st, k2.trans k, heq⟩
        | ct env2 =>
          simp only [e3] at heq
          exact fun σ' S'' H'' ft'' R'' st k => ⟨env2, S'', ft'', rfl, hlt, R'', st3.trans st, k2.trans k, heq⟩
        | bk env2 =>
          simp only [e3] at heq
          rw [heq] at m
          intro σ' S'' H'' ft'' R'' st k
          obtain ⟨S3, H3, ft3, hH, R6, st6, _⟩ := fin R'' (st3.trans st) fun i hi => (k2.trans k) i (hp2 i hi)
          exact toD (P := fun H => D.nx σ' H) hH (m σ' S3 H3 ft3 R6 st6 (kpr (k2.trans k)))
        | rt w env2 =>
          simp only [e3] at heq
          rw [heq] at m
          intro v σ' S'' H'' ft'' R'' st k
          have hl2 : env2.length = σ'.length := by have := R''.len; simpa using this
          have hin : ∀ i, lentAt s.2 i = true → i < σ'.length := fun i hi => by
            cases hq : s.2 with
            | none => rw [hq] at hi; cases hi
            | some p =>
              obtain ⟨j, w0⟩ := p
              rw [hq] at hi lr
              obtain ⟨_, v0, ev0, _⟩ := lr
              have hij : j = i := by simpa [lentAt] using hi
              subst hij
              have := (k2.trans k) j (hp2 j (by rw [hq]; exact hi))
              rw [ev0] at this
              exact (List.getElem?_eq_some_iff.mp this).1
          obtain ⟨S3, H3, ft3, hH, R6, st6, _⟩ := fin R'' (st3.trans st) fun i hi => by
            rw [List.getElem?_append_left (hin i hi)]
            exact (k2.trans k) i (hp2 i hi)
          have hun : Rf.unlend (env2 ++ [some w]) s.2 = Rf.unlend env2 s.2 ++ [some w] := by
            cases hq : s.2 with
            | none => rfl
            | some p =>
              obtain ⟨j, w0⟩ := p
              have := hin j (by rw [hq]; simp [lentAt])
              show (env2 ++ [some w]).set j (some w0) = env2.set j (some w0) ++ [some w]
              rw [List.set_append_left _ _ (by omega)]
          rw [hun] at R6
          exact toD (P := fun H => D.rt v H) hH (m v σ' S3 H3 ft3 R6 st6 (kpr (k2.trans k)))
        | exc x0 env2 =>
          simp only [e3] at heq
          rw [heq] at m
          intro cls dx σ' S'' H'' ft'' R'' st k rx
          obtain ⟨S3, H3, ft3, hH, R6, st6, hx⟩ := fin R'' (st3.trans st) fun i hi => (k2.trans k) i (hp2 i hi)
          exact toD (P := fun H => Wx cls dx σ' H) hH (m cls dx σ' S3 H3 ft3 R6 st6 (kpr (k2.trans k)) (hx _ _ _ rx))
        | bad =>
          simp only [e3] at heq
          rw [heq] at m
          exact m.elim
    · have hie : i = s.1.length := by omega
      subst hie
      rw [List.drop_length] at heq
      simp only [forLoop] at heq
      rw [heq] at m
      obtain ⟨S3, H3, ft3, hH, R6, st6, _⟩ := fin Rc stc fun i hi => kc i (hp2 i hi)
      exact .inl ⟨wk.stop Rc.sub hFc _ (Nat.le_refl _), toD (P := fun H => D.nx σc H) hH (m σc S3 H3 ft3 R6 st6 (kpr kc))⟩
end
end Rf

namespace Rf
open PySem PySem.Calls PyProof.Rows Builtin PySem.W
section
variable {prog : Program} {w : World} {A : Around} {E : Value → Shared → Prop} {s : Shared} {K : Frag} {x C L f : Addr} {h₀ : Heap} {m : Str → Option Value} {ox : Obj} {od : Option Obj} {b tb : Value}
/-- x != b where x's class has its own == and object's != -/
theorem ne_by_eq {Q : Value → Shared → Prop} (hu : A.units + 1 < cLine) (X : K.In s.heap) (I : InstAt s.heap x ox C od) (hb : Looks (model prog w) s.heap (typeOf b) tb) (hn : notFirst K C tb = true) (hs : findIn K (.ref C) "__eq__" = some (some (.ref f))) (hf : isFn K (.ref f) = true)
    (hne : findIn K (.ref C) "__ne__" = some (some (.builtin "object.__ne__"))) (hob : subIn K (.ref C) (.type "object") = some true)
    (h : wpAny (model prog w) A.in1 (call (.ref f) [.ref x, b]) (fun v s' => ∃ k, v = .bool k ∧ Q (.bool (!k)) s') E s) : wpAny (model prog w) A (richCompare .NotEq (.ref x) b) Q E s := by
  -- what object's own != answers
  have body : wpAny (model prog w) A.in1 (Builtin.«object.__ne__» ⟨[.ref x, b], []⟩) (fun r s' => ∃ k, r = .done (.ret (.bool (!k))) ∧ Q (.bool (!k)) s') E s := by
    unfold Builtin.«object.__ne__»
    have hu1 : A.in1.units < cLine := hu
    have e1 : slotArgs "__ne__" 1 { pos := [.ref x, b] } = pure (.ref x, [b]) := by unfold slotArgs; rfl
    rw [e1]
    with_reducible refine wpAny_bind ?_
    with_reducible refine wpAny_pure ?_
    dsimp only
    refine wpAny_bind (wpAny_cRoomFor hu1 ?_)
    have eq1 : wpAny (model prog w) A.in1 (callSpecialIfBound? (.ref x) (Str.ofString "__eq__") [b]) (fun r s' => ∃ k, r = some (Value.bool k) ∧ Q (.bool (!k)) s') E s :=
      ifBound_K X I hs hf (wpAny_mono h (fun v s' ⟨k, e, q⟩ => ⟨k, by rw [e], q⟩) fun _ _ e => e)
    with_reducible refine wpAny_bind ?_
    refine wpAny_mono eq1 (fun v s' hv => ?_) fun _ _ e => e
    obtain ⟨k, rfl, q⟩ := hv
    dsimp only
    refine wpAny_bind (m := truthy (.bool k)) (wpAny_truthy_bool ?_)
    exact wpAny_pure ⟨k, rfl, q⟩
  have sub : Looks (model prog w) s.heap (isInstance (.ref x) (.type "object")) true := I.type.andThen (looks_subIn X hob)
  have called : wpAny (model prog w) A (call (.builtin "object.__ne__") [.ref x, b]) (fun r s' => ∃ k, r = .bool (!k) ∧ Q (.bool (!k)) s') E s := by
    have chk : wpAny (model prog w) A.in1 (checkBuiltinCall "object.__ne__" ⟨[.ref x, b], []⟩) (fun _ s1 => s1 = s) E s :=
      @W.check_slot (model prog w) _ _ s "object.__ne__" "object" "__ne__" (.ref x) [b] [] _ F.cmpKind_ne F.cmpSplit_ne sub (F.cmpArgs_ne (.ref x) b) rfl
    refine wpAny_call (codeAny_call_builtin (b := Builtin.«object.__ne__») F.cmp_object.ne.plain F.cmpEntry_ne (wpAny_mono chk (fun _ s1 e1 => ?_) fun _ _ e => e))
    subst e1
    refine wpAny_mono body (fun r s' z => ?_) fun _ _ e => e
    obtain ⟨k, rfl, q⟩ := z
    exact ⟨k, rfl, q⟩
  have one : wpAny (model prog w) A (tryCompare (.ref x) "__ne__" b) (fun r s' => ∃ v, r = some v ∧ Q v s') E s := by
    unfold tryCompare
    simp only [callSpecialIfBound?, bindSpecialIfBound?]
    have fin : wpAny (model prog w) A (call (.builtin "object.__ne__") ([.ref x] ++ [b]) >>= fun v => pure (some v)) (fun r s' => ∃ k, r = some (Value.bool (!k)) ∧ Q (.bool (!k)) s') E s :=
      wpAny_bind (wpAny_mono called (fun v s' ⟨k, e, q⟩ => wpAny_pure ⟨k, by rw [e], q⟩) fun _ _ e => e)
    refine wpAny_bind (wpAny_holding (wpAny_bind (wpAny_bind (wpAny_bind (I.type.here ((looks_findIn X hne).here ?_))))))
    refine wpAny_bind (wpAny_askSetting (wpAny_ite ?_))
    have bd : bindSpecial (.builtin "object.__ne__") (.ref x) = pure (.builtin "object.__ne__", [.ref x]) := F.cmp_object.ne.bind (.ref x)
    have out : ∀ {r : Option Value} {s' : Shared}, (∃ k, r = some (Value.bool (!k)) ∧ Q (.bool (!k)) s') → wpAny (model prog w) A (match r with | some .notImplemented => pure none | none => pure none | some r => pure (some r)) (fun r s' => ∃ v, r = some v ∧ Q v s') E s' := fun {r s'} ⟨k, e, q⟩ => by
      subst e; exact wpAny_pure ⟨_, rfl, q⟩
    rw [bd]
    split
    · exact wpAny_bind (wpAny_pure (wpAny_pure (by exact wpAny_mono fin (fun r s' z => out z) fun _ _ e => e)))
    · exact wpAny_tryCatch (wpAny_bind (wpAny_pure (wpAny_pure (by exact wpAny_mono fin (fun r s' z => out z) fun _ _ e => e))))
  unfold richCompare
  simp only [oneThing_ref]
  refine wpAny_holding (wpAny_bind (wpAny_cRoomFor (Nat.lt_of_succ_lt hu) ?_))
  refine wpAny_bind (I.type.here (wpAny_bind (hb.here ?_)))
  split
  · rename_i q
    have e : subIn K tb (.ref C) = some false := (Bool.or_eq_true_iff.mp hn).elim (fun e => absurd q (by rw [beq_iff_eq.mp e]; simp)) fun e => beq_iff_eq.mp e
    refine wpAny_bind ((looks_subIn X e).here ?_)
    simp only [Bool.false_eq_true, if_false]
    exact wpAny_bind (wpAny_mono one (fun r s' ⟨v, e, hq⟩ => by subst e; exact wpAny_pure hq) fun _ _ e => e)
  · refine wpAny_bind (wpAny_pure ?_)
    simp only [Bool.false_eq_true, if_false]
    exact wpAny_bind (wpAny_mono one (fun r s' ⟨v, e, hq⟩ => by subst e; exact wpAny_pure hq) fun _ _ e => e)
end
end Rf

namespace Rf
open PySem L2 PyProof.Rows
open PySem.W (Looks InstAt)

/-- a special method of an own class -/
structure Spc (K : PySem.W.Frag) (g : G) (c f : Nat) (m : Str) : Prop where
  at_ : PySem.W.findIn K (.ref (g.ca c)) m = some (some (.ref (g.fa f)))
  fn : PySem.W.isFn K (.ref (g.fa f)) = true

section
variable {X : Cx} {g : G} {Wx : WX} {P : Prg} {n i c : Nat} {fi : FI} {pins : List (Addr × Obj)} {σ : L2.St} {H S : Hp} {s : Shared} {Q : VK} {env : Env} {ft : Ft}

/-- a def is called where the interpreter calls it -/
theorem run_at {A : Around} {fd : FuncData} {sg : Sig} {dv : List (Option V)} {sp : Sp} {k : Nat} {fa : Addr} {us : List Value} {vs av : List V} {E : XK} (F : FnG X.prog X.w X.K X.mg X.base (CX X.prog X.w) k fa fd sg.ps sp) (hr : Rm k A) (he : Env0 X.prog X.w X.K X.mg X.base A X.stack s H) (B : Bnd X.K g fd sg dv)
    (hx : ∀ e s', CX X.prog X.w X.stack H s E e s' → X.xe e s') (I : L2.Inv X pins σ H s) (r : Vals vs us) (ha : arr ([] : List (Str × V)) sg.ps dv vs = some av) (h : sp av H Q E) :
    wpAny (model X.prog X.w) A (call (.ref fa) us) (EP X pins σ Q) X.xe s := by
  obtain ⟨au, hb, r2⟩ := B.to (ks := []) (zs := []) (ws := []) r .nil (by unfold kwOk; simp) rfl ha I.kIn
  refine wpAny_call (codeAny_mono (F.run A X.stack s H ⟨us, ([] : List Str).zip ([] : List Value)⟩ au av Q E hr he hb r2 h) fun res s' hq => ?_)
  match res, hq with
  | .error e, hq => exact hx e s' hq
  | .ok (.ret u), hq => exact I.after hq
  | .ok .next, hq => exact hq.elim
  | .ok .brk, hq => exact hq.elim
  | .ok .cont, hq => exact hq.elim
/-- what is wanted behind a special method's call -/
def AfterC (K : PySem.W.Frag) (g : G) (Wx : WX) (σ : L2.St) (S H : Hp) (O : Addr → Prop) (env : Env) (Q : VK) (o : Out) : Prop := After K g Wx σ S H O Q (finish [] env o)
theorem spc_run {A : Around} (tk : Takes X Wx) (DO : DefOk X g P n i fi) (hr : Rm (4 * n) A) (he : Env0 X.prog X.w X.K X.mg X.base A X.stack s H) (I : L2.Inv X pins σ H s) (R : Rel X.K g env S σ H ft) {ds : List D} {vs : List V} {us : List Value} (rd : RDs X.K g S ds vs) (r : Vals vs us)
    (ha : fi.sig.ps.length = ds.length) (m : AfterC X.K g Wx σ S H ft.own env Q (callF P n i (ds.map W.sh))) : wpAny (model X.prog X.w) A (call (.ref (g.fa i)) us) (EP X pins σ Q) X.xe s := by
  obtain ⟨fd, dv, F, B⟩ := DO.ex
  have hl := RDs.length rd
  have harr : ∀ {ps : List Str} {dv : List (Option V)} {vs : List V}, ps.length = vs.length → arr ([] : List (Str × V)) ps dv vs = some vs := by
    intro ps
    induction ps with
    | nil => intro dv vs h; cases vs with
      | nil => simp [arr]
      | cons _ _ => simp at h
    | cons p ps ih => intro dv vs h; cases vs with
      | nil => simp at h
      | cons v vs => simp only [arr, ih (dv := dv.tail) (vs := vs) (by simpa using h)]; rfl
  refine run_at (E := fun cls dx H' => Wx cls dx σ H') F hr he B (fun e s' cx => tk e s' (XE.of_call I (fun cls d H' hE => hE) cx)) I r (harr (by omega)) ?_
  refine sp_of (bs := []) (vs := []) (l := []) DO.at_ R (RWs.sh rd) List.nodup_nil (fun a ha => by cases ha) ⟨vs, rfl⟩ .nil ?_
  have e : (fun a => ft.own a ∨ a ∈ ([] : List Addr)) = ft.own := by funext a; simp
  rw [e]
  exact m
/-- an evaluation, then more -/
theorem After.bind {F : W → Env → Rf.R W} {O : Addr → Prop} {r : Rf.R W} (m : After X.K g Wx σ S H O Q (r.bind F)) :
    After X.K g Wx σ S H O (fun v H' => ∃ w env' S' ft', Rel X.K g (env' ++ [some w]) S' (σ ++ [some v]) H' ft' ∧ After X.K g Wx σ S' H' ft'.own Q (F w env')) r := by
  cases r with
  | ok w env' => exact fun v S' H' ft' R' st => ⟨w, env', S', ft', R', After.pre (show After X.K g Wx σ S H O Q (F w env') from m) st⟩
  | exc x env' => exact m
  | bad => exact m
theorem After.ok_sh {env' : Env} {w : W} {d : D} {v v' : V} {S' H' : Hp} {ft' : Ft} (R' : Rel X.K g (env' ++ [some w]) S' (σ ++ [some v]) H' ft') (rd : RD X.K g S' d v') (m : After X.K g Wx σ S' H' ft'.own Q (.ok (.sh d) env')) : Q v' H' := by
  obtain ⟨ft1, R1, h1⟩ := R'.dropF
  obtain ⟨ft2, R2, h2⟩ := R1.pushSh rd
  exact m v' S' H' ft2 R2 (Step.refl.post fun a ha => h1 a (h2 a ha))

/-- the kinds that an own == is asked of -/
def eqTys : List String := ["NoneType", "bool", "int", "str", "list", "tuple", "dict"]
/-- what the text must say of a class with an own == -/
structure EqOk (K : PySem.W.Frag) (g : G) (P : Prg) (c : Nat) : Prop where
  ty : ∀ T ∈ eqTys, PySem.W.notFirst K (g.ca c) (.type T) = true
  own : ∀ c' f, P.meth c' "__eq__" = some f → PySem.W.notFirst K (g.ca c) (.ref (g.ca c')) = true
  ne : PySem.W.findIn K (.ref (g.ca c)) "__ne__" = some (some (.builtin "object.__ne__"))
  obj : PySem.W.subIn K (.ref (g.ca c)) (.type "object") = some true
theorem look_at {M : Model} {h : Heap} {a : Addr} {o : Obj} {T : Value} (ho : h.get? a = some o) (hc : o.cls = T) : Looks M h (typeOf (.ref a)) T := fun A Q E s k q => wpAny_typeOf_ref (k _ _ ho) (by rw [hc]; exact q)
theorem ty_looks (I : L2.Inv X pins σ H s) (sub : ∀ a o, S a = some o → H a = some o) {d : D} {v : V} {u : Value} {c : Nat} (E : EqOk X.K g P c) (he : eqTy P.gam d = true) (pd : PD X.K g S H d v) (ru : RelV v u) :
    ∃ T, Looks (model X.prog X.w) s.heap (typeOf u) T ∧ PySem.W.notFirst X.K (g.ca c) T = true := by
  cases d with
  | non => cases (show v = .non from pd); cases (show u = .none from ru); exact ⟨_, Looks.of_pure rfl, E.ty "NoneType" (by decide)⟩
  | bl b => cases (show v = .bl b from pd); cases (show u = .bool b from ru); exact ⟨_, Looks.of_pure rfl, E.ty "bool" (by decide)⟩
  | int j => cases (show v = .int j from pd); obtain ⟨t, rfl⟩ := (show ∃ t, u = Value.int j t from ru); exact ⟨_, Looks.of_pure rfl, E.ty "int" (by decide)⟩
  | str z => cases (show v = .str z from pd); obtain ⟨t, rfl⟩ := (show ∃ t, u = Value.str z t from ru); exact ⟨_, Looks.of_pure rfl, E.ty "str" (by decide)⟩
  | lst l =>
    obtain ⟨a, vs, rfl, e, r⟩ := pd
    cases ru
    obtain ⟨its, rv, p, hz⟩ := I.list (SqL.of e)
    obtain ⟨o, n', ho, hc, hd, hs⟩ := p
    exact ⟨_, look_at ho hc, E.ty "list" (by decide)⟩
  | tup l =>
    obtain ⟨a, vs, rfl, e, r⟩ := pd
    cases ru
    obtain ⟨its, rv, p, hz⟩ := I.tuple (SqT.of (sub _ _ e))
    obtain ⟨o, ho, hc, hd⟩ := p
    exact ⟨_, look_at ho hc, E.ty "tuple" (by decide)⟩
  | dK ks ds =>
    obtain ⟨a, kvs, rfl, e, ek, r⟩ := pd
    cases ru
    obtain ⟨_, _, vs, kv, o, es, ep, ho, hx, hdt, rr⟩ := (show ObjOk X.prog X.w H s.heap a (.dK kvs) from e.ok I.hok)
    exact ⟨_, look_at ho hx.1, E.ty "dict" (by decide)⟩
  | ins c' fs ds =>
    obtain ⟨a, dx, us, rfl, e, r, l, k⟩ := pd
    cases ru
    obtain ⟨mA, J, _⟩ := ins_get I.hok (sub _ _ e)
    obtain ⟨od, J, _⟩ := J.look
    obtain ⟨f, hf⟩ := Option.isSome_iff_exists.mp (show (P.meth c' "__eq__").isSome = true from he)
    exact ⟨_, J.type, E.own c' f hf⟩
  | _ => cases he

/-- own classes' operations -/
structure OwnOk (X : Cx) (g : G) (P : Prg) (n : Nat) : Prop where
  me : ∀ c m f, P.meth c m = some f → ∃ fi, DefOk X g P n f fi ∧ Meth X.K (g.ca c) m (g.fa f)
  eq : ∀ c f, P.meth c "__eq__" = some f → EqOk X.K g P c ∧ ∀ fi, P.fn f = some fi → fi.sig.ps.length = 2
  ct : ∀ c f, P.meth c "__contains__" = some f → ∀ fi, P.fn f = some fi → fi.sig.ps.length = 2
  gi : ∀ c f, P.meth c "__getitem__" = some f → ∀ fi, P.fn f = some fi → fi.sig.ps.length = 2
  ln : ∀ c f, P.meth c "__len__" = some f → ∀ fi, P.fn f = some fi → fi.sig.ps.length = 1
theorem own_at (I : L2.Inv X pins σ H s) {a : Addr} {C dx : Addr} {fs : List (Str × V)} (e : H a = some (.ins C dx fs)) : ∃ ox od, InstAt s.heap a ox C od := by
  obtain ⟨mA, J, _⟩ := ins_get I.hok e
  obtain ⟨od, J, _⟩ := J.look
  exact ⟨_, _, J⟩
theorem own_run (O : OwnOk X g P n) (tk : Takes X Wx) {A : Around} (hr : Rm (4 * n) A) (he : Env0 X.prog X.w X.K X.mg X.base A X.stack s H) (I : L2.Inv X pins σ H s) (R : Rel X.K g env S σ H ft) {c f : Nat} {m : Str} {F : W → Env → Rf.R W} {ds : List D} {vs : List V} {us : List Value} (hf : P.meth c m = some f) (hps : ∀ fi, P.fn f = some fi → fi.sig.ps.length = ds.length)
    (rd : RDs X.K g S ds vs) (r : Vals vs us) (mm : After X.K g Wx σ S H ft.own Q ((finish [] env (callF P n f (ds.map W.sh))).bind F)) {Q' : Value → Shared → Prop}
    (hq : ∀ v u s' H' w env' S' ft', L2.Inv X pins σ H' s' → RelV v u → Rel X.K g (env' ++ [some w]) S' (σ ++ [some v]) H' ft' → After X.K g Wx σ S' H' ft'.own Q (F w env') → Q' u s') :
    wpAny (model X.prog X.w) A (call (.ref (g.fa f)) us) Q' X.xe s := by
  obtain ⟨fi, DO, ME⟩ := O.me c m f hf
  refine wpAny_mono (spc_run tk DO hr he I R rd r (hps fi DO.at_) (After.bind mm)) (fun u s' q => ?_) fun _ _ z => z
  obtain ⟨v, H', I', rv, w, env', S', ft', R', a⟩ := q
  exact hq v u s' H' w env' S' ft' I' rv R' a
theorem rd_two {a b : D} {x y : V} (h : RD X.K g S a x) (k : RD X.K g S b y) : RDs X.K g S [a, b] [x, y] := .cons h (.one k)
theorem own_eq (O : OwnOk X g P n) (hr : Rm (4 * n + 1) X.A) (tk : Takes X Wx) : OpS X g Wx P.gam (callF P n) .eq true (compareOp .Eq) := by
  intro pins s σ H x y v u Q env S ft a b hw rd I rx ry R ha hb m
  cases a with
  | ins c fs vs =>
    obtain ⟨ra, rb⟩ := rd rfl
    simp only [evOp] at m
    cases hf : P.gam.meth c "__eq__" with
    | none => rw [hf] at m; exact m.elim
    | some f =>
      rw [hf] at m
      simp only at m
      obtain ⟨fi, DO, ME⟩ := O.me c _ f hf
      obtain ⟨E, hps⟩ := O.eq c f hf
      by_cases he : eqTy P.gam b = true
      case neg => rw [if_neg he] at m; exact m.elim
      rw [if_pos he] at m
      obtain ⟨p, dx, us, rfl, e1, e2, e3, e4⟩ := id ha
      cases rx
      obtain ⟨T, hT, hn⟩ := ty_looks I R.sub E he hb ry
      obtain ⟨ox, od, J⟩ := own_at I (R.sub _ _ e1)
      obtain ⟨mm, hF⟩ := I.fr
      show wpAny (model X.prog X.w) X.A (richCompare .Eq (.ref p) u) _ _ _
      refine PySem.W.cmp_K (op := .Eq) hr.rm.units0 hF I.ok.mod.kin J hT hn ME.at_ ME.fn ?_
      refine own_run (ds := [.ins c fs vs, b]) O tk (hr.mono (by omega)) I.env0 I R hf hps (rd_two ra rb) (.cons rfl (.cons ry .nil)) m fun v' u' s' H' w env' S' ft' I' rv R' am => ?_
      match w, am with
      | .sh (.bl k), am =>
        obtain ⟨z, ez, rz⟩ := R'.last
        cases ez
        cases (show v' = .bl k from rz.2)
        cases (show u' = .bool k from rv)
        exact ⟨.bl k, H', I', rfl, After.ok_sh R' (d := .bl k) rfl am⟩
  | _ => exact absurd (hw rfl) (by simp [ownOp, D.isIns])
theorem own_ne (O : OwnOk X g P n) (hr : Rm (4 * n + 1) X.A) (tk : Takes X Wx) : OpS X g Wx P.gam (callF P n) .ne true (compareOp .NotEq) := by
  intro pins s σ H x y v u Q env S ft a b hw rd I rx ry R ha hb m
  cases a with
  | ins c fs vs =>
    obtain ⟨ra, rb⟩ := rd rfl
    simp only [evOp] at m
    cases hf : P.gam.meth c "__eq__" with
    | none => rw [hf] at m; exact m.elim
    | some f =>
      rw [hf] at m
      simp only at m
      obtain ⟨fi, DO, ME⟩ := O.me c _ f hf
      obtain ⟨E, hps⟩ := O.eq c f hf
      by_cases he : eqTy P.gam b = true
      case neg => rw [if_neg he] at m; exact m.elim
      rw [if_pos he] at m
      obtain ⟨p, dx, us, rfl, e1, e2, e3, e4⟩ := id ha
      cases rx
      obtain ⟨T, hT, hn⟩ := ty_looks I R.sub E he hb ry
      obtain ⟨ox, od, J⟩ := own_at I (R.sub _ _ e1)
      show wpAny (model X.prog X.w) X.A (richCompare .NotEq (.ref p) u) _ _ _
      refine ne_by_eq (by have := hr.un; omega) I.kIn J hT hn ME.at_ ME.fn E.ne E.obj ?_
      refine own_run (ds := [.ins c fs vs, b]) O tk hr.in1 I.env0.in1 I R hf hps (rd_two ra rb) (.cons rfl (.cons ry .nil)) m fun v' u' s' H' w env' S' ft' I' rv R' am => ?_
      match w, am with
      | .sh (.bl k), am =>
        obtain ⟨z, ez, rz⟩ := R'.last
        cases ez
        cases (show v' = .bl k from rz.2)
        cases (show u' = .bool k from rv)
        exact ⟨k, rfl, .bl (!k), H', I', rfl, After.ok_sh R' (d := .bl (!k)) rfl am⟩
  | _ => exact absurd (hw rfl) (by simp [ownOp, D.isIns])
theorem own_in (O : OwnOk X g P n) (hr : Rm (4 * n + 1) X.A) (tk : Takes X Wx) : OpS X g Wx P.gam (callF P n) .isin true (compareOp .In) := by
  intro pins s σ H x y v u Q env S ft a b hw rd I rx ry R ha hb m
  cases b with
  | ins c fs vs =>
    obtain ⟨ra, rb⟩ := rd rfl
    have m : After X.K g Wx σ S H ft.own Q (match P.gam.meth c "__contains__" with
      | some f => (finish [] env (callF P n f [.sh (.ins c fs vs), .sh a])).bind fun w env' => match w with | .sh (.bl k) => .ok w env' | _ => .bad
      | none => .bad) := m
    cases hf : P.gam.meth c "__contains__" with
    | none => rw [hf] at m; exact m.elim
    | some f =>
      rw [hf] at m
      simp only at m
      obtain ⟨fi, DO, ME⟩ := O.me c _ f hf
      obtain ⟨p, dx, us, rfl, e1, e2, e3, e4⟩ := id hb
      cases ry
      obtain ⟨ox, od, J⟩ := own_at I (R.sub _ _ e1)
      obtain ⟨mm, hF⟩ := I.fr
      refine PySem.W.in_K hF I.ok.mod.kin J ME.at_ ME.fn ?_
      refine own_run (ds := [.ins c fs vs, a]) O tk (hr.mono (by omega)) I.env0 I R hf (O.ct c f hf) (rd_two rb ra) (.cons rfl (.cons rx .nil)) m fun v' u' s' H' w env' S' ft' I' rv R' am => ?_
      match w, am with
      | .sh (.bl k), am =>
        obtain ⟨z, ez, rz⟩ := R'.last
        cases ez
        cases (show v' = .bl k from rz.2)
        cases (show u' = .bool k from rv)
        exact wpAny_truthy_bool ⟨.bl k, H', I', rfl, After.ok_sh R' (d := .bl k) rfl am⟩
  | _ => exact absurd (hw rfl) (by simp [ownOp, D.isIns])
theorem own_notin (O : OwnOk X g P n) (hr : Rm (4 * n + 1) X.A) (tk : Takes X Wx) : OpS X g Wx P.gam (callF P n) .notin true (compareOp .NotIn) := by
  intro pins s σ H x y v u Q env S ft a b hw rd I rx ry R ha hb m
  cases b with
  | ins c fs vs =>
    obtain ⟨ra, rb⟩ := rd rfl
    have m : After X.K g Wx σ S H ft.own Q (match P.gam.meth c "__contains__" with
      | some f => (finish [] env (callF P n f [.sh (.ins c fs vs), .sh a])).bind fun w env' => match w with | .sh (.bl k) => .ok (.sh (.bl (!k))) env' | _ => .bad
      | none => .bad) := m
    cases hf : P.gam.meth c "__contains__" with
    | none => rw [hf] at m; exact m.elim
    | some f =>
      rw [hf] at m
      simp only at m
      obtain ⟨fi, DO, ME⟩ := O.me c _ f hf
      obtain ⟨p, dx, us, rfl, e1, e2, e3, e4⟩ := id hb
      cases ry
      obtain ⟨ox, od, J⟩ := own_at I (R.sub _ _ e1)
      obtain ⟨mm, hF⟩ := I.fr
      refine PySem.W.notIn_K hF I.ok.mod.kin J ME.at_ ME.fn ?_
      refine own_run (ds := [.ins c fs vs, a]) O tk (hr.mono (by omega)) I.env0 I R hf (O.ct c f hf) (rd_two rb ra) (.cons rfl (.cons rx .nil)) m fun v' u' s' H' w env' S' ft' I' rv R' am => ?_
      match w, am with
      | .sh (.bl k), am =>
        obtain ⟨z, ez, rz⟩ := R'.last
        cases ez
        cases (show v' = .bl k from rz.2)
        cases (show u' = .bool k from rv)
        exact wpAny_truthy_bool ⟨.bl (!k), H', I', rfl, After.ok_sh R' (d := .bl (!k)) rfl am⟩
  | _ => exact absurd (hw rfl) (by simp [ownOp, D.isIns])
theorem own_idx (O : OwnOk X g P n) (hr : Rm (4 * n + 1) X.A) (tk : Takes X Wx) : IxS X g Wx P.gam (callF P n) true := by
  intro value slice pins s σ H x y v u Q env S ft a b hw rd I rx ry R ha hb m hs
  cases a with
  | ins c fs vs =>
    obtain ⟨ra, rb⟩ := rd rfl
    have m : After X.K g Wx σ S H ft.own Q (match P.gam.meth c "__getitem__" with
      | some f => finish [] env (callF P n f [.sh (.ins c fs vs), .sh b])
      | none => .bad) := m
    cases hf : P.gam.meth c "__getitem__" with
    | none => rw [hf] at m; exact m.elim
    | some f =>
      rw [hf] at m
      simp only at m
      obtain ⟨fi, DO, ME⟩ := O.me c _ f hf
      obtain ⟨p, dx, us, rfl, e1, e2, e3, e4⟩ := id ha
      cases rx
      obtain ⟨ox, od, J⟩ := own_at I (R.sub _ _ e1)
      obtain ⟨mm, hF⟩ := I.fr
      refine PySem.W.sub_K hF I.ok.mod.kin J ME.at_ DO.fi ME.fn ?_ ?_
      · exact spc_run tk DO hr.in1 I.env0.in1 I R (rd_two ra rb) (.cons rfl (.cons ry .nil)) (O.gi c f hf fi DO.at_) m
      · cases slice <;> first | rfl | cases hs | (with_unfolding_all rfl)
  | _ => exact absurd (hw rfl) (by simp [ownOp, D.isIns])
end
end Rf

namespace Rf
open PySem L2 PyProof.Rows

section
variable {K : PySem.W.Frag} {g : G} {S H S' H' : Hp} {ft ft' : Ft} {env env' : Env} {σ σ' : L2.St}
/-- what the last slot holds goes into what a slot alone holds -/
theorem Rel.absorb {w w' : W} {v u : V} {i : Nat} {p : Addr} {o : HO} {l : List Addr} (R : Rel K g (env ++ [some w]) S (σ ++ [some v]) H ft) (hi : i < env.length) (hv : σ[i]? = some (some u)) (hp : p ∈ ft i) (sub : ∀ a ∈ l, a ∈ ft i ∨ a ∈ ft env.length) (nd : l.Nodup) (r : RW K g S (upd H p o) w' u l) :
    ∃ ft', Rel K g (env.set i (some w')) S σ (upd H p o) ft' ∧ Step S H ft.own S (upd H p o) ft'.own := by
  have R0 := R.drop
  have hS : S p = none := R.out i p hp
  have hne : env.length ≠ i := by omega
  refine ⟨(ft.off env.length).put i l, ⟨fun a u e => ?_, by rw [List.length_set]; exact R0.len, fun j x e => ?_, fun j h => ?_, fun j => ?_, fun j k a n h1 h2 => ?_, fun j a h => ?_⟩, ⟨Sm.refl _, fun a u e n => ?_, fun a ⟨j, hj⟩ => .inl ?_, fun a u e => .inl e, fun a u e => ?_⟩⟩
  · rw [upd_ne (fun z => by rw [z, hS] at e; cases e)]; exact R0.sub a u e
  · by_cases q : i = j
    · subst q
      rw [List.getElem?_set_self hi] at e
      cases e
      exact ⟨u, hv, by rw [Ft.put_self]; exact r⟩
    · rw [List.getElem?_set_ne q] at e
      obtain ⟨x1, e1, r1⟩ := R0.slot j x e
      refine ⟨x1, e1, ?_⟩
      rw [Ft.put_ne (Ne.symm q)]
      exact RW.move (Sm.refl _) _ _ _ (fun a ha => upd_ne fun z => R.dj i j p q hp (by rw [← z]; exact Ft.off_sub ha)) r1
  · by_cases q : j = i
    · subst q; exact absurd (List.getElem?_set_self hi) (h w')
    · rw [Ft.put_ne q]
      exact R0.off j fun x e => h x (by rw [List.getElem?_set_ne (Ne.symm q)]; exact e)
  · by_cases q : j = i
    · subst q; rw [Ft.put_self]; exact nd
    · rw [Ft.put_ne q]; exact R0.nd j
  · have key : ∀ {j k : Nat}, j ≠ k → a ∈ ((ft.off env.length).put i l) j → j = i → k ≠ i → a ∉ (ft.off env.length) k := fun {j' k'} n' h1' hj hk h9 => by
      rw [hj, Ft.put_self] at h1'
      have h3 := Ft.off_sub h9
      have hk2 : k' ≠ env.length := fun z => by rw [z] at h9; unfold Ft.off at h9; rw [if_pos rfl] at h9; cases h9
      rcases sub a h1' with z | z
      · exact R.dj i k' a (fun z2 => hk z2.symm) z h3
      · exact R.dj env.length k' a (Ne.symm hk2) z h3
    by_cases q1 : j = i
    · have q2 : k ≠ i := fun z => n (q1.trans z.symm)
      rw [Ft.put_ne q2] at h2
      exact key n h1 q1 q2 h2
    · by_cases q2 : k = i
      · rw [Ft.put_ne q1] at h1
        exact key (Ne.symm n) h2 q2 q1 h1
      · rw [Ft.put_ne q1] at h1
        rw [Ft.put_ne q2] at h2
        exact R0.dj j k a n h1 h2
  · by_cases q : j = i
    · subst q
      rw [Ft.put_self] at h
      rcases sub a h with z | z
      · exact R.out _ a z
      · exact R.out _ a z
    · rw [Ft.put_ne q] at h; exact R0.out j a h
  · rw [upd_ne (fun z => n ⟨i, by rw [z]; exact hp⟩)]; exact e
  · by_cases q : j = i
    · subst q
      rw [Ft.put_self] at hj
      rcases sub a hj with z | z
      · exact ⟨_, z⟩
      · exact ⟨_, z⟩
    · rw [Ft.put_ne q] at hj; exact ⟨j, Ft.off_sub hj⟩
  · by_cases q : a = p
    · subst q; exact ⟨_, upd_same⟩
    · exact ⟨u, by rw [upd_ne q]; exact e⟩
/-- fields, one put -/
theorem putW_ok {f : Str} {w : W} {v : V} {lw : List Addr} (rw' : RW K g S H w v lw) : ∀ {fs : List Str} {ws : List W} {vs : List V} {l : List Addr}, RWs K g S H ws vs l → fs.length = vs.length → (l ++ lw).Nodup →
    ∃ us l', putF f v (fs.zip vs) = (putW f w fs ws).1.zip us ∧ RWs K g S H (putW f w fs ws).2 us l' ∧ (putW f w fs ws).1.length = us.length ∧ (∀ a ∈ l', a ∈ l ∨ a ∈ lw) ∧ l'.Nodup ∧ ∀ x ∈ (putW f w fs ws).1, x ∈ fs ∨ x = f
  | [], ws, vs, l, r, hl, nd => by
    cases vs with
    | cons _ _ => simp at hl
    | nil =>
      cases ws with
      | cons _ _ => obtain ⟨_, _, _, _, e, _⟩ := r; cases e
      | nil =>
        obtain ⟨_, rfl⟩ := r
        exact ⟨[v], lw, rfl, ⟨v, [], lw, [], rfl, by simp, rw', rfl, rfl⟩, rfl, fun a h => .inr h, by simpa using nd, fun x h => .inr (by simpa [putW] using h)⟩
  | k :: fs, [], vs, l, r, hl, nd => by
    obtain ⟨rfl, _⟩ := r
    simp at hl
  | k :: fs, x :: ws, vs, l, r, hl, nd => by
    obtain ⟨u, us, l1, l2, rfl, rfl, r1, r2⟩ := r
    by_cases q : k = f
    · subst q
      have nd2 : (l2 ++ lw).Nodup := by
        rw [List.append_assoc] at nd
        exact (List.nodup_append.mp nd).2.1
      obtain ⟨n1, n2, n3⟩ := List.nodup_append.mp nd2
      refine ⟨v :: us, lw ++ l2, by simp [putF, putW], ?_, by simpa [putW] using hl, fun a h => ?_, ?_, fun y h => ?_⟩
      · simp only [putW, if_true]; exact ⟨v, us, lw, l2, rfl, rfl, rw', r2⟩
      · rcases List.mem_append.mp h with h | h
        · exact .inr h
        · exact .inl (List.mem_append_right _ h)
      · exact List.nodup_append.mpr ⟨n2, n1, fun a ha b hb e => n3 b hb a ha e.symm⟩
      · simp only [putW, if_true] at h; exact .inl h
    · have nd2 : (l2 ++ lw).Nodup := by
        rw [List.append_assoc] at nd
        exact (List.nodup_append.mp nd).2.1
      obtain ⟨us', l', e1, e2, e3, e4, e5, e6⟩ := putW_ok (f := f) rw' (fs := fs) r2 (by simpa using hl) nd2
      refine ⟨u :: us', l1 ++ l', by simp [putF, putW, q, e1], ?_, by simp [putW, q, e3], fun a h => ?_, ?_, fun y h => ?_⟩
      · simp only [putW, q, if_false]; exact ⟨u, us', l1, l', rfl, rfl, r1, e2⟩
      · rcases List.mem_append.mp h with h | h
        · exact .inl (List.mem_append_left _ h)
        · exact (e4 a h).imp (List.mem_append_right _) id
      · rw [List.append_assoc] at nd
        obtain ⟨m1, m2, m3⟩ := List.nodup_append.mp nd
        refine List.nodup_append.mpr ⟨m1, e5, fun a ha b hb e => ?_⟩
        rcases e4 b hb with z | z
        · exact m3 a ha b (List.mem_append_left _ z) e
        · exact m3 a ha b (List.mem_append_right _ z) e
      · simp only [putW, q, if_false, List.mem_cons] at h
        rcases h with h | h
        · exact .inl (by rw [h]; exact List.mem_cons_self)
        · exact (e6 y h).imp (List.mem_cons_of_mem _) id
end

section
variable {X : Cx} {g : G} {Wx : WX} {pr : Nat → Bool} {o e : Expr} {E : Ev} {pos p2 : Pos}
/-- x.f = e -/
theorem st_setf {own : Bool} {i c : Nat} {f : Str} (ho : PE X o (tVar i)) (hna : NoAttr X.K (g.ca c) f) (h : Snd X g Wx e E) (hs : swapsWith e (some (.Attribute o f p2)) pos.line X.env = pure false) :
    St X g Wx pr (.Assign [.Attribute o f p2] e pos) (setfEv own i c f E) := by
  have key : ∀ {D : Ends} {σ : L2.St} {env : Env} {S H1 : Hp} {ft : Ft} {w : W} {v : V}, Rel X.K g (env ++ [some w]) S (σ ++ [some v]) H1 ft →
      AfterS X.K g Wx pr D σ S H1 ft.own (match env[i]? with
        | some (some (.oI c' fs ws)) => if c' = c ∧ fs.length < 1000 then .nx (env.set i (some (.oI c (putW f w fs ws).1 (putW f w fs ws).2))) else .bad
        | _ => .bad) → tVar i σ H1 fun x H2 => ∃ a C dx fs, x = .ref a ∧ H2 a = some (.ins C dx fs) ∧ Cls X.K C ∧ NoAttr X.K C f ∧ fs.length < 1000 ∧ D.nx σ (upd H2 a (.ins C dx (putF f v fs))) := fun {D σ env S H1 ft w v} R m => by
    have hl : env.length = σ.length := by have := R.len; simpa using this
    cases e1 : env[i]? with
    | none => rw [e1] at m; exact m.elim
    | some oo =>
      rw [e1] at m
      match oo, m with
      | some (.oI c' fs ws), m =>
        by_cases hc : c' = c ∧ fs.length < 1000
        case neg => simp only [hc, if_false] at m; exact m.elim
        simp only [hc, and_self, if_true] at m
        obtain ⟨rfl, hz⟩ := hc
        have hi : i < env.length := (List.getElem?_eq_some_iff.mp e1).1
        obtain ⟨u, e2, r⟩ := R.slot i _ (by rw [List.getElem?_append_left hi]; exact e1)
        rw [List.getElem?_append_left (by omega)] at e2
        obtain ⟨vv, ev, rv⟩ := R.last
        cases ev
        obtain ⟨a, dx, vs, ft', rfl, ef, e3, e4, e5, e6⟩ := id r
        have nda : (a :: ft').Nodup := by rw [← ef]; exact R.nd i
        have ndl : (ft' ++ ft env.length).Nodup := List.nodup_append.mpr ⟨(List.nodup_cons.mp nda).2, R.nd _, fun x hx y hy e => R.dj i env.length x (by omega) (by rw [ef]; exact List.mem_cons_of_mem _ hx) (e ▸ hy)⟩
        obtain ⟨us, l', q1, q2, q3, q4, q5, q6⟩ := putW_ok (f := f) rv e4 e5 ndl
        have na : a ∉ l' := fun z => by
          rcases q4 a z with z | z
          · exact (List.nodup_cons.mp nda).1 z
          · exact R.dj i env.length a (by omega) (by rw [ef]; exact List.mem_cons_self) z
        refine ⟨.ref a, e2, a, _, dx, _, rfl, e3, e6.1, hna, ?_, ?_⟩
        · rw [List.length_zip, ← e5]; omega
        · have rN : RW X.K g S (upd H1 a (.ins (g.ca c') dx (putF f v (fs.zip vs)))) (.oI c' (putW f w fs ws).1 (putW f w fs ws).2) (.ref a) (a :: l') := by
            refine ⟨a, dx, us, l', rfl, rfl, by rw [upd_same, q1], RWs.move (Sm.refl _) _ _ _ (fun b hb => upd_ne fun z => na (z ▸ hb)) q2, q3, e6.1, fun x hx => ?_⟩
            rcases q6 x hx with z | z
            · exact e6.2 x z
            · rw [z]; exact hna
          have sb : ∀ b ∈ a :: l', b ∈ ft i ∨ b ∈ ft env.length := fun b hb => by
            rcases List.mem_cons.mp hb with z | z
            · left; rw [ef, z]; exact List.mem_cons_self
            · exact (q4 b z).imp (fun y => by rw [ef]; exact List.mem_cons_of_mem _ y) id
          obtain ⟨ft3, R3, st3⟩ := R.absorb (l := a :: l') hi e2 (by rw [ef]; exact List.mem_cons_self) sb (List.nodup_cons.mpr ⟨na, q5⟩) rN
          exact m σ S _ ft3 R3 st3 .refl
      | some (.sh _), m => exact m.elim
      | some (.oL _), m => exact m.elim
      | some (.oK _ _), m => exact m.elim
      | some (.oT _ _), m => exact m.elim
      | some (.xn _ _ _), m => exact m.elim
      | none, m => exact m.elim
  cases own with
  | true =>
    refine PS.imp (ps_fld ho h.pw hs) fun D σ H q => ?_
    have q2 : tS X.K g Wx pr (fun env => (E.w env).fl fun w env' => match env'[i]? with
      | some (some (.oI c' fs ws)) => if c' = c ∧ fs.length < 1000 then .nx (env'.set i (some (.oI c (putW f w fs ws).1 (putW f w fs ws).2))) else .bad
      | _ => .bad) D σ H := q
    exact tW_mono (tW_fl q2) fun v H1 ⟨env1, S1, ft1, w, R1, m1⟩ => key R1 m1
  | false =>
    refine PS.imp (ps_fld ho h.pe hs) fun D σ H q => ?_
    have q2 : tS X.K g Wx pr (fun env => ((E.e env).bind fun d env' => .ok (W.sh d) env').fl fun w env' => match env'[i]? with
      | some (some (.oI c' fs ws)) => if c' = c ∧ fs.length < 1000 then .nx (env'.set i (some (.oI c (putW f w fs ws).1 (putW f w fs ws).2))) else .bad
      | _ => .bad) D σ H := q
    have q3 : tS X.K g Wx pr (fun env => (E.e env).fl fun d env' => match env'[i]? with
      | some (some (.oI c' fs ws)) => if c' = c ∧ fs.length < 1000 then .nx (env'.set i (some (.oI c (putW f (.sh d) fs ws).1 (putW f (.sh d) fs ws).2))) else .bad
      | _ => .bad) D σ H := by
      have : (fun env => ((E.e env).bind fun d env' => .ok (W.sh d) env').fl fun w env' => match env'[i]? with
        | some (some (.oI c' fs ws)) => if c' = c ∧ fs.length < 1000 then Fl.nx (env'.set i (some (.oI c (putW f w fs ws).1 (putW f w fs ws).2))) else .bad
        | _ => .bad) = fun env => (E.e env).fl fun d env' => match env'[i]? with
        | some (some (.oI c' fs ws)) => if c' = c ∧ fs.length < 1000 then Fl.nx (env'.set i (some (.oI c (putW f (.sh d) fs ws).1 (putW f (.sh d) fs ws).2))) else .bad
        | _ => .bad := by
        funext env
        cases E.e env <;> rfl
      rw [this] at q2; exact q2
    refine tE_mono (tE_fl q3) fun v H1 ⟨env1, S1, ft1, d, R1, r1, m1⟩ => ?_
    obtain ⟨ft2, R2, ho2⟩ := R1.pushSh r1
    exact key R2 (m1.pre (Step.refl.post ho2) .refl)
end
end Rf

namespace Rf
open PySem L2 PyProof.Rows

section
variable {K : PySem.W.Frag} {g : G} {Wx : WX} {pr : Nat → Bool} {S H S' H' : Hp} {ft ft' : Ft} {env env' : Env} {σ σ' : L2.St} {D : Ends}
def setS : List Nat → List V → L2.St → L2.St
  | i :: is, v :: vs, σ => setS is vs (σ.set i (some v))
  | _, _, σ => σ
theorem rel_setAll : ∀ {is : List Nat} {ws : List W} {vs : List V} {l : List Addr} {env : Env} {σ : L2.St} {ft : Ft}, Rel K g env S σ H ft → RWs K g S H ws vs l → l.Nodup → (∀ a ∈ l, S a = none ∧ ¬ ft.own a) → is.length = ws.length → (∀ i ∈ is, i < env.length) →
    ∃ ft', Rel K g (setAll is ws env) S (setS is vs σ) H ft' ∧ ∀ a, ft'.own a → ft.own a ∨ a ∈ l
  | [], [], vs, l, env, σ, ft, R, r, nd, dj, hl, hi => by
    obtain ⟨rfl, rfl⟩ := r
    exact ⟨ft, R, fun a h => .inl h⟩
  | [], _ :: _, vs, l, env, σ, ft, R, r, nd, dj, hl, hi => by cases hl
  | _ :: _, [], vs, l, env, σ, ft, R, r, nd, dj, hl, hi => by cases hl
  | i :: is, w :: ws, vs, l, env, σ, ft, R, r, nd, dj, hl, hi => by
    obtain ⟨v, us, l1, l2, rfl, rfl, r1, r2⟩ := r
    obtain ⟨n1, n2, n3⟩ := List.nodup_append.mp nd
    have R1 := R.store (hi i List.mem_cons_self) r1 n1 (fun j a _ ha hb => (dj a (List.mem_append_left _ ha)).2 ⟨j, hb⟩) fun a ha => (dj a (List.mem_append_left _ ha)).1
    obtain ⟨ft', R', ho⟩ := rel_setAll (is := is) R1 r2 n2 (fun a ha => ⟨(dj a (List.mem_append_right _ ha)).1, fun ⟨j, hj⟩ => by
      by_cases q : j = i
      · subst q; rw [Ft.put_self] at hj; exact n3 a hj a ha rfl
      · rw [Ft.put_ne q] at hj; exact (dj a (List.mem_append_right _ ha)).2 ⟨j, hj⟩⟩) (by simpa using hl) fun j hj => by rw [List.length_set]; exact hi j (List.mem_cons_of_mem _ hj)
    refine ⟨ft', R', fun a ha => ?_⟩
    rcases ho a ha with ⟨j, hj⟩ | z
    · by_cases q : j = i
      · subst q; rw [Ft.put_self] at hj; exact .inr (List.mem_append_left _ hj)
      · rw [Ft.put_ne q] at hj; exact .inl ⟨j, hj⟩
    · exact .inr (List.mem_append_right _ z)
theorem kp_setS : ∀ {is : List Nat} {vs : List V} {σ : L2.St}, is.any pr = false → Kp pr σ (setS is vs σ)
  | [], vs, σ, h => .refl
  | i :: is, [], σ, h => .refl
  | i :: is, v :: vs, σ, h => by
    have h := Bool.or_eq_false_iff.mp (show (pr i || is.any pr) = false from h)
    exact (Kp.set h.1).trans (kp_setS h.2)
theorem args_fl {mu : List Bool} {Es : List Ev} {f : List W × List Bk → Env → Fl} (h : tS K g Wx pr (fun env => (runA mu Es env).fl f) D σ H) :
    tArgs K g Wx (runA mu Es) σ H fun vs H1 => ∃ env S ft l p, Rel K g env S σ H1 ft ∧ RWs K g S H1 p.1 vs l ∧ l.Nodup ∧ (∀ a ∈ l, S a = none ∧ ¬ ft.own a) ∧ AfterS K g Wx pr D σ S H1 (fun a => ft.own a ∨ a ∈ l) (f p env) := by
  obtain ⟨env, S, ft, R, m⟩ := tS_iff.mp h
  refine ⟨env, S, ft, R, ?_⟩
  cases e : runA mu Es env with
  | ok p env1 => rw [e] at m; exact fun vs S' H' ft' l R' rs nd dj bk st => ⟨env1, S', ft', l, p, R', rs, nd, dj, m.pre st .refl⟩
  | exc x env1 => rw [e] at m; exact fun cls dx S' H' ft' R' st rx => m cls dx σ S' H' ft' R' st .refl rx
  | bad => rw [e] at m; exact m
theorem tArgs_mono {r : Env → R (List W × List Bk)} {Q Q' : List V → Hp → Prop} (h : tArgs K g Wx r σ H Q) (w : ∀ vs H, Q vs H → Q' vs H) : tArgs K g Wx r σ H Q' := by
  obtain ⟨env, S, ft, R, m⟩ := h
  refine ⟨env, S, ft, R, ?_⟩
  cases e : r env with
  | ok p env1 => rw [e] at m; exact fun vs S' H' ft' l R' rs nd dj bk st => w _ _ (m vs S' H' ft' l R' rs nd dj bk st)
  | exc x env1 => rw [e] at m; exact m
  | bad => rw [e] at m; exact m
/-- what a parallel assignment asks of its values -/
theorem par_vals {l : List (Bool × Nat)} {Es : List Ev} (h : tS K g Wx pr (parEv pr l Es) D σ H) :
    (l.map (·.2)).Nodup ∧ (∀ i ∈ l.map (·.2), i < σ.length) ∧ tArgs K g Wx (runA (l.map (·.1)) Es) σ H fun vs H1 => vs.length = l.length ∧ ∀ H2, (∀ p, H1 p ≠ none → H2 p = H1 p) → D.nx (setS (l.map (·.2)) vs σ) H2 := by
  obtain ⟨env, S, ft, R, m⟩ := tS_iff.mp h
  unfold parEv at m
  split at m
  · exact m.elim
  · rename_i c
    simp only [Bool.or_eq_true, Bool.not_eq_true', not_or, decide_eq_false_iff_not, Classical.not_not, Bool.not_eq_true] at c
    obtain ⟨⟨c1, c2⟩, c3⟩ := c
    have c1 := List.any_eq_false.mp c1
    have hp : (l.map (·.2)).any pr = false := List.any_eq_false.mpr fun i hi => by
      obtain ⟨p, hp, e⟩ := List.mem_map.mp hi
      have := c1 p hp
      simp only [Bool.or_eq_true, not_or] at this
      rw [← e]; exact this.1
    have hlt : ∀ i ∈ l.map (·.2), i < env.length := fun i hi => by
      obtain ⟨p, hp, e⟩ := List.mem_map.mp hi
      have := c1 p hp
      simp only [Bool.or_eq_true, not_or, decide_eq_true_eq] at this
      rw [← e]; omega
    refine ⟨c2, fun i hi => by rw [← R.len]; exact hlt i hi, ?_⟩
    refine ⟨env, S, ft, R, ?_⟩
    cases e : runA (l.map (·.1)) Es env with
    | exc x env1 => rw [e] at m; exact fun cls dx S' H' ft' R' st rx => m cls dx σ S' H' ft' R' st .refl rx
    | bad => rw [e] at m; exact m
    | ok p env1 =>
      rw [e] at m
      intro vs S1 H1 ft1 l1 R1 rs nd dj bk st
      have hpl : p.1.length = l.length := by rw [← runA_len e, c3]
      refine ⟨by rw [← RWs.length rs]; exact hpl, fun H2 hH => ?_⟩
      have same : Same H1 H2 := fun a o ea => by rw [hH a (by rw [ea]; simp)]; exact ea
      have R2 := R1.grow (Sm.refl S1) same (fun a o ea => same a o (R1.sub a o ea)) fun a o ea => .inl ea
      have rs2 : RWs K g S1 H2 p.1 vs l1 := RWs.move (Sm.refl _) _ _ _ (fun a ha => by
        obtain ⟨o, ea⟩ := RWs.there _ _ _ rs a ha
        exact hH a (by rw [ea]; simp)) rs
      obtain ⟨ft', R', ho⟩ := rel_setAll (is := l.map (·.2)) R2 rs2 nd dj (by simp [hpl]) fun i hi => by
        have := hlt i hi
        have h1 := R1.len
        have h2 := R.len
        omega
      have st2 : Step S1 H1 (fun a => ft1.own a ∨ a ∈ l1) S1 H2 (fun a => ft1.own a ∨ a ∈ l1) := ⟨Sm.refl _, fun a o ea _ => same a o ea, fun a h => .inl h, fun a o ea => .inl ea, fun a o ea => ⟨o, same a o ea⟩⟩
      exact m _ S1 H2 ft' R' ((st.trans st2).post ho) (kp_setS hp)
end

section
variable {X : Cx} {g : G} {Wx : WX} {pr : Nat → Bool} {es : List Expr} {Es : List Ev} {pos : Pos}
theorem upd_keep {H1 : Hp} {p : Addr} {o : HO} (hp : H1 p = none) : ∀ a, H1 a ≠ none → upd H1 p o a = H1 a := fun a ha => upd_ne fun z => ha (by rw [z]; exact hp)
/-- a, b = x, y -/
theorem st_par2 {o1 o2 : Bool} {i j : Nat} {x y : Str} {px py pt : Pos} {a b : Expr} {kt k2 : Nat} {pt2 : Pos} (hc : X.calm = true) (hN : X.N.Nodup) (hi : X.N[i]? = some x) (hj : X.N[j]? = some y) (hx : X.env.scope.names.lookup x = some .local) (hy : X.env.scope.names.lookup y = some .local)
    (h : Snds X g Wx [a, b] Es) (hij : i ≠ j) (hw : swappedStores [.Tuple [.Name x px, .Name y py] kt pt] (.Tuple [a, b] k2 pt2) X.env = pure (some [x, y])) (hs : swapsWithSole [.Tuple [.Name x px, .Name y py] kt pt] (.Tuple [a, b] k2 pt2) pos.line X.env = pure false) :
    St X g Wx pr (.Assign [.Tuple [.Name x px, .Name y py] kt pt] (.Tuple [a, b] k2 pt2) pos) (parEv pr [(o1, i), (o2, j)] Es) := by
  refine PS.imp (ps_par hc hN hi hj hij hx hy (pa_args h [o1, o2]) hw hs) fun D σ H q => ?_
  obtain ⟨_, _, q⟩ := par_vals q
  refine tArgs_mono q fun vs H1 ⟨hl, q⟩ => ?_
  match vs, hl with
  | [v, w], _ => exact ⟨v, w, rfl, q H1 fun _ _ => rfl⟩
theorem st_par3 {o1 o2 o3 : Bool} {i j l : Nat} {x y z : Str} {px py pz pt : Pos} {a b c : Expr} {kt k2 : Nat} {pt2 : Pos} (hc : X.calm = true) (hN : X.N.Nodup) (hi : X.N[i]? = some x) (hj : X.N[j]? = some y) (hl : X.N[l]? = some z) (hx : X.env.scope.names.lookup x = some .local) (hy : X.env.scope.names.lookup y = some .local) (hz : X.env.scope.names.lookup z = some .local)
    (h : Snds X g Wx [a, b, c] Es) (hij : i ≠ j) (hil : i ≠ l) (hjl : j ≠ l) (hw : swappedStores [.Tuple [.Name x px, .Name y py, .Name z pz] kt pt] (.Tuple [a, b, c] k2 pt2) X.env = pure (some [x, y, z])) (hs : swapsWithSole [.Tuple [.Name x px, .Name y py, .Name z pz] kt pt] (.Tuple [a, b, c] k2 pt2) pos.line X.env = pure false) :
    St X g Wx pr (.Assign [.Tuple [.Name x px, .Name y py, .Name z pz] kt pt] (.Tuple [a, b, c] k2 pt2) pos) (parEv pr [(o1, i), (o2, j), (o3, l)] Es) := by
  refine PS.imp (ps_par3 hc hN hi hj hl hij hil hjl hx hy hz (pa_args h [o1, o2, o3]) hw hs) fun D σ H q => ?_
  obtain ⟨_, _, q⟩ := par_vals q
  refine tArgs_mono q fun vs H1 ⟨hl, q⟩ => ?_
  match vs, hl with
  | [v, w, u], _ => exact ⟨v, w, u, rfl, q H1 fun _ _ => rfl⟩
/-- names in a row -/
inductive Nms (X : Cx) : List Expr → List Nat → Prop
  | nil : Nms X [] []
  | cons {x : Str} {p : Pos} {i : Nat} {es : List Expr} {is : List Nat} : X.N[i]? = some x → Loc X.env.scope x → (X.fn x = true ∨ X.env.scope.names.lookup x = some .local) → Nms X es is → Nms X (.Name x p :: es) (i :: is)
def gNs : List Nat → TGs
  | [] => gNil
  | i :: is => gCons (gName i) (gNs is)
theorem Nms.pgs (hN : X.N.Nodup) {is : List Nat} (h : Nms X es is) : PGs X es (gNs is) := by
  induction h with
  | nil => exact pgs_nil
  | cons h1 h2 h3 _ ih => exact pgs_cons (pg_name hN h1 h2 h3) ih
theorem gNs_of {H : Hp} {Q : L2.St → Hp → Prop} : ∀ {is : List Nat} {vs : List V} {σ : L2.St}, vs.length = is.length → Q (setS is vs σ) H → gNs is vs σ H Q
  | [], [], σ, _, q => ⟨rfl, q⟩
  | [], _ :: _, σ, h, q => by cases h
  | _ :: _, [], σ, h, q => by cases h
  | i :: is, v :: vs, σ, h, q => ⟨v, vs, rfl, gNs_of (by simpa using h) q⟩
theorem Nms.each {is : List Nat} (h : Nms X es is) : (assignEach es X.env).length = es.length ∧ (assignEach es X.env).findIdx? (·.1) = none := by
  induction h with
  | nil => exact ⟨rfl, rfl⟩
  | cons h1 h2 h3 _ ih => exact ⟨by show (assignEach _ X.env).length + 1 = _; rw [ih.1]; rfl, by show (((false, _) :: assignEach _ X.env).findIdx? (·.1)) = none; rw [List.findIdx?_cons]; simp [ih.2]⟩
theorem st_parT {ts : List Expr} {l : List (Bool × Nat)} {kt k2 : Nat} {pt pt2 : Pos} (hc : X.calm = true) (hN : X.N.Nodup) (hn : Nms X ts (l.map (·.2))) (h : Snds X g Wx es Es) (hlen : ts.length = es.length) (hw : swappedStores [.Tuple ts kt pt] (.Tuple es k2 pt2) X.env = pure none) (hz : es.length ≤ lim) :
    St X g Wx pr (.Assign [.Tuple ts kt pt] (.Tuple es k2 pt2) pos) (parEv pr l Es) := by
  have hl : ts.length = (l.map (·.2)).length := by
    clear hw hlen
    generalize l.map (·.2) = is at hn
    induction hn with
    | nil => rfl
    | cons _ _ _ _ ih => simp [ih]
  refine PS.imp (ps_asg (pe_tup (pa_args h (l.map (·.1)))) (pg_tup hc (hn.pgs hN) hn.each.1 hn.each.2) (by rfl) hw (by rfl)) fun D σ H q => ?_
  obtain ⟨_, _, q⟩ := par_vals q
  refine tArgs_mono q fun vs H1 ⟨hvl, q⟩ => ?_
  have hvl2 : vs.length = (l.map (·.2)).length := by simpa using hvl
  refine ⟨by rw [slim, hvl2, ← hl, hlen]; exact hz, fun p hp => ⟨p, vs, rfl, SqT.of upd_same, by rw [hvl2, hl], gNs_of hvl2 (q _ (upd_keep hp))⟩⟩
end

theorem sw_many {ts vs : List Expr} {k k2 : Nat} {p p2 : Pos} {env : PySem.Env} (h2 : ts.length ≠ 2) (h3 : ts.length ≠ 3) : swappedStores [.Tuple ts k p] (.Tuple vs k2 p2) env = pure none := by
  have e2 : (ts.length == 2) = false := by simpa using h2
  have e3 : (ts.length == 3) = false := by simpa using h3
  unfold swappedStores
  simp only [e2, e3, Bool.or_self, Bool.not_false, Bool.true_or, if_true]
def locK (env : PySem.Env) (x : Str) : Bool := env.kindOf x == some .local
def isStar : Expr → Bool
  | .Starred _ _ => true
  | _ => false
theorem fm_len {α β : Type} {f : α → Option β} : ∀ {l : List α}, (l.filterMap f).length = l.length → ∀ x ∈ l, (f x).isSome = true
  | [], _, x, h => by cases h
  | y :: l, h, x, hx => by
    rw [List.filterMap_cons] at h
    cases e : f y with
    | none =>
      rw [e] at h
      have := List.length_filterMap_le f l
      simp at h
      omega
    | some b =>
      rw [e] at h
      rcases List.mem_cons.mp hx with rfl | hx
      · rw [e]; rfl
      · exact fm_len (by simpa using h) x hx
/-- a name that is no plain local: no stores are swapped -/
theorem sw_none_at {ts vs : List Expr} {k k2 : Nat} {p p2 px : Pos} {x : Str} {env : PySem.Env} (hx : .Name x px ∈ ts) (h : locK env x = false) : swappedStores [.Tuple ts k p] (.Tuple vs k2 p2) env = pure none := by
  unfold locK at h
  unfold swappedStores
  simp only []
  split
  · rfl
  · split
    · rfl
    · split
      · rfl
      · rename_i c
        simp only [Bool.or_eq_true, bne_iff_ne, ne_eq, not_or, Classical.not_not] at c
        have := fm_len c.1 _ hx
        simp only [h, Bool.false_and, Bool.false_eq_true, if_false] at this
        cases this
theorem ed2 {x y : Str} (h : x ≠ y) : ([x, y] : List Str).eraseDups = [x, y] := by
  rw [List.eraseDups_cons, List.filter_cons]
  have : (!(y == x)) = true := by simp [Ne.symm h]
  rw [if_pos this, List.eraseDups_cons]
  rfl
theorem ed3 {x y z : Str} (h1 : x ≠ y) (h2 : x ≠ z) (h3 : y ≠ z) : ([x, y, z] : List Str).eraseDups = [x, y, z] := by
  rw [List.eraseDups_cons]
  have e1 : (!(y == x)) = true := by simp [Ne.symm h1]
  have e2 : (!(z == x)) = true := by simp [Ne.symm h2]
  rw [List.filter_cons, if_pos e1, List.filter_cons, if_pos e2, List.filter_nil, ed2 h3]
theorem sw2_some {x y : Str} {a b : Expr} {k k2 : Nat} {px py p p2 : Pos} {env : PySem.Env} (hf : env.blockKind = .function) (hx : locK env x = true) (hy : locK env y = true) (hl : (py.line == px.line) = true) (hne : x ≠ y) (hs : (isStar a || (isStar b || false)) = false) (h1 : ([a, b].all (foldedForSure 8)) = false) (h2 : ([a, b].all (constantsAlone 8)) = false) :
    swappedStores [.Tuple [.Name x px, .Name y py] k p] (.Tuple [a, b] k2 p2) env = pure (some [x, y]) := by
  unfold locK at hx hy
  unfold swappedStores
  simp only []
  have hl' : (py.line == (Expr.Name x px).pos.line) = true := hl
  have hl0 : (px.line == (Expr.Name x px).pos.line) = true := beq_self_eq_true px.line
  have nm : (List.filterMap (fun (t : Expr) => match t with
      | .Name id pos => if (env.kindOf id == some .local && pos.line == ((([Expr.Name x px, Expr.Name y py] : List Expr).head?.map (·.pos.line)).getD 0)) = true then some id else none
      | _ => none) [Expr.Name x px, Expr.Name y py]) = [x, y] := by
    simp only [List.filterMap_cons, List.filterMap_nil, List.head?_cons, Option.map_some, Option.getD_some, hx, hy, hl', hl0, Bool.and_self, if_true]
  split
  · rename_i c
    simp [hf] at c
  · split
    · rename_i c
      rw [show (isStar a || (isStar b || false)) = true from c] at hs; cases hs
    · split
      · rename_i c
        have c : ((([x, y] : List Str).length != 2) || (([x, y] : List Str).eraseDups.length != ([x, y] : List Str).length)) = true := by rw [← nm]; exact c
        rw [ed2 hne] at c
        exact absurd c (by simp)
      · split
        · rename_i c; rw [show ([a, b].all (foldedForSure 8)) = true from c] at h1; cases h1
        · split
          · rename_i c; rw [show ([a, b].all (constantsAlone 8)) = true from c] at h2; cases h2
          · exact congrArg (fun l => (pure (some l) : Sem (Option (List Str)))) nm
theorem sw3_some {x y z : Str} {a b c9 : Expr} {k k2 : Nat} {px py pz p p2 : Pos} {env : PySem.Env} (hf : env.blockKind = .function) (hx : locK env x = true) (hy : locK env y = true) (hz : locK env z = true) (hl : (py.line == px.line) = true) (hm : (pz.line == px.line) = true) (hne : x ≠ y) (hnz : x ≠ z) (hyz : y ≠ z) (hs : (isStar a || (isStar b || (isStar c9 || false))) = false) (h1 : ([a, b, c9].all (foldedForSure 8)) = false) (h2 : ([a, b, c9].all (constantsAlone 8)) = false) :
    swappedStores [.Tuple [.Name x px, .Name y py, .Name z pz] k p] (.Tuple [a, b, c9] k2 p2) env = pure (some [x, y, z]) := by
  unfold locK at hx hy hz
  unfold swappedStores
  simp only []
  have hl' : (py.line == (Expr.Name x px).pos.line) = true := hl
  have hm' : (pz.line == (Expr.Name x px).pos.line) = true := hm
  have hl0 : (px.line == (Expr.Name x px).pos.line) = true := beq_self_eq_true px.line
  have nm : (List.filterMap (fun (t : Expr) => match t with
      | .Name id pos => if (env.kindOf id == some .local && pos.line == ((([Expr.Name x px, Expr.Name y py, Expr.Name z pz] : List Expr).head?.map (·.pos.line)).getD 0)) = true then some id else none
      | _ => none) [Expr.Name x px, Expr.Name y py, Expr.Name z pz]) = [x, y, z] := by
    simp only [List.filterMap_cons, List.filterMap_nil, List.head?_cons, Option.map_some, Option.getD_some, hx, hy, hz, hl', hm', hl0, Bool.and_self, if_true]
  split
  · rename_i c
    simp [hf] at c
  · split
    · rename_i c
      rw [show (isStar a || (isStar b || (isStar c9 || false))) = true from c] at hs; cases hs
    · split
      · rename_i c
        have c : ((([x, y, z] : List Str).length != 3) || (([x, y, z] : List Str).eraseDups.length != ([x, y, z] : List Str).length)) = true := by rw [← nm]; exact c
        rw [ed3 hne hnz hyz] at c
        exact absurd c (by simp)
      · split
        · rename_i c; rw [show ([a, b, c9].all (foldedForSure 8)) = true from c] at h1; cases h1
        · split
          · rename_i c; rw [show ([a, b, c9].all (constantsAlone 8)) = true from c] at h2; cases h2
          · exact congrArg (fun l => (pure (some l) : Sem (Option (List Str)))) nm
end Rf

namespace Rf
open PySem L2 PyProof.Rows

section
variable {K : PySem.W.Frag} {g : G} {Wx : WX} {S H S' H' : Hp} {ft ft' : Ft} {env env' : Env} {σ σ' : L2.St}
/-- a cell beside the slots changes -/
theorem Rel.beside (R : Rel K g env S σ H ft) {p : Addr} {o : HO} (hS : S p = none) (hf : ∀ i, p ∉ ft i) : Rel K g env S σ (upd H p o) ft := by
  refine ⟨fun a u e => ?_, R.len, fun i w e => ?_, R.off, R.nd, R.dj, R.out⟩
  · rw [upd_ne (fun z => by rw [z, hS] at e; cases e)]; exact R.sub a u e
  · obtain ⟨v, e1, r⟩ := R.slot i w e
    exact ⟨v, e1, RW.move (Sm.refl _) _ _ _ (fun a ha => upd_ne fun z => hf i (z ▸ ha)) r⟩
/-- the pairs' readings -/
def tGo (K : PySem.W.Frag) (g : G) (Wx : WX) (r : Env → R (List (D × D))) : L2.St → Hp → (List (V × V) → Hp → Prop) → Prop := fun σ H Q => ∃ env S ft, Rel K g env S σ H ft ∧ match r env with
  | .ok ps env' => ∀ us S' H' ft', Rel K g env' S' σ H' ft' → Step S H ft.own S' H' ft'.own → Paired (fun (d : D × D) (u : V × V) => RD K g S' d.1 u.1 ∧ RD K g S' d.2 u.2) ps us → Q us H'
  | .exc x env' => ∀ cls dx S' H' ft', Rel K g env' S' σ H' ft' → Step S H ft.own S' H' ft'.own → RX K g S' x cls dx → Wx cls dx σ H'
  | .bad => False
def trsOf (K : PySem.W.Frag) (g : G) (Wx : WX) : List Ev → List Ev → List (TE × TE)
  | E :: Es, F :: Fs => (tE K g Wx E.e, tE K g Wx F.e) :: trsOf K g Wx Es Fs
  | _, _ => []
theorem go_pairs : ∀ {Es Fs : List Ev} {σ : L2.St} {H : Hp} {Q : List (V × V) → Hp → Prop}, Es.length = Fs.length → tGo K g Wx (dctEv.go Es Fs) σ H Q → tPairs (trsOf K g Wx Es Fs) σ H Q
  | [], [], σ, H, Q, _, h => by
    obtain ⟨env, S, ft, R, m⟩ := h
    exact m [] S H ft R .refl .nil
  | [], _ :: _, σ, H, Q, hl, h => by cases hl
  | _ :: _, [], σ, H, Q, hl, h => by cases hl
  | E :: Es, F :: Fs, σ, H, Q, hl, h => by
    obtain ⟨env, S, ft, R, m⟩ := h
    unfold dctEv.go at m
    show tE K g Wx E.e σ H fun x H1 => tE K g Wx F.e σ H1 fun y H2 => tPairs (trsOf K g Wx Es Fs) σ H2 fun ps H3 => Q ((x, y) :: ps) H3
    refine ⟨env, S, ft, R, ?_⟩
    cases e1 : E.e env with
    | bad => simp only [e1, Rf.R.bind_bad] at m
    | exc x env1 => simp only [e1, Rf.R.bind_exc] at m; exact m
    | ok d env1 =>
      simp only [e1, Rf.R.bind_ok] at m
      intro x S1 H1 ft1 R1 st1 r1
      refine ⟨env1, S1, ft1, R1, ?_⟩
      cases e2 : F.e env1 with
      | bad => simp only [e2, Rf.R.bind_bad] at m
      | exc x env2 =>
        simp only [e2, Rf.R.bind_exc] at m
        exact fun cls dx S2 H2 ft2 R2 st2 => m cls dx S2 H2 ft2 R2 (st1.trans st2)
      | ok d2 env2 =>
        simp only [e2, Rf.R.bind_ok] at m
        intro y S2 H2 ft2 R2 st2 r2
        refine go_pairs (by simpa using hl) ⟨env2, S2, ft2, R2, ?_⟩
        cases e3 : dctEv.go Es Fs env2 with
        | bad => simp only [e3, Rf.R.bind_bad] at m
        | exc x env3 =>
          simp only [e3, Rf.R.bind_exc] at m
          exact fun cls dx S3 H3 ft3 R3 st3 => m cls dx S3 H3 ft3 R3 ((st1.trans st2).trans st3)
        | ok ps env3 =>
          simp only [e3, Rf.R.bind_ok] at m
          exact fun us S3 H3 ft3 R3 st3 rs => m ((x, y) :: us) S3 H3 ft3 R3 ((st1.trans st2).trans st3) (.cons ⟨RD.mono (st2.trans st3).same _ _ r1, RD.mono st3.same _ _ r2⟩ rs)
end
section
variable {X : Cx} {g : G} {Wx : WX} {pos : Pos} {ks vs : List Expr} {Es Fs : List Ev}
theorem pps_of : ∀ {ks vs : List Expr} {Es Fs : List Ev}, Snds X g Wx ks Es → Snds X g Wx vs Fs → ks.length = vs.length → PPs X pos (ks.map some) vs (trsOf X.K g Wx Es Fs)
  | _, _, _, _, .nil, .nil, _ => pps_nil
  | _, _, _, _, .nil, .cons _ _, h => by cases h
  | _, _, _, _, .cons _ _, .nil, h => by cases h
  | _, _, _, _, .cons h1 h2, .cons h3 h4, h => pps_cons h1.pe h3.pe (pps_of h2 h4 (by simpa using h))
theorem snds_len {es : List Expr} {Es : List Ev} (h : Snds X g Wx es Es) : es.length = Es.length := by
  induction h with
  | nil => rfl
  | cons _ _ ih => simp [ih]
theorem s_dct0 {t : Bool} : Snd X g Wx (.Dict [] [] pos) (mkEv (dctEv t [] [])) := by
  cases t with
  | false =>
    refine s_plain (PE.imp pe_dnewK fun σ H Q h => ?_) (fun _ => rfl) fun _ _ => rfl
    obtain ⟨env, S, ft, R, m⟩ := tW_iff.mp h
    intro d hd
    exact FinW.newK R.sub (ks := []) (ds := []) hd rfl RDs.nil (fin_of R m)
  | true =>
    refine s_plain (PE.imp pe_dnewT fun σ H Q h => ?_) (fun _ => rfl) fun _ _ => rfl
    obtain ⟨env, S, ft, R, m⟩ := tW_iff.mp h
    intro d hd
    refine fin_of R m _ S _ [d] ⟨d, [], rfl, rfl, upd_same, rfl, RDs.nil⟩ (by simp) (fun a ha => ?_) (Sm.refl S) (Same.upd' hd) (fun a o e => Same.upd' hd a o (R.sub a o e)) fun a o e => .inl e
    have : a = d := by simpa using ha
    subst this
    exact ⟨subS R.sub hd, hd⟩
theorem s_dct (hk : Snds X g Wx ks Es) (hv : Snds X g Wx vs Fs) (hne : ks ≠ []) (hl : ks.length = vs.length) : Snd X g Wx (.Dict (ks.map some) vs pos) (mkEv (dctEv false Es Fs)) := by
  by_cases h15 : ks.length ≤ 15
  case neg =>
    refine s_plain ⟨fun pins s σ H Q I h => ?_⟩ (fun _ => rfl) fun _ _ => rfl
    obtain ⟨env, S, ft, R, m⟩ := tW_iff.mp h
    exfalso
    cases hk with
    | nil => exact hne rfl
    | cons h1 h2 =>
      unfold dctEv at m
      have := snds_len (.cons h1 h2)
      simp only [Bool.false_eq_true, if_false] at m
      rw [if_neg (fun z => h15 (by omega))] at m
      exact m
  refine s_plain (PE.imp (pe_disp (pps_of hk hv hl) (by simp) (by simpa using hl) (by simpa using hne) (by simpa using h15)) fun σ H Q h => ?_) (fun _ => rfl) fun _ _ => rfl
  obtain ⟨env, S, ft, R, m⟩ := tW_iff.mp h
  have le := snds_len hk
  have lf := snds_len hv
  have m : After X.K g Wx σ S H ft.own Q ((dctEv.go Es Fs env).bind fun ps env1 => match dcMerge ps ([], []) with
        | some r => .ok (.oK r.1 r.2) env1
        | none => .bad) := by
    cases hk with
    | nil => exact absurd rfl hne
    | cons h1 h2 =>
      unfold dctEv at m
      simp only [Bool.false_eq_true, if_false] at m
      rw [if_pos ⟨by omega, by omega⟩] at m
      exact m
  intro p hp
  have hpS := subS R.sub hp
  have R0 : Rel X.K g env S σ (upd H p (.dK [])) ft := R.beside hpS (R.fresh hp)
  refine go_pairs (by omega) ⟨env, S, ft, R0, ?_⟩
  have pre : ∀ {S2 H2 : Hp} {O2 : Addr → Prop}, Step S (upd H p (.dK [])) ft.own S2 H2 O2 → Step S H ft.own S2 H2 O2 := fun st => by
    refine ⟨st.same, fun a o e n => st.keep a o (by rw [upd_ne (ne_of_none e hp)]; exact e) n, fun a h => ?_, fun a o e => ?_, fun a o e => st.there a o (by rw [upd_ne (ne_of_none e hp)]; exact e)⟩
    · rcases st.own a h with z | z
      · exact .inl z
      · by_cases q : a = p
        · subst q; rw [upd_same] at z; cases z
        · rw [upd_ne q] at z; exact .inr z
    · rcases st.grow a o e with z | z | z
      · exact .inl z
      · by_cases q : a = p
        · subst q; rw [upd_same] at z; cases z
        · rw [upd_ne q] at z; exact .inr (.inl z)
      · exact .inr (.inr z)
  cases e : dctEv.go Es Fs env with
  | bad => rw [e] at m; exact m
  | exc x env1 => rw [e] at m; exact fun cls dx S' H' ft' R' st rx => m cls dx S' H' ft' R' (pre st) rx
  | ok ps env1 =>
    rw [e] at m
    intro us S1 H1 ft1 R1 st1 pr
    simp only [Rf.R.bind_ok] at m
    cases e2 : dcMerge ps ([], []) with
    | none => rw [e2] at m; exact m.elim
    | some r =>
      rw [e2] at m
      have hp0 : ¬ ft.own p := fun ⟨i, hi⟩ => R.fresh hp i hi
      have hp1 : H1 p = some (.dK []) := st1.keep p _ upd_same hp0
      have hno : ¬ ft1.own p := fun z => by
        rcases st1.own p z with y | y
        · exact hp0 y
        · rw [upd_same] at y; cases y
      have hS1 : S1 p = none := by
        cases q : S1 p with
        | none => rfl
        | some o =>
          rcases st1.grow p o q with y | y | y
          · rw [hpS] at y; cases y
          · rw [upd_same] at y; cases y
          · exact absurd y hp0
      obtain ⟨more, rfl, e3, e4⟩ := dcMerge_ok (kvs := []) pr RDs.nil e2
      have hml : more.length ≤ 15 := by
        have h1 := Paired.length pr
        have h2 : ps.length = Es.length := by
          clear m pr h1 e2 e3 e4
          have key : ∀ {Es Fs : List Ev} {env env1 : Env} {ps : List (D × D)}, Es.length = Fs.length → dctEv.go Es Fs env = .ok ps env1 → ps.length = Es.length := by
            intro Es
            induction Es with
            | nil => intro Fs env env1 ps hl h; cases Fs with
              | nil => unfold dctEv.go at h; cases h; rfl
              | cons _ _ => cases hl
            | cons E Es ih => intro Fs env env1 ps hl h; cases Fs with
              | nil => cases hl
              | cons F Fs =>
                unfold dctEv.go at h
                cases q1 : E.e env with
                | bad => simp only [q1, Rf.R.bind_bad] at h; cases h
                | exc _ _ => simp only [q1, Rf.R.bind_exc] at h; cases h
                | ok d en1 =>
                  simp only [q1, Rf.R.bind_ok] at h
                  cases q2 : F.e en1 with
                  | bad => simp only [q2, Rf.R.bind_bad] at h; cases h
                  | exc _ _ => simp only [q2, Rf.R.bind_exc] at h; cases h
                  | ok d2 en2 =>
                    simp only [q2, Rf.R.bind_ok] at h
                    cases q3 : dctEv.go Es Fs en2 with
                    | bad => simp only [q3, Rf.R.bind_bad] at h; cases h
                    | exc _ _ => simp only [q3, Rf.R.bind_exc] at h; cases h
                    | ok r en3 =>
                      simp only [q3, Rf.R.bind_ok] at h
                      cases h
                      simp [ih (by simpa using hl) q3]
          exact key (by omega) e
        simp at h1
        omega
      refine ⟨hp1, more, rfl, hml, ?_⟩
      have R2 : Rel X.K g env1 S1 σ (upd H1 p (.dK (mergeK [] more))) ft1 := R1.beside hS1 fun i hi => hno ⟨i, hi⟩
      have R3 := R2.push (w := .oK r.1 r.2) (v := .ref p) (l := [p]) ⟨p, _, rfl, rfl, upd_same, e3, e4⟩ (by simp) (fun j a ha hb => by
        have : a = p := by simpa using ha
        subst this; exact hno ⟨j, hb⟩) fun a ha => by
        have : a = p := by simpa using ha
        subst this; exact hS1
      refine m (.ref p) S1 _ _ R3 ?_
      have st := pre st1
      refine ⟨st.same, fun a o ea n => ?_, fun a ⟨j, hj⟩ => ?_, st.grow, fun a o ea => ?_⟩
      · rw [upd_ne (ne_of_none ea hp)]; exact st.keep a o ea n
      · by_cases q : j = env1.length
        · subst q
          rw [Ft.put_self] at hj
          have : a = p := by simpa using hj
          subst this; exact .inr hp
        · rw [Ft.put_ne q] at hj; exact st.own a ⟨j, hj⟩
      · obtain ⟨o', e'⟩ := st.there a o ea
        exact ⟨o', by rw [upd_ne (ne_of_none ea hp)]; exact e'⟩
end
end Rf
namespace Rf
open PySem L2 PyProof.Rows
section
variable {X : Cx} {g : G} {Wx : WX} {pr : Nat → Bool} {E : Ev} {st : Stmt}
/-- name = [..] on one line, the list shared from then on -/
theorem st_asgLcF {i : Nat} {r : Env → R W} (h : PS X st (tAsg (tW X.K g Wx r) (gName i))) (hE : E.w = r) (hk : E.pk = .no) : St X g Wx pr st (asgEv false i E pr) := by
  refine PS.imp h fun D σ H q => ?_
  obtain ⟨env, S, ft, R, m⟩ := tS_iff.mp q
  unfold asgEv at m
  split at m
  · exact m.elim
  · rename_i hc
    have hc : pr i = false ∧ i < env.length := by simpa using hc
    have e1 : ∀ env, ((E.e env).fl fun d env' => Fl.nx (env'.set i (some (.sh d)))) = (E.w env).fl fun w env' => .nx (env'.set i (some (.sh w.frz))) := fun env => by
      unfold Ev.e
      rw [hk]
      cases E.w env <;> rfl
    have q2 : tS X.K g Wx pr (fun env => (E.w env).fl fun w env' => .nx (env'.set i (some (.sh w.frz)))) D σ H := tS_iff.mpr ⟨env, S, ft, R, by rw [← e1]; simpa using m⟩
    rw [hE] at q2
    refine tW_mono (tW_fl q2) fun v H1 ⟨env1, S1, ft1, w, R1, m1⟩ => ?_
    obtain ⟨R2, rd⟩ := R1.shareLast
    obtain ⟨ft2, R3, ho⟩ := R2.setSh (i := i) rd
    exact m1 _ _ H1 ft2 R3 ((Step.share R1).post ho) (Kp.set hc.1)
end
end Rf

namespace Rf
open PySem L2 PyProof.Rows
open PySem.W (findIn subIn typeIn keepIn)
open Builtin.ObjectAttr (storeInOwnDict ownDictForStores)

def visB (sc : Scope) (x : Str) : Bool := match sc.names.lookup x with
  | some .local => true
  | some .cell => true
  | some .free => true
  | _ => false
def locB (sc : Scope) (x : Str) : Bool := match sc.names.lookup x with
  | some .local => true
  | some .cell => true
  | _ => false
def isLocal (sc : Scope) (x : Str) : Bool := match sc.names.lookup x with
  | some .local => true
  | _ => false
def glB (sc : Scope) (x : Str) : Bool := match sc.names.lookup x with
  | some .globalImplicit => true
  | _ => false
theorem visB_ok {sc : Scope} {x : Str} (h : visB sc x = true) : Vis sc x := by
  unfold visB at h
  unfold Vis
  split at h <;> first | (rename_i e; rw [e]; simp; done) | cases h
theorem locB_ok {sc : Scope} {x : Str} (h : locB sc x = true) : L2.Loc sc x := by
  unfold locB at h
  unfold L2.Loc
  split at h <;> first | (rename_i e; rw [e]; simp; done) | cases h
theorem isLocal_ok {sc : Scope} {x : Str} (h : isLocal sc x = true) : sc.names.lookup x = some .local := by
  unfold isLocal at h
  split at h <;> first | assumption | cases h
theorem glB_ok {X : Cx} {x : Str} (h : glB X.env.scope x = true) : Gl X x := by
  unfold glB at h
  show X.env.scope.names.lookup x = some .globalImplicit
  split at h <;> first | assumption | cases h
def plainNm (x : Str) : Bool := !(x == ("__debug__" : Str)) && !(x == ("__name__" : Str)) && !(x == ("__classdict__" : Str))
theorem plainNm_ok {x : Str} (h : plainNm x = true) : (x == ("__debug__" : Str)) = false ∧ x ≠ "__name__" ∧ (x == ("__classdict__" : Str)) = false := by
  unfold plainNm at h
  simp only [Bool.and_eq_true, Bool.not_eq_true'] at h
  exact ⟨h.1.1, fun z => by rw [z] at h; simp at h, h.2⟩


def xbN : Nat → String
  | 1 => "OverflowError"
  | 2 => "RuntimeError"
  | _ => "ValueError"
def xbNew : Nat → String
  | 1 => "OverflowError.__new__"
  | 2 => "RuntimeError.__new__"
  | _ => "ValueError.__new__"
def xbIni : Nat → String
  | 1 => "OverflowError.__init__"
  | 2 => "RuntimeError.__init__"
  | _ => "ValueError.__init__"
def xbMro : Nat → List Value
  | 1 => [.type "OverflowError", .type "ArithmeticError", .type "Exception", .type "BaseException", .type "object"]
  | 2 => [.type "RuntimeError", .type "Exception", .type "BaseException", .type "object"]
  | _ => [.type "ValueError", .type "Exception", .type "BaseException", .type "object"]
theorem xb_base : ∀ k, ExcBaseFacts (xbN k) (xbNew k) (xbIni k) (xbMro k)
  | 0 => F.excBase_ValueError
  | 1 => F.excBase_OverflowError
  | 2 => F.excBase_RuntimeError
  | _ + 3 => F.excBase_ValueError
theorem xb_store : ∀ k, StoreFacts (xbN k) (xbMro k) "object.__setattr__" "object"
  | 0 => F.store_ValueError
  | 1 => F.store_OverflowError
  | 2 => F.store_RuntimeError
  | _ + 3 => F.store_ValueError

/-- an own error's class: its base k, its field f -/
structure Xc (K : PySem.W.Frag) (C : Addr) (k : Nat) (f : Str) : Prop where
  new : PySem.W.excInitIn K C (xbMro k) (xbNew k) = true
  ov : PySem.W.excOver K C (xbMro k) = true
  hd : PySem.W.hasDictIn K C = true
  sa : findIn K (.ref C) "__setattr__" = some (some (.builtin "object.__setattr__"))
  no : findIn K (.ref C) f = some none
  ga : findIn K (.ref C) "__getattribute__" = some (some (.builtin "BaseException.__getattribute__"))
  gg : findIn K (.ref C) "__getattr__" = some none
  ex : subIn K (.ref C) (.type "BaseException") = some true
  ty : typeIn K (.ref C) = some (.type "type")
  kp : keepIn K (.ref C) = true
theorem Xc.xf {K : PySem.W.Frag} {C : Addr} {k : Nat} {f : Str} (T : Xc K C k f) : XfC K C := ⟨T.ga, T.gg, T.ex, T.hd⟩
theorem Xc.taker {K : PySem.W.Frag} {C : Addr} {k : Nat} {f : Str} (T : Xc K C k f) : PySem.W.takerIn K C f = some none := by
  unfold PySem.W.takerIn
  rw [T.no]
  rfl
def xcB (K : PySem.W.Frag) (C : Addr) (k : Nat) (f : Str) : Bool :=
  PySem.W.excInitIn K C (xbMro k) (xbNew k) && (PySem.W.excOver K C (xbMro k) && (PySem.W.hasDictIn K C && (decide (findIn K (.ref C) "__setattr__" = some (some (.builtin "object.__setattr__"))) && (decide (findIn K (.ref C) f = some none) &&
    (decide (findIn K (.ref C) "__getattribute__" = some (some (.builtin "BaseException.__getattribute__"))) && (decide (findIn K (.ref C) "__getattr__" = some none) && (decide (subIn K (.ref C) (.type "BaseException") = some true) &&
      (decide (typeIn K (.ref C) = some (.type "type")) && keepIn K (.ref C)))))))))
theorem xcB_ok {K : PySem.W.Frag} {C : Addr} {k : Nat} {f : Str} (h : xcB K C k f = true) : Xc K C k f := by
  unfold xcB at h
  simp only [Bool.and_eq_true, decide_eq_true_eq] at h
  obtain ⟨h1, h2, h3, h4, h5, h6, h7, h8, h9, h10⟩ := h
  exact ⟨h1, h2, h3, h4, h5, h6, h7, h8, h9, h10⟩

section
variable {X : Cx} {pins : List (Addr × Obj)} {σ : L2.St} {H : Hp} {s : Shared} {a C : Addr} {k : Nat} {f : Str} {y : V} {u : Value} {Q : Unit → Shared → Prop} {E : Value → Shared → Prop} {A : Around}
/-- the field of a new error is set -/
theorem x_set (T : Xc X.K C k f) (I : L2.Inv X pins σ H s) (e : H a = some (exo a C none)) (ry : RelV y u)
    (h : ∀ dx s', H dx = none → dx ≠ a → L2.Inv X pins σ (upd (upd H dx (exd dx [(f, y)])) a (exo a C (some dx))) s' → Q () s') : wpAny (model X.prog X.w) A (setAttr (.ref a) f u) Q E s := by
  obtain ⟨t1, ho⟩ := exo_at I.hok e
  have KX := I.kIn
  obtain ⟨hp, gn, dr, tk, os⟩ := s
  have In : PySem.W.InstAt hp a { cls := .ref C, dict := none, data := .fields #[.ref t1, .none, .none, .none, .bool false, .none] } C none := ⟨ho, rfl, rfl, trivial⟩
  refine PySem.W.set_plain KX In T.sa ?_
  refine PySem.W.osa_openX (xb_store k) KX In T.ov T.taker fun b => ?_
  obtain ⟨cd, hc, hh⟩ := PySem.W.any_some T.hd
  have Lc : PySem.W.Looks (model X.prog X.w) hp (classData C) cd := PySem.W.looks_clsIn KX hc
  have lt : a < hp.objs.size := Heap.lt_size ho
  have ne : hp.objs.size ≠ a := Nat.ne_of_gt lt
  obtain ⟨nm, bs, mro, ns, qn, dct, sn, sb, ab, col, dl⟩ := cd
  dsimp only at hh
  subst hh
  show wpAny _ _ (storeInOwnDict _ _ _ _ _ b) _ _ _
  unfold storeInOwnDict ownDictForStores
  repeat (first | with_reducible refine PySem.HandSPX.store_in_new ?_ ?_ | with_reducible refine wpAny_loadPart_at ho ?_ | with_reducible refine Lc.at ?_ | wp_step)
  · exact ⟨_, #[], _, (Heap.get?_update_ne _ _ _ _ ne).trans (Heap.get?_push_at rfl rfl), rfl, fun _ z => absurd z (by simp), fun _ => rfl⟩
  · intro h' tk' hn sb'
    have old : ∀ b o, hp.get? b = some o → b ≠ a → h'.get? b = some o := fun b o z nb =>
      (sb'.2 b (Nat.ne_of_lt (Heap.lt_size z))).trans ((Heap.get?_update_ne _ _ _ _ nb).trans (Heap.get?_push_of_some _ z))
    have ha' : h'.get? a = some { cls := .ref C, dict := some hp.objs.size, data := .fields #[.ref t1, .none, .none, .none, .bool false, .none] } :=
      (sb'.2 a (Ne.symm ne)).trans (Heap.get?_update_self _ (Heap.get?_push_of_some _ ho) rfl)
    -- first the dict is laid, the error as it was; then the error
    have G1 : ∀ b o, hp.get? b = some o → (h'.update a fun o => { o with dict := none }).get? b = some o := fun b o z => by
      by_cases q : b = a
      · subst q
        rw [ho] at z; cases z
        rw [Heap.get?_update_self _ ha' rfl]
      · exact (Heap.get?_update_ne _ _ _ _ q).trans (old b o z q)
    obtain ⟨oD, es, ep, hoD, hr⟩ := hn
    have hnD : (h'.update a fun o => { o with dict := none }).Ns1 hp.objs.size (fun y => if y = f then some u else none) := ⟨oD, es, ep, (Heap.get?_update_ne _ _ _ _ ne).trans hoD, hr⟩
    have I1 := I.laid (t' := tk') (a := hp.objs.size) (o := exd hp.objs.size [(f, y)]) G1 (Nat.le_refl _) (exd_ok hnD (relO_put (fs := []) ry fun _ => True.intro))
    have hd : H hp.objs.size = none := I.hok.fresh (Nat.le_refl _)
    refine h _ _ hd ne (I1.write (t' := tk') (x := a) (e := a) (o := exo a C (some hp.objs.size)) (by rw [upd_ne (Ne.symm ne), e]; exact True.intro) (.inl rfl) (fun b o nb z => ?_) ⟨_, ha'⟩ (exo_ok ha'))
    have z2 : (h'.update a fun o => { o with dict := none }).get? b = h'.get? b := Heap.get?_update_ne _ _ _ _ nb
    exact z2 ▸ z
/-- the base's __init__ -/
theorem x_ini {us : List Value} {Q : Value → Shared → Prop} (T : Xc X.K C k f) (I : L2.Inv X pins σ H s) (e : H a = some (exo a C none)) (hl : us.length ≤ sizeLine) (h : ∀ s', L2.Inv X pins σ H s' → Q .none s') :
    wpAny (model X.prog X.w) A (call (.builtin (xbIni k)) (.ref a :: us)) Q E s := by
  obtain ⟨_, _, _, _, _, _, _, _, _, _, _, _, _, _, _, _, hC, hT⟩ := PySem.W.excInit_of I.kIn T.new
  obtain ⟨t1, ho⟩ := exo_at I.hok e
  have same : upd H a (exo a C none) = H := funext fun b => by
    by_cases q : b = a
    · subst q; rw [upd_same]; exact e.symm
    · exact upd_ne q
  obtain ⟨hp, gn, dr, tk, os⟩ := s
  refine wpAny_call (PySem.HandSPX.init_base (xb_base k) hT hC ho hl fun h' _ keep hx => h _ ?_)
  rw [← same]
  exact I.write (t' := tk) (x := a) (e := a) (o := exo a C none) (by rw [e]; exact True.intro) (.inl rfl) keep ⟨_, hx⟩ (exo_ok hx)
end
end Rf

namespace Rf
open PySem L2 PyProof.Rows
open PySem.W (findIn subIn typeIn keepIn)

/-- the name of the base of an own error -/
structure XBs (K : PySem.W.Frag) (mg : Str → Option Value) (b : Str) (k : Nat) : Prop where
  at_ : (∃ Cb, mg b = some (.ref Cb) ∧ PySem.W.specialIn K (.ref Cb) "__getattribute__" = some (some (.builtin "type.__getattribute__")) ∧ PySem.W.readsIn K Cb (.type "type") = true ∧ PySem.W.findCls K (.ref Cb) (.type "type") "__init__" = some (.val (.builtin (xbIni k)))) ∨
    (mg b = none ∧ bootBuiltins b = some (.type (xbN k)) ∧ PySem.W.findCls K (.type (xbN k)) (.type "type") "__init__" = some (.val (.builtin (xbIni k))))
theorem xb_hand : ∀ k, PySem.W.handedIn (.builtin (xbIni k)) = true
  | 0 => by decide +kernel
  | 1 => by decide +kernel
  | 2 => by decide +kernel
  | _ + 3 => by show PySem.W.handedIn (.builtin "ValueError.__init__") = true; decide +kernel
theorem xb_typ : ∀ k, typeOf (.type (xbN k)) = pure (.type "type")
  | 0 => by show typeOf (.type "ValueError") = _; kernel_rfl
  | 1 => by show typeOf (.type "OverflowError") = _; kernel_rfl
  | 2 => by show typeOf (.type "RuntimeError") = _; kernel_rfl
  | _ + 3 => by show typeOf (.type "ValueError") = _; kernel_rfl
theorem xb_stub : ∀ k, Manifest.isStub (xbN k) = false
  | 0 => by decide +kernel
  | 1 => by decide +kernel
  | 2 => by decide +kernel
  | _ + 3 => by show Manifest.isStub "ValueError" = false; decide +kernel

section
variable {X : Cx} {k : Nat} {f b self v t : Str} {p1 p2 p3 p4 pos pos' pt : Pos} {j : Nat}
/-- B.__init__(self, text) -/
theorem ps_xi1 (hg : Gl X b) (hpb : plainNm b = true) (B : XBs X.K X.mg b k) (hi : X.N[0]? = some self) (hv : Vis X.env.scope self) (hps : plainNm self = true) (hl : (p2.endLine == pos.line) = true) :
    PS X (.Expr (.Call (.Attribute (.Name b p1) "__init__" p2) [.Name self p3, .Constant (.str t) j p4] [] pos) pos')
      (fun D σ H => ∃ a C, σ[0]? = some (some (.ref a)) ∧ Xc X.K C k f ∧ H a = some (exo a C none) ∧ D.nx σ H) := by
  obtain ⟨b1, b2, b3⟩ := plainNm_ok hpb
  obtain ⟨s1, s2, s3⟩ := plainNm_ok hps
  have ha : PA X [.Name self p3, .Constant (.str t) j p4] (tCons (tVar 0) (tCons (tC (.str t)) tNil)) := pa_cons (pe_var hi hv s1 s3) (pa_cons pe_str pa_nil)
  suffices key : PE X (.Call (.Attribute (.Name b p1) "__init__" p2) [.Name self p3, .Constant (.str t) j p4] [] pos) (fun σ H Q => ∃ a C, σ[0]? = some (some (.ref a)) ∧ Xc X.K C k f ∧ H a = some (exo a C none) ∧ Q .non H) from ps_expr key
  refine ⟨fun pins s σ H Q I h => ?_⟩
  obtain ⟨a, C, e1, T, e2, q⟩ := h
  have tail : ∀ {s' : Shared}, L2.Inv X pins σ H s' → wpAny (model X.prog X.w) X.A (callWith pos (Value.builtin (xbIni k)) [] (backTo pos (starEach [.Name self p3, .Constant (.str t) j p4] X.env)) []) (EP X pins σ Q) X.xe s' := fun {s'} I' => by
    refine PyProof.Rows.callWith_method1 (thn (ha.run pos pins s' σ H (fun vs H1 => H1 = H ∧ ∃ w, vs = [.ref a, w]) I' ⟨.ref a, e1, ⟨rfl, _, rfl⟩⟩) fun us s2 ⟨vs, H1, I2, r, hz, w, ew⟩ => ?_) rfl rfl



    subst hz ew
    cases r with
    | @cons _ u0 _ ur r1 r2 =>
      obtain rfl : u0 = Value.ref a := r1
      exact x_ini T I2 e2 (by rw [← Paired.length r2, sizeLine_eq]; simp) fun s3 I3 => ⟨.non, H1, I3, rfl, q⟩
  refine PySem.W.methodCall_KW ?_ (methTree (o := .Name b p1) rfl (by rfl) hl)
  rcases B.at_ with ⟨Cb, hm, c1, c2, c3⟩ | ⟨hm, c1, c2⟩
  · exact ld_glob I hg hm (PySem.W.method_cls I.kIn c1 (PySem.W.cls_value I.kIn c2 c3 (xb_hand k) (tail (I.tok _)))) b1
  · refine ld_blt I hg hm c1 ?_ b2 b1
    obtain ⟨m, fr⟩ := I.fr
    exact PySem.W.method_type fr I.ok.mod.kin (xb_typ k) (xb_stub k) c2 (xb_hand k) (tail (I.tok _))
/-- self.f = v -/
theorem ps_xi2 (hi : X.N[0]? = some self) (hj : X.N[1]? = some v) (hv : Vis X.env.scope self) (hw : Vis X.env.scope v) (hps : plainNm self = true) (hpv : plainNm v = true) :
    PS X (.Assign [.Attribute (.Name self p1) f p2] (.Name v p3) pos)
      (fun D σ H => ∃ a C y, σ[0]? = some (some (.ref a)) ∧ σ[1]? = some (some y) ∧ Xc X.K C k f ∧ H a = some (exo a C none) ∧ ∀ dx, H dx = none → dx ≠ a → D.nx σ (upd (upd H dx (exd dx [(f, y)])) a (exo a C (some dx)))) := by
  obtain ⟨s1, s2, s3⟩ := plainNm_ok hps
  obtain ⟨v1, v2, v3⟩ := plainNm_ok hpv
  refine ⟨fun pins s σ H D I h => ?_⟩
  obtain ⟨a, C, y, e1, e2, T, e3, q⟩ := h
  refine plainObj_wpAny_Assign_Attribute (thn ((pe_var hj hw v1 v3).run pins s σ H (fun z H1 => z = y ∧ H1 = H) I ⟨y, e2, rfl, rfl⟩) fun u s4 ⟨z, H1, I1, r1, z1, z2⟩ => ?_) (by rfl)
  subst z1 z2
  refine thn ((pe_var hi hv s1 s3).run pins s4 σ H1 (fun z H2 => z = .ref a ∧ H2 = H1) I1 ⟨_, e1, rfl, rfl⟩) fun u' s5 ⟨z', H2, I2, r2, z1, z2⟩ => ?_
  subst z1 z2
  obtain rfl : u' = Value.ref a := r2
  exact x_set T I2 e3 r1 fun dx s6 n ne J => ⟨σ, _, J, q dx n ne⟩
end

/-- what an own error's __init__ promises -/
def spX (K : PySem.W.Frag) (k : Nat) (f : Str) : Sp := fun vs H Q _ => ∃ a C y, vs = [.ref a, y] ∧ Xc K C k f ∧ H a = some (exo a C none) ∧ ∀ dx, H dx = none → dx ≠ a → Q .non (upd (upd H dx (exd dx [(f, y)])) a (exo a C (some dx)))
/-- the text of such an __init__ -/
def xiB (b f : Str) (ps : List Str) (sc : Scope) (body : List Stmt) : Bool := match body with
  | [.Expr (.Call (.Attribute (.Name b' _) i p2) [.Name s1 _, .Constant (.str _) _ _] [] pos) _, .Assign [.Attribute (.Name s2 _) f' _] (.Name v _) _] =>
    b' == b && (i == "__init__" && ((p2.endLine == pos.line) && (f' == f && (decide (ps = [s1, v]) && (s2 == s1 && (glB sc b && (visB sc s1 && (visB sc v && (plainNm s1 && (plainNm v && plainNm b))))))))))
  | _ => false
section
variable {K : PySem.W.Frag} {mg : Str → Option Value} {Pg : Program} {w : World} {base : Heap}
theorem xi_fn {k : Nat} {fI : Addr} {name qual b f : Str} {params : Arguments} {body : List Stmt} {scope : Scope} {dV kV doc pm cdv ct oc : Value} {an od : Option Addr} {osl : Array (Option Value)} {ps : List Str}
    (lk : K.lookup fI = some ⟨oc, od, .func (PySem.W.fnOf name qual params body scope dV kV doc pm an cdv ct), osl⟩) (hcd : PySem.W.codeIn K cdv qual = true) (S : FnScope ps ps scope) (c : xiB b f ps scope body = true) (B : XBs K mg b k) :
    FnG Pg w K mg base (CX Pg w) 1 fI (PySem.W.fnOf name qual params body scope dV kV doc pm an cdv ct) ps (spX K k f) := by
  unfold xiB at c
  split at c
  case h_2 => cases c
  rename_i b' p1 i p2 s1 p3 t j p4 pos pos' s2 p5 f' p6 v p7 p8
  simp only [Bool.and_eq_true, decide_eq_true_eq] at c
  obtain ⟨c1, c2, c3, c4, c5, c6, c7, c8, c9, c10, c11, c12⟩ := c
  cases eq_of_beq c1; cases eq_of_beq c2; cases eq_of_beq c4; cases eq_of_beq c6
  subst c5
  refine fng_of (k := 0) lk hcd S (fun vs H Q E ⟨a, C, y, e, _⟩ => by rw [e]; rfl) fun A outer s H vs Q E hr h => ?_
  obtain ⟨a, C, y, rfl, T, e, q⟩ := h
  refine ⟨_, pss_cons (ps_xi1 (k := k) (f := f) (glB_ok c7) c12 B rfl (visB_ok c8) c10 c3) (pss_cons (ps_xi2 (k := k) rfl rfl (visB_ok c8) (visB_ok c9) c10 c11) pss_nil), ?_⟩
  refine ⟨a, C, rfl, T, e, ?_⟩
  exact ⟨a, C, y, rfl, rfl, T, e, fun dx n ne => q dx n ne⟩
end
end Rf

namespace Rf
open PySem L2 PyProof.Rows
open PySem.W (findIn subIn typeIn keepIn)

/-- an own error in the context of a body: its class c, its field f -/
structure ErrOk (X : Cx) (g : G) (c : Nat) (f : Str) : Prop where
  ex : ∃ (k : Nat) (fI : Addr) (fd : FuncData) (ps : List Str), Xc X.K (g.ca c) k f ∧ findIn X.K (.ref (g.ca c)) "__init__" = some (some (.ref fI)) ∧ typeIn X.K (.ref fI) = some (.type "function") ∧
    FnG X.prog X.w X.K X.mg X.base (CX X.prog X.w) 1 fI fd ps (spX X.K k f) ∧ Binds X.K fd ps []

section
variable {X : Cx} {g : G} {Wx : WX} {c : Nat} {f x : Str} {e : Expr} {E : Ev} {p pos pos' : Pos} {pr : Nat → Bool}
/-- what is left of the making of an error -/
theorem x_left {H1 : Hp} {a C d : Addr} {fs : List (Str × V)} (ha : H1 a = none) (hd : H1 d = none) (ne : d ≠ a) :
    upd (del (upd (upd (upd H1 a (exo a C none)) d (exd d fs)) a (exo a C (some d))) a) d (.xd fs) = upd H1 d (.xd fs) := funext fun b => by
  by_cases q : b = d
  · rw [q, upd_same, upd_same]
  · rw [upd_ne q, upd_ne q]
    by_cases q2 : b = a
    · rw [q2, del_same, ha]
    · rw [del_ne q2, upd_ne q2, upd_ne q, upd_ne q2]
theorem pmk_x (O : ErrOk X g c f) (tk : Takes X Wx) (hr : Rm 2 X.A) (hg : Gl X x) (hm : X.mg x = some (.ref (g.ca c))) (hdb : (x == ("__debug__" : Str)) = false) (h : Snd X g Wx e E) :
    PMk X (.Call (.Name x p) [e] [] pos) (fun σ H Q => tE X.K g Wx E.e σ H fun v H1 => ∀ d, H1 d = none → Q (.ref (g.ca c)) (some d) (upd H1 d (.xd [(f, v)]))) := by
  obtain ⟨k, fI, fd, ps, T, iC, tI, F1, hb⟩ := O.ex
  intro pins s σ H Q I q
  refine wpAny_Call_Name_kw (ld_glob I hg hm ?_ hdb)
  have hs : PA X [e] (tCons (tE X.K g Wx E.e) tNil) := pa_cons h.pe pa_nil (h.ns _ _)
  refine PySem.W.callWith_K (h₀ := X.base) I.ok.mod.kin T.kp (thn (hs.run pos pins s σ H (fun vs H1 => ∃ v, vs = [v] ∧ ∀ d, H1 d = none → Q (.ref (g.ca c)) (some d) (upd H1 d (.xd [(f, v)]))) I (tE_mono q fun v H1 z => ⟨v, rfl, z⟩)) fun us s1 ⟨vs, H1, I1, r1, v, ev, q1⟩ => ⟨I1.kIn, ?_⟩) (h.ns _ _) rfl
  subst ev
  obtain ⟨u, rfl, ru⟩ := vals1 r1
  show wpAny _ _ (call (.ref (g.ca c)) [u]) _ _ _
  obtain ⟨_, _, _, _, _, _, _, _, _, _, _, _, _, _, _, _, hC, hT⟩ := PySem.W.excInit_of I1.kIn T.new
  have KX := I1.kIn
  obtain ⟨hp, gn, dr, tk0, os⟩ := s1
  have up1 : hp.objs.size ≤ hp.objs.size + 1 := Nat.le_succ _
  have na : H1 (hp.objs.size + 1) = none := I1.hok.fresh up1
  have kk : ∀ b o, hp.get? b = some o → ((hp.push (PySem.W.kdv_tup [u])).push (PySem.HandSPX.excO (g.ca c) hp.objs.size)).get? b = some o := fun b o z => Heap.get?_push_of_some _ (Heap.get?_push_of_some _ z)
  have at_ : ((hp.push (PySem.W.kdv_tup [u])).push (PySem.HandSPX.excO (g.ca c) hp.objs.size)).get? (hp.objs.size + 1) = some (PySem.HandSPX.excO (g.ca c) hp.objs.size) := by heap_get
  have I2 := I1.laid (t' := tk0) (a := hp.objs.size + 1) (o := exo (hp.objs.size + 1) (g.ca c) none) kk up1 (exo_ok at_)
  have hsp : spX X.K k f [.ref (hp.objs.size + 1), v] (upd H1 (hp.objs.size + 1) (exo (hp.objs.size + 1) (g.ca c) none)) (fun w H2 => w = .non ∧ ∃ d, H1 d = none ∧ d ≠ hp.objs.size + 1 ∧
      H2 = upd (upd (upd H1 (hp.objs.size + 1) (exo (hp.objs.size + 1) (g.ca c) none)) d (exd d [(f, v)])) (hp.objs.size + 1) (exo (hp.objs.size + 1) (g.ca c) (some d))) (fun _ _ _ => False) :=
    ⟨_, _, v, rfl, T, upd_same, fun dx n ne => ⟨rfl, dx, by rw [upd_ne ne] at n; exact n, ne, rfl⟩⟩
  have hl : ([Value.ref (hp.objs.size + 1), u] ++ ([] : List Value)).length = ps.length := (F1.len _ _ _ _ hsp : _)
  refine wpAny_call (PySem.HandSPX.call_own (xb_base k) hT hC (PySem.W.looks_findIn KX iC) (fun self => PySem.W.bind_fn KX self tI) (by rw [sizeLine_eq]; simp)
    (codeAny_mono (F1.run _ X.stack _ _ ⟨[Value.ref (hp.objs.size + 1), u], []⟩ ([Value.ref (hp.objs.size + 1), u] ++ []) _ _ (fun _ _ _ => False) (hr.make _ [u] []) (I2.env0.make _ [u] []) (hb _ _ I2.kIn hl) (.cons (show L2.RelV (.ref (hp.objs.size + 1)) (.ref (hp.objs.size + 1)) from rfl) (.cons ru .nil)) hsp) fun r s' hq => ?_))
  match r, hq with
  | .error er, hq => exact passes_call tk (fun _ _ _ _ z => z.elim) pins σ _ _ er s' I2 hq
  | .ok (.ret w), hq =>
    obtain ⟨w', H2, os2, bare2, un2, hok2, rv, ⟨ew, d, nd, ne, eH⟩⟩ := hq
    subst ew
    obtain ⟨h2, g2, d2, t2, os'⟩ := s'
    refine ⟨rv, mk_end (fs := [(f, v)]) (raises_own T.ex T.ty) I1 up1 kk un2 hok2 os2 bare2 (by rw [eH]; exact upd_same) (by rw [eH, upd_ne ne]; exact upd_same) nd ?_⟩
    rw [eH, x_left na nd ne]
    exact q1 d nd
  | .ok .next, hq => exact hq.elim
  | .ok .brk, hq => exact hq.elim
  | .ok .cont, hq => exact hq.elim
/-- raise C(e) -/
theorem st_rais (hc : X.calm = true) (O : ErrOk X g c f) (tk : Takes X Wx) (hr : Rm 2 X.A) (hg : Gl X x) (hm : X.mg x = some (.ref (g.ca c))) (hdb : (x == ("__debug__" : Str)) = false) (h : Snd X g Wx e E) :
    St X g Wx pr (.Raise (some (.Call (.Name x p) [e] [] pos)) none pos') (fun env => (E.e env).fl fun d env' => .exc (.ins c [f] [d]) env') := by
  refine PS.imp (ps_raise hc tk (pmk_x O tk hr hg hm hdb h)) fun D σ H q => tE_mono (tE_fl q) fun v H1 ⟨env, S, ft, d, R, rd, m⟩ dx nd => ?_
  have nS : S dx = none := R.freshS nd
  have R2 := R.laid (o := .xd [(f, v)]) nd
  have st := Step.laid (o := .xd [(f, v)]) R nd
  exact m _ _ σ _ _ ft R2 st (fun _ _ => rfl) ⟨rfl, dx, [v], rfl, upd_same, .one (RD.mono st.same d v rd), rfl⟩
end
end Rf

namespace Rf
open PySem L2 PyProof.Rows

/-- one clause: the class, the name's slot, what the suite wishes -/
structure Cl where
  c : Value
  i : Nat
  ts : Addr → Value → Option Addr → TS
/-- the suite's ends: the name is gone behind it -/
def Cl.ends (q : Cl) (D : Ends) : Ends := { nx := fun σ H => D.nx (σ.set q.i none) H, rt := D.rt, bk := fun σ H => D.bk (σ.set q.i none) H, ct := fun σ H => D.ct (σ.set q.i none) H }
def wCls (K : PySem.W.Frag) (Wo : WX) (D : Ends) : List Cl → WX
  | [] => Wo
  | q :: r => fun cls d σ H => match PySem.W.exmOne K cls q.c with
    | some true => ∀ a, H a = none → q.ts a cls d (q.ends D) (σ.set q.i (some (.ref a))) H
    | some false => wCls K Wo D r cls d σ H
    | none => False
inductive Cls? (X : Cx) : List ExceptHandler → List Cl → Prop
  | nil : Cls? X [] []
  | cons {x n : Str} {q : Cl} {b : Stmt} {su : List Stmt} {np cp : Pos} {hs : List ExceptHandler} {l : List Cl} (hg : Gl X x) (hd : (x == ("__debug__" : Str)) = false) (hm : X.mg x = some q.c) (hi : X.N[q.i]? = some n) (hl : X.env.kindOf n = some .local)
      (body : ∀ (a : Addr) (o : Obj) (cls : Value) (d : Option Addr) (pn : List (Addr × Obj)), Zc cls d o → (∃ vs, o.data = .fields vs) → PSs (X.suite a ((a, o) :: pn)) (b :: su) (q.ts a cls d)) (r : Cls? X hs l) :
      Cls? X (.ExceptHandler (some (.Name x np)) (some n) (b :: su) cp :: hs) (q :: l)

section
variable {X : Cx} {pins : List (Addr × Obj)} {σ : L2.St} {H : Hp} {D : Ends} {Wo : WX} {a : Addr} {cls : Value} {d : Option Addr} {B : Heap} {s sI : Shared}
/-- an exception that has landed in the frame: what is known of it -/
structure Landed (X : Cx) (pins : List (Addr × Obj)) (σ : L2.St) (H : Hp) (a : Addr) (cls : Value) (d : Option Addr) (B : Heap) (s sI : Shared) : Prop where
  I : L2.Inv X pins σ H sI
  nb : ∀ b o, sI.heap.get? b = some o → b ∉ frs X.stack → B.get? b = some o
  na : H a = none
  os : s.os = sI.os
  ag : AllBare s.gens
theorem Landed.inv (L : Landed X pins σ H a cls d B s sI) {h : Heap} (fl : HandSPX.FlyingZ B (X.env :: X.outer) a (Zc cls d) h) (up : sI.heap.UpToSlots h) : L2.Inv X pins σ H { s with heap := h } := L.I.landed L.nb fl.1 up L.os L.ag
/-- the state in an except suite -/
theorem Landed.suite (L : Landed X pins σ H a cls d B s sI) (hf : X.env.frame = some X.env.locals) {h : Heap} (fl : HandSPX.FlyingZ B (X.env :: X.outer) a (Zc cls d) h) (up : sI.heap.UpToSlots h) :
    ∃ o, h.get? a = some o ∧ Zc cls d o ∧ (∃ vs, o.data = .fields vs) ∧ L2.Inv (X.suite a ((a, o) :: (X.pn ++ pins))) [] σ H { s with heap := h } := by
  obtain ⟨o, vs, e, z, hd⟩ := fl.there
  have off : a ∉ frs (X.env :: X.outer) := fun m => by
    obtain ⟨_, o', e', nf⟩ := fl.2.2.1.mem m
    rw [e] at e'; cases e'
    exact nf _ hd
  refine ⟨o, e, z, ⟨vs, hd⟩, (L.inv fl up).suite e hd L.na (fun q => off (List.mem_filterMap.mpr ⟨X.env, List.mem_cons_self, by rw [hf, q]⟩)) fun m => ?_⟩
  obtain ⟨en, me, q⟩ := List.mem_filterMap.mp m
  exact off (List.mem_filterMap.mpr ⟨en, List.mem_cons_of_mem _ me, q⟩)
/-- no clause is for it -/
theorem land_none (hs : X.stack = X.env :: X.outer) (hf : X.env.frame = some X.env.locals) (tk : Takes X Wo) (L : Landed X pins σ H a cls d B s sI) {h : Heap} (fl : HandSPX.FlyingZ B (X.env :: X.outer) a (Zc cls d) h) (up : sI.heap.UpToSlots h) (w : Wo cls d σ H) :
    wpAny (model X.prog X.w) X.A (handleBy (.ref a) X.env []) (SP X pins D) X.xe { s with heap := h } := by
  refine wpAny_handleBy_nil ?_
  have go : wpAny (model X.prog X.w) X.A (setFlight (.ref a) X.env.frame) (fun _ s4 => wpAny (model X.prog X.w) X.A (throw (.ref a) : Sem Flow) (SP X pins D) X.xe s4) X.xe { s with heap := h } := by
    rw [hf]
    exact HandSPX.setFlight_upZ fl fun h4 hh up4 => wpAny_throw (tk _ _ ⟨a, B, sI, pins, σ, H, cls, d, rfl, L.I, L.nb, up.trans up4, .inr (.inr (by rw [hs]; exact hh)), L.na, L.os, L.ag, w⟩)
  obtain ⟨_, _, _, o, vs, T, oT, ts, e, _, hd, h1, _⟩ := id fl
  unfold PySem.passOn
  refine wpAny_bind (wpAny_field e hd h1 ?_)
  rw [if_neg (show ¬ ((Value.ref T == Value.none) = true) by simp)]
  first
    | exact wpAny_bind (wpAny_pure (wpAny_bind go))
    | exact wpAny_bind go
theorem land_in (hs : X.stack = X.env :: X.outer) (hf : X.env.frame = some X.env.locals) (hN : X.N.Nodup) (tk : Takes X Wo) (L : Landed X pins σ H a cls d B s sI) {h : Heap} (fl : HandSPX.FlyingZ B (X.env :: X.outer) a (Zc cls d) h) (up : sI.heap.UpToSlots h) :
    ∀ {hds : List ExceptHandler} {l : List Cl}, Cls? X hds l → wCls X.K Wo D l cls d σ H → wpAny (model X.prog X.w) X.A (handleBy (.ref a) X.env hds) (SP X pins D) X.xe { s with heap := h }
  | _, _, .nil, w => land_none hs hf tk L fl up w
  | _, _, @Cls?.cons _ x n q b su np cp hds l hg hd hm hi hl body r, w => by
    have ok := L.I.ok
    obtain ⟨o, eo, z, _, S0⟩ := L.suite hf fl up
    have LT : PySem.W.Looks (model X.prog X.w) h (typeOf (.ref a)) cls := fun A Q E s' k c => wpAny_typeOf_ref (k _ _ eo) (by rw [z.1]; exact c)
    refine wpAny_handleBy_cons (codeAny_handlers_test (ld_glob (X := X.suite a ((a, o) :: (X.pn ++ pins))) S0 hg hm ?_ hd)) (by intro e; cases e)
    unfold wCls at w
    cases e1 : PySem.W.exmOne X.K cls q.c with
    | none => rw [e1] at w; exact w.elim
    | some t =>
      rw [e1] at w
      refine (PySem.W.exm_one (M := model X.prog X.w) (L.inv fl up).kIn LT e1).here ?_
      cases t with
      | false => exact land_in hs hf hN tk L fl up r w
      | true =>
        refine codeAny_handlers_suite_as (HandSPX.lands_againZ fl fun h4 fl4 up4 => ?_)
        obtain ⟨o4, _, z4, d4, S4⟩ := L.suite hf fl4 (up.trans up4)
        refine store_ok (X := X.suite a ((a, o4) :: (X.pn ++ pins))) (v := .ref a) S4 hN hi (.inl hl) rfl (fun s5 S5 => ?_) (.inr hl)
        refine wpAny_mono ((body a o4 cls d (X.pn ++ pins) z4 d4).run [] s5 _ H (q.ends D) S5 (w a L.na)) (fun f s6 c => ?_) fun _ _ c => c.elim
        match f, c with
        | .next, ⟨σ6, H6, S6, q6⟩ => exact gone_ok (S6.unsuite ok) hN hi hl fun s7 J => ⟨_, _, J, q6⟩
        | .brk, ⟨σ6, H6, S6, q6⟩ => exact gone_ok (S6.unsuite ok) hN hi hl fun s7 J => ⟨_, _, J, q6⟩
        | .cont, ⟨σ6, H6, S6, q6⟩ => exact gone_ok (S6.unsuite ok) hN hi hl fun s7 J => ⟨_, _, J, q6⟩
        | .ret u, ⟨v6, σ6, H6, S6, r6, q6⟩ => exact gone_ok (S6.unsuite ok) hN hi hl fun s7 J => ⟨_, _, _, J, r6, q6⟩
end
section
variable {X : Cx} {body : List Stmt} {h0 : ExceptHandler} {hds : List ExceptHandler} {l : List Cl} {pos : Pos} {tb : WX → TS} {Wo : WX}
theorem ps_tryN (hs : X.stack = X.env :: X.outer) (hf : X.env.frame = some X.env.locals) (hN : X.N.Nodup) (tk : Takes X Wo)
    (hb : ∀ (W : WX) (pn : List (Addr × Obj)) (xe : Value → Shared → Prop), Takes (X.tr pn xe) W → PassesOwn (model X.prog X.w) X.A X.env xe → PSs (X.tr pn xe) body (tb W))
    (hh : Cls? X (h0 :: hds) l) : PS X (.Try body (h0 :: hds) [] [] pos) (fun D σ H => tb (wCls X.K Wo D l) D σ H) := by
  refine ⟨fun pins s σ H D I h => wpAny_Try_except ?_⟩
  have ok := I.ok
  have hfr : X.A.frames = some (X.env :: X.outer) := by rw [ok.frames, hs]
  refine wpAny_mono ((hb (wCls X.K Wo D l) (X.pn ++ pins) _ (fun u s' xx => ?_) PassesOwn.looking).run [] s σ H D (I.toTry _) h) (fun f s1 c => ?_) fun _ _ c => c
  · obtain ⟨a, B, sI, pins', σ', H', cls, d, rfl, J, nb, up, sky, na, os, ag, w⟩ := xx
    have sky' : Sky B (X.env :: X.outer) a (Zc cls d) X.env.locals s'.heap := by rw [← hs]; exact sky
    show wpAny (model X.prog X.w) X.A (noteFrame (.ref a) X.env) _ _ _
    exact Sky.land Zc.steady hfr hf sky' fun h3 fl3 up3 => land_in hs hf hN tk ⟨J.ofTry ok, nb, na, os, ag⟩ fl3 (up.trans up3) hh w
  · match f, c with
    | .next, ⟨σ', H', J, q⟩ => exact wpAny_execs_nil ⟨σ', H', J.ofTry ok, q⟩
    | .brk, ⟨σ', H', J, q⟩ => exact ⟨σ', H', J.ofTry ok, q⟩
    | .cont, ⟨σ', H', J, q⟩ => exact ⟨σ', H', J.ofTry ok, q⟩
    | .ret u, ⟨v, σ', H', J, r, q⟩ => exact ⟨v, σ', H', J.ofTry ok, r, q⟩
end
end Rf

namespace Rf
open PySem L2 PyProof.Rows

def G.xit (g : G) (q : Option (Addr × Value × Option Addr)) : G := { g with xi := q }
section
variable {K : PySem.W.Frag} {g g' : G} {H S : Hp}
mutual
theorem RD.to (hf : g'.fa = g.fa) (hc : g'.ca = g.ca) : ∀ (d : D) (v : V), RD K g H d v → RD K g' H d v
  | .non, v, h => h
  | .bl b, v, h => h
  | .int i, v, h => h
  | .str s, v, h => h
  | .tup l, v, h => let ⟨a, vs, e1, h1, h2⟩ := h; ⟨a, vs, e1, h1, RDs.to hf hc l vs h2⟩
  | .lst l, v, h => let ⟨a, vs, e1, h1, h2⟩ := h; ⟨a, vs, e1, h1, RDs.to hf hc l vs h2⟩
  | .dK ks ds, v, h => let ⟨a, kvs, e1, h1, h2, h3⟩ := h; ⟨a, kvs, e1, h1, h2, RDs.to hf hc ds _ h3⟩
  | .dT ks ds, v, h => let ⟨a, kvs, e1, h1, h2, h3⟩ := h; ⟨a, kvs, e1, h1, h2, RDs.to hf hc ds _ h3⟩
  | .set l, v, h => h
  | .ins c fs ds, v, h => let ⟨a, dx, vs, e1, h1, h2, h3, h4⟩ := h; ⟨a, dx, vs, e1, by rw [hc]; exact h1, RDs.to hf hc ds vs h2, h3, by unfold ClsOk; rw [hc]; exact h4⟩
  | .fn i, v, h => by show v = .ref (g'.fa i); rw [hf]; exact h
  | .cls i, v, h => by show v = .ref (g'.ca i); rw [hc]; exact h
  | .scr l, v, h => h
  | .kt l, v, h => let ⟨a, vs, e1, h1, h2⟩ := h; ⟨a, vs, e1, h1, RDs.to hf hc l vs h2⟩
  | .any, v, h => trivial
theorem RDs.to (hf : g'.fa = g.fa) (hc : g'.ca = g.ca) : ∀ (ds : List D) (vs : List V), RDs K g H ds vs → RDs K g' H ds vs
  | [], vs, h => h
  | d :: ds, vs, h => let ⟨v, r, e1, h1, h2⟩ := h; ⟨v, r, e1, RD.to hf hc d v h1, RDs.to hf hc ds r h2⟩
end
mutual
theorem RW.to (hf : g'.fa = g.fa) (hc : g'.ca = g.ca) : ∀ (w : W) (v : V) (l : List Addr), (w.noXn = true ∨ g.xi = none) → RW K g S H w v l → RW K g' S H w v l
  | .sh d, v, l, q, h => ⟨h.1, RD.to hf hc d v h.2⟩
  | .oL ds, v, l, q, h => let ⟨a, vs, e1, e2, h1, h2⟩ := h; ⟨a, vs, e1, e2, h1, RDs.to hf hc ds vs h2⟩
  | .oK ks ds, v, l, q, h => let ⟨a, kvs, e1, e2, h1, h2, h3⟩ := h; ⟨a, kvs, e1, e2, h1, h2, RDs.to hf hc ds _ h3⟩
  | .oT ks ds, v, l, q, h => let ⟨a, kvs, e1, e2, h1, h2, h3⟩ := h; ⟨a, kvs, e1, e2, h1, h2, RDs.to hf hc ds _ h3⟩
  | .oI c fs ws, v, l, q, h => let ⟨a, dx, vs, l', e1, e2, h1, h2, h3, h4⟩ := h; ⟨a, dx, vs, l', e1, e2, by rw [hc]; exact h1, RWs.to hf hc ws vs l' (q.imp (fun z => z) id) h2, h3, by unfold ClsOk; rw [hc]; exact h4⟩
  | .xn c f d, v, l, q, h => by
    rcases q with q | q
    · cases q
    · obtain ⟨_, a, dd, u, e, _⟩ := h
      rw [q] at e; cases e
theorem RWs.to (hf : g'.fa = g.fa) (hc : g'.ca = g.ca) : ∀ (ws : List W) (vs : List V) (l : List Addr), (W.noXns ws = true ∨ g.xi = none) → RWs K g S H ws vs l → RWs K g' S H ws vs l
  | [], vs, l, q, h => h
  | w :: ws, vs, l, q, h =>
    let ⟨v, r, l1, l2, e1, e2, h1, h2⟩ := h
    ⟨v, r, l1, l2, e1, e2, RW.to hf hc w v l1 (q.imp (fun z => (Bool.and_eq_true_iff.mp (show (w.noXn && W.noXns ws) = true from z)).1) id) h1, RWs.to hf hc ws r l2 (q.imp (fun z => (Bool.and_eq_true_iff.mp (show (w.noXn && W.noXns ws) = true from z)).2) id) h2⟩
end
theorem noXn_at : ∀ {env : Env} {i : Nat} {w : W}, noXnE env = true → env[i]? = some (some w) → w.noXn = true
  | [], i, w, h, e => by simp at e
  | some x :: env, 0, w, h, e => by
    cases (Option.some.inj (Option.some.inj (by simpa using e)) : x = w)
    exact (Bool.and_eq_true_iff.mp (show (x.noXn && noXnE env) = true from h)).1
  | none :: env, 0, w, h, e => by simp at e
  | some x :: env, i + 1, w, h, e => noXn_at (Bool.and_eq_true_iff.mp (show (x.noXn && noXnE env) = true from h)).2 (by simpa using e)
  | none :: env, i + 1, w, h, e => noXn_at (show noXnE env = true from h) (by simpa using e)
theorem Rel.to (hf : g'.fa = g.fa) (hc : g'.ca = g.ca) {env : Env} {σ : L2.St} {ft : Ft} (q : noXnE env = true ∨ g.xi = none) (R : Rel K g env S σ H ft) : Rel K g' env S σ H ft :=
  ⟨R.sub, R.len, fun i w e => let ⟨v, e1, r⟩ := R.slot i w e; ⟨v, e1, RW.to hf hc w v _ (q.imp (fun z => noXn_at z e) id) r⟩, R.off, R.nd, R.dj, R.out⟩
theorem RX.to (hf : g'.fa = g.fa) (hc : g'.ca = g.ca) {x : D} {cls : Value} {dx : Option Addr} (h : RX K g H x cls dx) : RX K g' H x cls dx := by
  cases x <;> first | exact h | skip
  obtain ⟨e, d, vs, e2, e3, r, l⟩ := h
  exact ⟨by rw [hc]; exact e, d, vs, e2, e3, RDs.to hf hc _ _ r, l⟩
/-- a slot that holds nothing may hold nothing -/
theorem Rel.noσ {env : Env} {σ : L2.St} {ft : Ft} {i : Nat} (h : ∀ w, env[i]? ≠ some (some w)) (R : Rel K g env S σ H ft) : Rel K g env S (σ.set i none) H ft :=
  ⟨R.sub, by rw [List.length_set]; exact R.len, fun j w e => by
    have q : i ≠ j := fun z => h w (by rw [z]; exact e)
    rw [List.getElem?_set_ne q]; exact R.slot j w e, R.off, R.nd, R.dj, R.out⟩
theorem set_gone {env : Env} {i : Nat} (w : W) : (env.set i none)[i]? ≠ some (some w) := fun e => by
  by_cases l : i < env.length
  · rw [List.getElem?_set_self l] at e; cases e
  · rw [List.getElem?_eq_none (by simpa using l)] at e; cases e
end

section
variable {X : Cx} {g : G} {Wx : WX} {P : Prg} {Γ : Gam} {C : Call} {pr : Nat → Bool}
theorem noXn_app {w : W} : ∀ {env : Env}, w.noXn = true → noXnE env = true → noXnE (env ++ [some w]) = true
  | [], h, _ => by simp [noXnE, h]
  | some x :: env, h, k => by
    obtain ⟨k1, k2⟩ := Bool.and_eq_true_iff.mp (show (x.noXn && noXnE env) = true from k)
    show (x.noXn && noXnE (env ++ [some w])) = true
    rw [k1, noXn_app h k2]; rfl
  | none :: env, h, k => by
    show noXnE (env ++ [some w]) = true
    exact noXn_app h k
/-- the clauses of a try -/
inductive HsOk (X : Cx) (g : G) (Γ : Gam) (C : Call) (pr : Nat → Bool) : List ExceptHandler → CH → Prop
  | nil : HsOk X g Γ C pr [] .nil
  | cons {x n : Str} {k i : Nat} {b : Stmt} {su : List Stmt} {np cp : Pos} {hs : List ExceptHandler} {a : List CS} {r : CH} (hg : Gl X x) (hd : (x == ("__debug__" : Str)) = false) (hm : X.mg x = some (.ref (g.ca k))) (hi : X.N[i]? = some n) (hl : X.env.kindOf n = some .local)
      (body : ∀ (p : Addr) (o : Obj) (cls : Value) (d : Option Addr) (pn : List (Addr × Obj)), Zc cls d o → (∃ vs, o.data = .fields vs) → Sts (X.suite p ((p, o) :: pn)) (g.xit (some (p, cls, d))) WF pr (b :: su) (exs Γ.bare C pr a))
      (t : HsOk X g Γ C pr hs r) : HsOk X g Γ C pr (.ExceptHandler (some (.Name x np)) (some n) (b :: su) cp :: hs) (.cons k (some i) a r)
def clsOf (K : PySem.W.Frag) (g : G) (Γ : Gam) (C : Call) (pr : Nat → Bool) : CH → List Cl
  | .nil => []
  | .cons k i a r => ⟨.ref (g.ca k), i.getD 0, fun p cls d => tS K (g.xit (some (p, cls, d))) WF pr (exs Γ.bare C pr a)⟩ :: clsOf K g Γ C pr r
theorem HsOk.cls {hs : List ExceptHandler} {ch : CH} (h : HsOk X g Γ C pr hs ch) : Cls? X hs (clsOf X.K g Γ C pr ch) := by
  induction h with
  | nil => exact .nil
  | cons hg hd hm hi hl body _ ih => exact .cons (q := ⟨_, _, _⟩) hg hd hm hi hl body ih
theorem exh_ok (hx : g.xi = none) (hE : ∀ c k b, Γ.exm c k = some b → PySem.W.exmOne X.K (.ref (g.ca c)) (.ref (g.ca k)) = some b) {D : Ends} {c : Nat} {fs : List Str} {ds : List Rf.D} {cls : Value} {dx : Option Addr} {hs : List ExceptHandler} {ch : CH} (h : HsOk X g Γ C pr hs ch)
    {env : Env} {S H : Hp} {σ : L2.St} {ft : Ft} (R : Rel X.K g env S σ H ft) (rx : RX X.K g S (.ins c fs ds) cls dx) (m : AfterS X.K g Wx pr D σ S H ft.own (exh Γ C pr c fs ds ch env)) : wCls X.K Wx D (clsOf X.K g Γ C pr ch) cls dx σ H := by
  induction h with
  | nil => exact m cls dx σ S H ft R .refl (fun _ _ => rfl) rx
  | @cons x n k i b su np cp hs a r hg hd hm hi hl body t ih =>
    unfold exh at m
    unfold clsOf wCls
    obtain ⟨rfl, dd, vs, rfl, e3, r3, l3⟩ := id rx
    cases e1 : Γ.exm c k with
    | none => rw [e1] at m; exact m.elim
    | some t' =>
      rw [hE c k t' e1]
      rw [e1] at m
      cases t' with
      | false => exact ih m
      | true =>
        intro p hp
        match fs, ds, m, r3, l3, e3 with
        | [f], [d], m, r3, l3, e3 =>
          obtain ⟨u, us, rfl, ru, eu⟩ := r3
          cases (show us = [] from eu)
          simp only at m
          by_cases hc : (pr i || decide (env.length ≤ i)) = true
          · rw [if_pos hc] at m; exact m.elim
          rw [if_neg hc] at m
          have hc : pr i = false ∧ i < env.length := by simpa using hc
          have R1 : Rel X.K (g.xit (some (p, .ref (g.ca c), some dd))) env S σ H ft := Rel.to (g := g) (g' := g.xit (some (p, .ref (g.ca c), some dd))) rfl rfl (.inr hx) R
          have R2 := R1.store (i := i) (w := .xn c f d) (v := .ref p) (l := []) hc.2 ⟨rfl, p, dd, u, rfl, rfl, e3, RD.to (g := g) (g' := g.xit (some (p, .ref (g.ca c), some dd))) rfl rfl d u ru⟩ List.nodup_nil (fun j a _ z => by cases z) (fun a z => by cases z)
          have st2 : Step S H ft.own S H (ft.put i []).own := Step.refl.post fun a ⟨j, hj⟩ => by
            by_cases q : j = i
            · subst q; rw [Ft.put_self] at hj; cases hj
            · rw [Ft.put_ne q] at hj; exact ⟨j, hj⟩
          refine tS_iff.mpr ⟨_, S, _, R2, ?_⟩
          generalize exs Γ.bare C pr a (env.set i (some (.xn c f d))) = res at m
          have back : ∀ {env2 : Env} {S2 H2 : Hp} {σ2 : L2.St} {ft2 : Ft}, noXnE (env2.set i none) = true → Rel X.K (g.xit (some (p, .ref (g.ca c), some dd))) env2 S2 σ2 H2 ft2 → Rel X.K g (env2.set i none) S2 (σ2.set i none) H2 (ft2.off i) :=
            fun {env2 S2 H2 σ2 ft2} q R' => Rel.to (g := g.xit (some (p, .ref (g.ca c), some dd))) (g' := g) rfl rfl (.inl q) ((R'.lend i).noσ set_gone)
          have kp : ∀ {σ2 : L2.St}, Kp pr (σ.set i (some (.ref p))) σ2 → Kp pr σ (σ2.set i none) := fun {σ2} k' => ((Kp.set hc.1).trans k').trans (Kp.set hc.1)
          match res, m with
          | .nx env2, m =>
            intro σ2 S2 H2 ft2 R' st' k'
            simp only [outX] at m
            split at m
            · rename_i q
              exact m _ S2 H2 _ (back q R') ((st2.trans st').post fun a ⟨j, hj⟩ => ⟨j, Ft.off_sub hj⟩) (kp k')
            · exact m.elim
          | .rt w env2, m =>
            intro v σ2 S2 H2 ft2 R' st' k'
            simp only [outX] at m
            split at m
            · rename_i q
              obtain ⟨q1, q2⟩ := Bool.and_eq_true_iff.mp q
              have hl2 : env2.length = σ2.length := by simpa using R'.len
              have q3 := noXn_app q1 q2
              by_cases lt : i < env2.length
              · have e4 : env2.set i none ++ [some w] = (env2 ++ [some w]).set i none := by rw [List.set_append_left _ _ lt]
                have e5 : σ2.set i none ++ [some v] = (σ2 ++ [some v]).set i none := by rw [List.set_append_left _ _ (by omega)]
                have := back (env2 := env2 ++ [some w]) (by rw [← e4]; exact q3) R'
                rw [← e4, ← e5] at this
                exact m v (σ2.set i none) S2 H2 _ this ((st2.trans st').post fun a ⟨j, hj⟩ => ⟨j, Ft.off_sub hj⟩) (kp k')
              · have e4 : env2.set i none = env2 := List.set_eq_of_length_le (by omega)
                have e5 : σ2.set i none = σ2 := List.set_eq_of_length_le (by omega)
                rw [e4] at q3 m
                exact m v σ2 S2 H2 ft2 (Rel.to (g := g.xit (some (p, .ref (g.ca c), some dd))) (g' := g) rfl rfl (.inl q3) R') (st2.trans st') (by have := kp k'; rw [e5] at this; exact this)
            · exact m.elim
          | .bk _, m => exact m.elim
          | .ct _, m => exact m.elim
          | .exc _ _, m => exact m.elim
          | .bad, m => exact m.elim
        | [], _, m, _, _, _ => exact m.elim
        | _ :: _ :: _, _, m, _, _, _ => exact m.elim
        | [_], [], m, _, _, _ => exact m.elim
        | [_], _ :: _ :: _, m, _, _, _ => exact m.elim
/-- try: body, except .. as ..: suite -/
theorem st_try {body : List Stmt} {h0 : ExceptHandler} {hds : List ExceptHandler} {ch : CH} {pos : Pos} {fb : ES} (hs : X.stack = X.env :: X.outer) (hf : X.env.frame = some X.env.locals) (hN : X.N.Nodup) (tk : Takes X Wx) (hx : g.xi = none)
    (hE : ∀ c k b, Γ.exm c k = some b → PySem.W.exmOne X.K (.ref (g.ca c)) (.ref (g.ca k)) = some b)
    (hb : ∀ (W : WX) (pn : List (Addr × Obj)) (xe : Value → Shared → Prop), Takes (X.tr pn xe) W → PassesOwn (model X.prog X.w) X.A X.env xe → Sts (X.tr pn xe) g W pr body fb) (h : HsOk X g Γ C pr (h0 :: hds) ch) :
    St X g Wx pr (.Try body (h0 :: hds) [] [] pos) (fun env => match fb env with
      | .exc (.ins c fs ds) env' => exh Γ C pr c fs ds ch env'
      | .exc _ _ => .bad
      | r => r) := by
  refine PS.imp (ps_tryN (tb := fun W => tS X.K g W pr fb) hs hf hN tk hb h.cls) fun D σ H q => ?_
  obtain ⟨env, S, ft, R, m⟩ := tS_iff.mp q
  refine tS_iff.mpr ⟨env, S, ft, R, ?_⟩
  cases e : fb env with
  | exc x env1 =>
    rw [e] at m
    intro cls dx σ' S' H' ft' R' st k rx
    cases x <;> first | exact m.elim | skip
    exact exh_ok hx hE h R' rx (AfterS.pre m st k)
  | nx env1 => rw [e] at m; exact m
  | rt w env1 => rw [e] at m; exact m
  | bk env1 => rw [e] at m; exact m
  | ct env1 => rw [e] at m; exact m
  | bad => rw [e] at m; exact m
/-- e.f in the suite -/
theorem s_xfld {p : Addr} {o : Obj} {cls : Value} {d : Option Addr} {pn : List (Addr × Obj)} {i : Nat} {x f : Str} {xp pos : Pos} {Wy : WX} (hF : ∀ c f, Γ.exf c = some f → ∃ k, Xc X.K (g.ca c) k f) (hz : Zc cls d o) (ho : ∃ vs, o.data = .fields vs)
    (hN : X.N[i]? = some x) (hv : Vis X.env.scope x) (hd : (x == ("__debug__" : Str)) = false) (hcd : (x == ("__classdict__" : Str)) = false) :
    Snd (X.suite p ((p, o) :: pn)) (g.xit (some (p, cls, d))) Wy (.Attribute (.Name x xp) f pos) (ev Γ C (.xfld i f)) := by
  rw [ev]
  refine s_plain (e := .Attribute (.Name x xp) f pos) ⟨fun pins s σ H Q I h => ?_⟩ (fun _ => rfl) fun _ _ => rfl
  obtain ⟨env, S, ft, R, m⟩ := tW_iff.mp h
  unfold xfldEv at m
  have kill : ∀ {b : Prop}, False → b := fun z => z.elim
  cases e0 : env[i]? with
  | none => rw [e0] at m; exact kill m
  | some w =>
    rw [e0] at m
    match w, m, e0 with
    | some (.xn c f' dt), m, e0 =>
      have mm : After X.K (g.xit (some (p, cls, d))) Wy σ S H ft.own Q (if f' = f ∧ Γ.exf c = some f then .ok (.sh dt) env else .bad) := m
      by_cases q : f' = f ∧ Γ.exf c = some f
      · rw [if_pos q] at mm
        obtain ⟨rfl, q2⟩ := q
        obtain ⟨k, T⟩ := hF c f' q2
        obtain ⟨v, e1, _, a', dd, u, ex, ev', eS, rd⟩ := R.slot i _ e0
        have ex : some (p, cls, d) = some (a', Value.ref (g.ca c), some dd) := ex
        simp only [Option.some.injEq, Prod.mk.injEq] at ex
        obtain ⟨rfl, rfl, rfl⟩ := ex
        subst ev'
        obtain ⟨ft2, R2, ho2⟩ := R.pushSh rd
        refine (pe_xf (X := X) (te := tVar i) T.xf T.no hz ho (pe_var hN hv hd hcd) rfl).run pins s σ H Q I ?_
        exact ⟨.ref p, e1, rfl, rfl, dd, [(f', u)], u, rfl, R.sub _ _ eS, by simp [List.lookup], mm u S H ft2 R2 (Step.refl.post ho2)⟩
      · rw [if_neg q] at mm; exact kill mm
    | none, m, _ => exact kill m
    | some (.sh _), m, _ => exact kill m
    | some (.oL _), m, _ => exact kill m
    | some (.oK _ _), m, _ => exact kill m
    | some (.oT _ _), m, _ => exact kill m
    | some (.oI _ _ _), m, _ => exact kill m
end
end Rf

namespace Rf
open PySem L2 PySem.Spec PyProof.Rows GenW

section
variable {prog : Program} {w : World} {A : Around} {R : GenEnd} {Y : Protocol} {n : Nat} {s0 : Shared} {fs : List Frame} {s : Shared} {env : PySem.Env}
/-- what a loop's code does with an exception -/
abbrev noted (env : PySem.Env) (e : Value) : Sem PySem.Fin := (do noteFrame e env; theTreesLotGoes e : Sem Unit).wrap (fun _ => .raise e) .raise id id
theorem seg_forTurn {tg : Expr} {it : Value} {body : List Stmt}
    (h : wpAny (model prog w) (A.over (.forLoop tg it body [] env) fs) (pyNext it) (fun r s1 => match r with
        | none => Seg (model prog w) A R Y n s0 (.forLoop tg it body [] env) (.pure (.again (.block [] env))) fs s1
        | some v => wpAny (model prog w) (A.over (.forLoop tg it body [] env) fs) (letOwnedTupleGo tg it v) (fun _ s2 =>
            wpAny (model prog w) (A.over (.forLoop tg it body [] env) fs) (assign tg env v) (fun _ s3 =>
              Seg (model prog w) A R Y n s0 (.forLoop tg it body [] env) ((execs body env).wrap (fun f => match f with
                | .next | .cont => .pure (.again (.forLoop tg it body [] env))
                | .brk => .pure (.done .next)
                | .ret v => .pure (.done (.ret v))) (noted env) id id) fs s3)
              (fun x s' => Seg (model prog w) A R Y n s0 (.forLoop tg it body [] env) (noted env x) fs s') s2)
            (fun x s' => Seg (model prog w) A R Y n s0 (.forLoop tg it body [] env) (noted env x) fs s') s1)
      (fun x s' => Seg (model prog w) A R Y n s0 (.forLoop tg it body [] env) (noted env x) fs s') s) :
    Seg (model prog w) A R Y n s0 (.forLoop tg it body [] env) ((model prog w).den (.forLoop tg it body [] env)) fs s := by
  have ex : ∀ (x : Value) (s' : Shared), Seg (model prog w) A R Y n s0 (.forLoop tg it body [] env) (noted env x) fs s' → Seg (model prog w) A R Y n s0 (.forLoop tg it body [] env) (((do noteFrame x env; theTreesLotGoes x : Sem Unit)).bind fun _ => .raise x) fs s' := fun x s' hx => by
    rw [Sem.bind_eq_wrap]; exact hx
  show Seg _ A R Y n s0 _ ((forTurn tg it body [] env).onRaise (fun x => do noteFrame x env; theTreesLotGoes x)) fs s
  unfold forTurn
  rw [Sem.onRaise_eq_wrap]
  refine seg_bind_wrap (wpAny_standAt ?_)
  refine seg_bind_wrap (wpAny_onRaise (wpAny_mono h (fun r s1 h1 => ?_) fun x s1 hx => wpAny_standAt (ex x s1 hx)))
  cases r with
  | none => exact h1
  | some v =>
    refine seg_bind_wrap (wpAny_mono h1 (fun _ s2 h2 => ?_) fun x s2 hx => ex x s2 hx)
    refine seg_bind_wrap (wpAny_mono h2 (fun _ s3 h3 => ?_) fun x s3 hx => ex x s3 hx)
    rw [Sem.bind_eq_wrap', Sem.wrap_wrap]
    rw [Sem.wrap_congr (execs body env) _ _ (K' := fun f => match f with
            | .next | .cont => .pure (.again (.forLoop tg it body [] env))
            | .brk => .pure (.done .next)
            | .ret v => .pure (.done (.ret v))) (H' := noted env)
        (fun f => by cases f <;> rfl)
        (fun e => by first | exact Sem.bind_eq_wrap _ _ | (show (do noteFrame e env; theTreesLotGoes e : Sem Unit).bind (fun _ => .raise e) = _; rw [Sem.bind_eq_wrap]))]
    exact h3
end

def tGFor (wi : TI) (g : TG) (tb : TGn) : TGn := fun D ys σ H => wi σ H fun J H1 => ∃ W : Nat → Nat → List V → L2.St → Hp → Prop, (∃ m, W 0 m ys σ H1) ∧ ∀ i m ys σ H, W i m ys σ H →
  (J.stop i H ∧ D.nx ys σ H) ∨ (J.go i H ∧ ∃ N : List V → L2.St → Hp → Prop, (∀ ys' σ' H', N ys' σ' H' → ∃ m', m' < m ∧ W (i + 1) m' ys' σ' H') ∧
    ∀ x H', J.yld i H x H' → g x σ H' fun σ2 H2 => tb { D with nx := N, ct := N, bk := D.nx } ys σ2 H2)
theorem FpOk.re {X : Cx} {p q : List (Addr × Obj)} {H : Hp} {b : Addr} (h : FpOk X p H b) (e : ∀ z ∈ q, ∃ y ∈ p, y.1 = z.1) : FpOk X q H b := by
  obtain ⟨f0, f1, f2, f3, f4, f5⟩ := h
  refine ⟨f0, f1, f2, f3, f4, fun z hz => ?_⟩
  rcases List.mem_append.mp hz with h | h
  · exact f5 z (List.mem_append_left _ h)
  · obtain ⟨y, hy, ey⟩ := e z h
    rw [← ey]; exact f5 y (List.mem_append_right _ hy)
section
variable {X : Cx} {tg iter : Expr} {body : List Stmt} {wi : TI} {g : TG} {tb : TGn} {pos : Pos}
theorem gs_for (hp : PassesOwn (model X.prog X.w) X.A X.env X.xe) (hc : X.calm = true) (hi : PI X tg iter wi) (hg : PG X tg g) (hb : L2.GSs X body tb)
    (hs : ∀ x, foldedSetIterable iter X.env x = pure x := by intro _; rfl) : L2.GS X (.For tg iter body [] pos) (tGFor wi g tb) := by
  refine ⟨fun A S ip R n ys s0 c fs K J gd lv s σ H D gg hn k hI ht => ?_⟩
  rw [exec_For]
  refine seg_bind_wrap (wpAny_standAt ?_)
  obtain ⟨acc, cc, r, I⟩ := hI
  refine seg_bind_wrap ?_
  rw [gg.over]
  refine wpAny_mono (hi.run ((S, lstObj acc cc) :: ip) s σ H _ I ht) (fun v s1 h1 => ?_) fun x s' hx => k.exc n s0 x s' hx
  refine seg_bind_wrap (wpAny_of_eq (hs v) ?_)
  refine seg_bind_wrap (wpAny_standAt ?_)
  refine seg_bind_wrap (wpAny_holding ?_)
  rw [gg.over]
  refine wpAny_mono h1 (fun itv s2 h2 => ?_) fun x s' hx => k.exc n s0 x s' hx
  obtain ⟨it, fp, tn, Jt, H2, e, I2, T, st2, f2, W, ⟨m0, w0⟩, turn⟩ := h2
  subst e
  have stat : ∀ {H' : Hp} {acc' : Array Value} {c' : Nat}, (∀ b ∈ fp, H' b = none) → ∀ b ∈ fp, FpOk X ((S, lstObj acc' c') :: ip) H' b := fun hn b hb =>
    FpOk.re (p := (S, lstObj acc cc) :: ip) ⟨hn b hb, (f2 b hb).2⟩ fun z hz => by
      rcases List.mem_cons.mp hz with q | q
      · exact ⟨_, List.mem_cons_self, by rw [q]⟩
      · exact ⟨z, List.mem_cons_of_mem _ q, rfl⟩
  have fpS : ∀ b ∈ fp, b ≠ S := fun b hb => by
    obtain ⟨_, _, _, _, _, f5⟩ := f2 b hb
    exact Ne.symm (f5 (S, lstObj acc cc) (List.mem_append_right _ List.mem_cons_self))
  have gl := fun (p : Pos) (kk : Result → Sem PySem.Fin) => gc_loop (k := kk) (c' := .forLoop tg (.ref it) body [] X.env) (l := lv []) (kp := []) (p := p) gg rfl rfl
  have gl2 := fun (p : Pos) (kk : Result → Sem PySem.Fin) => gc_loop (k := kk) (c' := .block [] X.env) (l := lv []) (kp := []) (p := p) gg rfl rfl
  refine seg_call fun p => ?_
  have loop : ∀ (m i n : Nat) (ys : List V) (s0 s : Shared) (σ : L2.St) (H : Hp), n + ys.length = sizeLine → W i m ys σ H → L2.GI X S ip ys σ H s → tn i s.heap → (∀ b ∈ fp, H b = none) →
      Seg (model X.prog X.w) A R (GY X S) n s0 (.forLoop tg (.ref it) body [] X.env) ((model X.prog X.w).den (.forLoop tg (.ref it) body [] X.env))
        (.ret (fun r => ((match r with | .ok f => (.pure f : Sem Flow) | .error e => .raise e).onRaise (cameBack X.env)).wrap K J gd lv) none (gd false) (lv []) c p [] :: fs) s := by
    intro m
    induction m using Nat.strongRecOn with
    | ind m ih =>
      intro i n ys s0 s σ H hn w hI st fr
      have ee : ∀ (n : Nat) (s0 : Shared) (x : Value) (s' : Shared), X.xe x s' → Seg (model X.prog X.w) A R (GY X S) n s0 (.forLoop tg (.ref it) body [] X.env) (noted X.env x)
          (.ret (fun r => ((match r with | .ok f => (.pure f : Sem Flow) | .error e => .raise e).onRaise (cameBack X.env)).wrap K J gd lv) none (gd false) (lv []) c p [] :: fs) s' := fun n s0 x s' hx => by
        refine seg_wrap ?_
        rw [(gl p _).over]
        refine wpAny_bind (wpAny_mono (hp x s' hx) (fun _ s'' hcb => wpAny_theTreesLotGoes ?_) fun y s'' hcb => ?_)
        · exact seg_leaf (.error x) (seg_cameBack gg k hcb)
        · exact seg_leaf (.error y) (seg_cameBack gg k hcb)
      obtain ⟨acc1, cc1, r1, I1⟩ := hI
      refine seg_forTurn ?_
      rw [(gl p _).over]
      rcases turn i m ys σ H w with ⟨stop, qn⟩ | ⟨go, N, hN, step⟩
      · refine wpAny_mono (T.done X rfl rfl rfl hc i _ s σ H X.xe I1 (stat fr) st stop) (fun r2 s4 ⟨hr, I4⟩ => ?_) fun x s' hx => ee n s0 x s' hx
        subst hr
        refine seg_again rfl ?_
        show Seg _ _ _ _ _ _ _ (.pure (.done .next)) _ _
        exact seg_leaf (.ok .next) (k.ok n ys s0 s4 .next hn ⟨σ, H, ⟨acc1, cc1, r1, I4⟩, qn⟩)
      · refine wpAny_mono (T.item X rfl rfl rfl hc i _ s σ H X.xe I1 (stat fr) st go) (fun r2 s4 ⟨u, hr, h4⟩ => ?_) fun x s' hx => ee n s0 x s' hx
        subst hr
        refine wpAny_mono h4 (fun _ s5 ⟨x, H5, I5, r5, y5, st5, fr5⟩ => ?_) fun x s' hx => ee n s0 x s' hx
        have I5' : Inv X ((S, lstObj acc1 cc1) :: (ip ++ pinsAt fp s5.heap)) σ H5 s5 := I5.pinned (stat fr5) (T.obj _ _ st5)
        refine wpAny_mono (hg.run _ s5 σ H5 x u _ I5' r5 (step x H5 y5)) (fun _ s6 ⟨σ6, H6, I6, q6⟩ => ?_) fun x s' hx => ee n s0 x s' hx
        have again : ∀ {ys7 : List V} {σ7 : L2.St} {H7 : Hp} {s7 : Shared}, L2.GI X S (ip ++ pinsAt fp s5.heap) ys7 σ7 H7 s7 → L2.GI X S ip ys7 σ7 H7 s7 ∧ tn (i + 1) s7.heap ∧ ∀ b ∈ fp, H7 b = none := fun {ys7 σ7 H7 s7} hI7 => by
          obtain ⟨acc7, c7, r7, I7⟩ := hI7
          have pin : ∀ b ∈ fp, ∀ o, s5.heap.get? b = some o → s7.heap.get? b = some o ∧ H7 b = none := fun b hb o e => by
            have z := I7.pin (b, o) (List.mem_append_right _ (List.mem_cons_of_mem _ (List.mem_append_right _ (mem_pinsAt hb e))))
            exact ⟨z.1, z.2.1⟩
          refine ⟨⟨acc7, c7, r7, I7.pins_of fun q hq => I7.pin q ?_⟩, T.keep _ _ _ st5 fun b hb o e => (pin b hb o e).1, fun b hb => ?_⟩
          · refine List.mem_append_right _ ?_
            rcases List.mem_cons.mp hq with z | z
            · rw [z]; exact List.mem_cons_self
            · exact List.mem_cons_of_mem _ (List.mem_append_left _ z)
          · obtain ⟨o, e, d⟩ := T.obj _ _ st5 b hb
            exact (pin b hb o e).2
        have gl' : GC X S (ip ++ pinsAt fp s5.heap) A (.forLoop tg (.ref it) body [] X.env) (.ret (fun r => ((match r with | .ok f => (.pure f : Sem Flow) | .error e => .raise e).onRaise (cameBack X.env)).wrap K J gd lv) none (gd false) (lv []) c p [] :: fs) id := by
          have g0 := gl p (fun r => ((match r with | .ok f => (.pure f : Sem Flow) | .error e => .raise e).onRaise (cameBack X.env)).wrap K J gd lv)
          refine ⟨g0.pn, fun q hq => ?_, g0.apart, g0.over, g0.split, g0.guard, g0.gd⟩
          rcases List.mem_append.mp hq with z | z
          · exact gg.ip q z
          · exact fpS _ (of_pinsAt z).1
        refine hb.run A S (ip ++ pinsAt fp s5.heap) R n ys s0 _ _ _ _ id id s6 σ6 H6 { D with nx := N, ct := N, bk := D.nx } gl' hn ⟨fun n' ys' s0' s3 f hn' hs => ?_, fun n' s0' x s3 hx => ee n' s0' x s3 hx⟩ ⟨acc1, cc1, r1, I6⟩ q6
        cases f with
        | next =>
          obtain ⟨σ3, H3, I3, n3⟩ := hs
          obtain ⟨m', hm, w3⟩ := hN ys' σ3 H3 n3
          obtain ⟨a1, a2, a3⟩ := again I3
          exact seg_again rfl (ih m' hm (i + 1) n' ys' s0' s3 σ3 H3 hn' w3 a1 a2 a3)
        | cont =>
          obtain ⟨σ3, H3, I3, n3⟩ := hs
          obtain ⟨m', hm, w3⟩ := hN ys' σ3 H3 n3
          obtain ⟨a1, a2, a3⟩ := again I3
          exact seg_again rfl (ih m' hm (i + 1) n' ys' s0' s3 σ3 H3 hn' w3 a1 a2 a3)
        | brk =>
          obtain ⟨σ3, H3, I3, n3⟩ := hs
          exact seg_leaf (.ok .next) (k.ok n' ys' s0' s3 .next hn' ⟨σ3, H3, (again I3).1, n3⟩)
        | ret v =>
          obtain ⟨x3, σ3, H3, I3, rv, n3⟩ := hs
          exact seg_leaf (.ok (.ret v)) (k.ok n' ys' s0' s3 (.ret v) hn' ⟨x3, σ3, H3, (again I3).1, rv, n3⟩)
  exact loop m0 0 n ys s0 s2 σ H2 hn w0 ⟨acc, cc, r, I2⟩ st2 fun b hb => (f2 b hb).1
end
end Rf

namespace Rf
open PySem L2 PySem.Spec PyProof.Rows GenW

/-- a generator that has not begun stands at a -/
structure Unborn (P : Program) (w : World) (k : Nat) (outer : List PySem.Env) (H : Hp) (s : Shared) (Q : List V → Hp → Prop) (a : Addr) (g : Nat) (c : Code) (t : Shared) : Prop where
  old : s.heap.objs.size ≤ a
  lt : a < t.heap.objs.size
  gen : t.heap.IsGen a g
  st : t.gens[g]? = some (.fresh c)
  os : t.os = s.os
  bare : AllBare t.gens
  lim : t.heap.NoLimit
  kept : ∀ b o, s.heap.get? b = some o → t.heap.get? b = some o
  go : ∀ (A : Around) (S : Addr) (t2 : Shared), Rm k A → A.frames = some outer → t.heap.objs.size ≤ S → (∀ b o, t.heap.get? b = some o → t2.heap.get? b = some o) → (∃ z, t2.heap.get? S = some (lstObj #[] z)) → t2.os = s.os → AllBare t2.gens →
    Seg (model P w) A (REnd P w outer H s [] S a g Q fun _ _ _ => False) (YItem s S a g) sizeLine t2 c ((model P w).den c) [] t2
/-- the promise -/
structure GnG (P : Program) (w : World) (K : PySem.W.Frag) (mg : Str → Option Value) (base : Heap) (k : Nat) (f : Addr) (fd : FuncData) (ps : List Str) (sp : List V → Hp → (List V → Hp → Prop) → Prop) : Prop where
  len : ∀ vs H Q, sp vs H Q → vs.length = ps.length
  run : ∀ (A : Around) (outer : List PySem.Env) (s : Shared) (H : Hp) (args : Args) (us : List Value) (vs : List V) (Q : List V → Hp → Prop), Rm k A → Env0 P w K mg base A outer s H → BindsTo s fd args (ps.zip us) → Vals vs us → sp vs H Q →
    codeAny (model P w) A (.call (.ref f) args) (fun r t => ∃ a g c, r = .ok (.ret (.ref a)) ∧ Unborn P w k outer H s Q a g c t) s

section
variable {P : Program} {w : World} {K : PySem.W.Frag} {mg : Str → Option Value} {base : Heap} {N ps : List Str} {qual : Str} {scope : Scope} {f : Addr} {cd : Value} {A : Around} {outer : List PySem.Env} {s t : Shared} {H : Hp} {Q : List V → Hp → Prop} {us : List Value} {vs : List V} {body : List Stmt} {k : Nat}
abbrev NX : XK := fun _ _ _ => False
/-- the body of a generator, begun: from what it does to what its consumer sees -/
theorem born (Sc : GScope N ps scope) {tt : TGn} (e0 : Env0 P w K mg base A outer s H) (hr : Rm (k + 1) A) (hl : vs.length = ps.length) (rv : Vals vs us) {s1 : Shared}
    (x : InCallC s s.heap.objs.size (bindL (envOfC qual scope s.heap.objs.size f cd).kindOf (ps.zip us) fun _ => none) (cellsFrom (s.heap.objs.size + 1) scope.names []) (bindC (envOfC qual scope s.heap.objs.size f cd).kindOf (ps.zip us) fun _ => none) s1)
    {go : Obj} {gn : Nat} {nm qn : Value} (gc : go.cls = .type "generator") (gd : go.data = .fields #[.int gn 0, nm, qn]) (gs : go.slots = #[]) {S : Addr} {t2 : Shared} (hS : s1.heap.objs.size < S)
    (up : ∀ b o, s1.heap.get? b = some o → t2.heap.get? b = some o) (at_ : t2.heap.get? s1.heap.objs.size = some go) (hol : ∃ z, t2.heap.get? S = some (lstObj #[] z)) (os : t2.os = s.os) (bare : AllBare t2.gens)
    (bd : L2.GSs (gcxOf P w K mg base N qual scope f cd A outer s H NX [(s1.heap.objs.size, go)]) body tt) (want : tt { nx := fun ys _ H' => Q ys H', rt := fun ys v H' => v = .non ∧ Q ys H' } [] (L2.start N vs) H) :
    Seg (model P w) A (REnd P w outer H s [] S s1.heap.objs.size gn Q NX) (YItem s S s1.heap.objs.size gn) sizeLine t2 (.func body (envOfC qual scope s.heap.objs.size f cd)) ((model P w).den (.func body (envOfC qual scope s.heap.objs.size f cd))) [] t2 := by
  obtain ⟨h1, tk, rfl, hk1⟩ := x.done
  have I1 : L2.Inv (gcxOf P w K mg base N qual scope f cd A outer s H NX []) [] (L2.start N vs) H { s with heap := h1, toks := tk } := inv_startG Sc hr.hd e0 hl rv x
  have I2 : L2.Inv (gcxOf P w K mg base N qual scope f cd A outer s H NX []) [] (L2.start N vs) H t2 :=
    I1.call' (ch := []) os (Un.kept up) (I1.hok.kept up) bare fun b z => nomatch z
  have sz : s.heap.objs.size < h1.objs.size := x.toInCall.ns.lt
  -- what is younger than the frame is none of it
  have yng : ∀ b, h1.objs.size ≤ b → H b = none ∧ b ≠ s.heap.objs.size ∧ b ∉ frs outer ∧ s.heap.objs.size ≤ b ∧ ∀ y c, (cellsFrom (s.heap.objs.size + 1) scope.names []).lookup y = some c → c ≠ b := by
    intro b hb
    refine ⟨I1.hok.fresh hb, by omega, I1.nofs hb, by omega, ?_⟩
    rintro y c e rfl
    obtain ⟨_, ob, ho, _⟩ := I1.cell y c e
    exact Nat.lt_irrefl _ (Nat.lt_of_lt_of_le (Heap.lt_size ho) hb)
  obtain ⟨hz, heS⟩ := hol
  have hne : h1.objs.size ≠ S := Nat.ne_of_lt hS
  have nocell : ∀ v, go.data ≠ .cell v := fun v q => by rw [gd] at q; cases q
  have isg : ∀ {h : Heap}, h.get? h1.objs.size = some go → h.IsGen h1.objs.size gn := fun {h} e => ⟨go, nm, qn, e, gc, gd, gs⟩
  have J0 : L2.Inv (gcxOf P w K mg base N qual scope f cd A outer s H NX [(h1.objs.size, go)]) [(S, lstObj #[] hz)] (L2.start N vs) H t2 := by
    refine Inv.pinnedG I2 ?_
    intro p hp
    simp only [List.cons_append, List.nil_append, List.mem_cons, List.not_mem_nil, or_false] at hp
    rcases hp with rfl | rfl
    · have y := yng h1.objs.size (Nat.le_refl _)
      exact ⟨at_, y.1, y.2.1, y.2.2.1, nocell⟩
    · have y := yng S (Nat.le_of_lt hS)
      exact ⟨heS, y.1, y.2.1, y.2.2.1, fun v q => nomatch q⟩
  have G0 : L2.GI (gcxOf P w K mg base N qual scope f cd A outer s H NX [(h1.objs.size, go)]) S [] [] (L2.start N vs) H t2 := ⟨#[], hz, .nil, J0⟩
  have ap : Apart (gcxOf P w K mg base N qual scope f cd A outer s H NX [(h1.objs.size, go)]) S := let y := yng S (Nat.le_of_lt hS); ⟨y.2.2.2.1, y.2.1, y.2.2.2.2⟩
  have pinned : ∀ {ip : List (Addr × Obj)} {ys : List V} {u : Shared} {σ : L2.St} {H' : Hp}, L2.GI (gcxOf P w K mg base N qual scope f cd A outer s H NX [(h1.objs.size, go)]) S ip ys σ H' u → u.heap.IsGen h1.objs.size gn := fun ⟨_, _, _, J⟩ =>
    isg (J.pin (h1.objs.size, go) (List.mem_append_left _ List.mem_cons_self)).1
  apply seg_func
  apply seg_imp (R := GR (gcxOf P w K mg base N qual scope f cd A outer s H NX [(h1.objs.size, go)]) S (fun ys v H' => v = .non ∧ Q ys H') fun e u => CX P w outer H s NX e u ∧ ∀ p ∈ [(h1.objs.size, go)], u.heap.get? p.1 = some p.2) (Y := GY (gcxOf P w K mg base N qual scope f cd A outer s H NX [(h1.objs.size, go)]) S)
  · -- the end
    intro n s0 r u hR
    match r, hR with
    | .error e, hR => exact .inr ⟨e, rfl, hR.1, isg (hR.2 _ List.mem_cons_self)⟩
    | .ok .next, hR => exact hR.elim
    | .ok .brk, hR => exact hR.elim
    | .ok .cont, hR => exact hR.elim
    | .ok (.ret v), ⟨ys, vv, ip, σ, H', hn, hI, rr, ev, hQ⟩ =>
      subst ev
      obtain rfl : v = Value.none := rr
      obtain ⟨n1, _, _, acc, cc, ra, ea⟩ := hI.at
      obtain ⟨_, _, _, J⟩ := hI
      exact .inl ⟨.inl rfl, H', ys, acc, cc, J.os, J.bare, J.base, J.hok, n1, ea, ra, by omega, hQ⟩
  · -- an item
    intro n s0 v u kap kap' hk ⟨ys, xx, ip, σ, H', hn, _, hI, hgo⟩
    obtain ⟨_, _, _, acc, cc, ra, ea⟩ := hI.at
    have hg := pinned hI
    obtain ⟨_, _, _, J⟩ := hI
    have la : acc.size = ys.length := by
      have q := ra.length
      rw [Array.length_toList] at q
      exact q.symm
    exact ⟨J.os, J.bare, J.nolimit, hg, ⟨acc, cc, ea, by omega⟩, fun u' z => hk _ _ (hgo u' z)⟩
  · -- the run
    refine bd.run A S [] _ sizeLine [] t2 _ [] _ _ id id t2 (L2.start N vs) H _ ⟨fun p hp => ?_, fun p hp => (nomatch hp), ap, over_func, rfl, rfl, rfl⟩ (Nat.add_zero _) ⟨fun n ys s0 u fl hn hs => ?_, fun n s0 e u hx => ?_⟩ G0 want
    · obtain rfl := List.mem_singleton.mp (show p ∈ [(h1.objs.size, go)] from hp)
      exact hne
    · match fl, hs with
      | .next, ⟨σ, H', hI, hQ⟩ => exact seg_end (.ok (.ret .none)) ⟨ys, .non, [], σ, H', hn, hI, rfl, rfl, hQ⟩
      | .brk, ⟨_, _, _, z⟩ => exact z.elim
      | .cont, ⟨_, _, _, z⟩ => exact z.elim
      | .ret v, ⟨vv, σ, H', hI, rr, ev, hQ⟩ => exact seg_end (.ok (.ret v)) ⟨ys, vv, [], σ, H', hn, hI, rr, ev, hQ⟩
    · refine seg_wrap ?_
      rw [over_func]
      have hx' : wpAny (model P w) (A.deeper (envOfC qual scope s.heap.objs.size f cd)) (leaving (envOfC qual scope s.heap.objs.size f cd) e) (fun _ v => CX P w outer H s NX e v ∧ ∀ p ∈ [(h1.objs.size, go)], v.heap.get? p.1 = some p.2) (fun _ _ => False) u := hx
      exact wpAny_mono hx' (fun _ v q => seg_end (.error e) q) fun _ _ z => z.elim
/-- a generator def, by its body -/
theorem gng_of {name : Str} {params : Arguments} {dV kV doc pm ct oc : Value} {an od : Option Addr} {osl : Array (Option Value)} {sp : List V → Hp → (List V → Hp → Prop) → Prop}
    (lk : K.lookup f = some ⟨oc, od, .func (PySem.W.fnOf name qual params body scope dV kV doc pm an cd ct), osl⟩) (hcd : PySem.W.codeIn K cd qual = true) (Sc : GScope N ps scope) (len : ∀ vs H Q, sp vs H Q → vs.length = ps.length)
    (hb : ∀ (A : Around) (outer : List PySem.Env) (s : Shared) (H : Hp) (vs : List V) (Q : List V → Hp → Prop) (pn : List (Addr × Obj)), Rm k (A.deeper (envOfC qual scope s.heap.objs.size f cd)) → sp vs H Q →
      ∃ tt, L2.GSs (gcxOf P w K mg base N qual scope f cd A outer s H NX pn) body tt ∧ tt { nx := fun ys _ H' => Q ys H', rt := fun ys v H' => v = .non ∧ Q ys H' } [] (L2.start N vs) H) :
    GnG P w K mg base (k + 1) f (PySem.W.fnOf name qual params body scope dV kV doc pm an cd ct) ps sp := by
  refine ⟨len, fun A outer s H args us vs Q hr e0 bind rv hsp => ?_⟩
  have old : ∀ b o, base.get? b = some o → s.heap.get? b = some o := fun b o z => (e0.bs b o z).1
  have KS : K.In s.heap := e0.mod.kin.keeps old
  have kinds : ∀ z ∈ ps.zip us, scope.names.lookup z.1 = some .local ∨ (scope.names.lookup z.1 = some .cell ∧ ((cellsFrom (s.heap.objs.size + 1) scope.names []).lookup z.1).isSome = true) := fun z hz =>
    (Sc.par z.1 (List.of_mem_zip hz).1).imp id fun c => ⟨c, PySem.W.cellsFrom_some _ _ _ (.inl c)⟩
  refine codeAny_call_generator hr.rm.depth (KS _ _ lk) rfl Sc.co Sc.gen rfl (PySem.W.codeRec_of KS hcd) (bind _ _ _ _ (wpAny_newFunctionEnv_cells Sc.kind kinds fun _ ee s1 fr => ?_))
  subst ee
  have lim1 : s1.heap.NoLimit := (e0.mod.nolimit.keeps old).keeps fr.toInCall.keep
  refine ⟨lim1, ?_⟩
  have big : s.heap.objs.size < s1.heap.objs.size := fr.toInCall.ns.lt
  have kp : ∀ b o, s.heap.get? b = some o → s1.heap.get? b = some o := fr.toInCall.keep
  have oses : s1.os = s.os ∧ s1.gens = s.gens := by
    obtain ⟨_, _, e, _⟩ := fr.done
    rw [e]; exact ⟨rfl, rfl⟩
  have fin : ∀ (go : Obj) (nm qn : Value) (tk : Nat), go.cls = .type "generator" → go.data = .fields #[.int s1.gens.size 0, nm, qn] → go.slots = #[] → (∀ h : Heap, (h.push go).get? h.objs.size = some go) →
      Unborn P w (k + 1) outer H s Q s1.heap.objs.size s1.gens.size (.func body (envOfC qual scope s.heap.objs.size f cd)) { s1 with gens := s1.gens.push (.fresh (.func body (envOfC qual scope s.heap.objs.size f cd))), toks := tk, heap := s1.heap.push go } := by
    intro go nm qn tk gc gd gs psh
    have sz2 : (s1.heap.push go).objs.size = s1.heap.objs.size + 1 := Heap.size_push ..
    refine { old := Nat.le_of_lt big, lt := ?_, gen := ⟨go, nm, qn, psh _, gc, gd, gs⟩, st := Array.getElem?_push_size .., os := oses.1, bare := AllBare.push (by rw [oses.2]; exact e0.bare) rfl, lim := lim1.keeps fun b o e => Heap.get?_push_of_some _ e, kept := fun b o e => Heap.get?_push_of_some _ (kp b o e), go := ?_ }
    · show _ < (s1.heap.push go).objs.size
      omega
    · intro Aw S t2 hw hfr hS hk hol hos hba
      obtain ⟨tt, ht, hq⟩ := hb Aw outer s H vs Q [(s1.heap.objs.size, go)] (hw.deeper _) hsp
      have hS : (s1.heap.push go).objs.size ≤ S := hS
      exact born Sc ⟨hfr, e0.mod, e0.bs, e0.bsz, e0.funs, e0.frf, e0.hok, e0.bare⟩ hw (len _ _ _ hsp) rv fr gc gd gs (by omega) (fun b o e => hk b o (Heap.get?_push_of_some _ e)) (hk _ go (psh _)) hol hos hba ht hq
  exact ⟨_, _, _, rfl, fin _ _ _ _ rfl rfl rfl fun h => Heap.get?_push_size _ rfl⟩
end

section
variable {P : Program} {w : World} {outer : List PySem.Env} {H : Hp} {sc s : Shared} {Q : List V → Hp → Prop} {A : Around} {k g : Nat} {a : Addr} {c : Code} {Qv : Value → Shared → Prop} {E : Value → Shared → Prop}
/-- list(..) of a generator that has not begun: all its items, in a new list -/
theorem list_unborn (hr : Rm (k + 3) A) (hfr : A.frames = some outer) (u : Unborn P w k outer H sc Q a g c s)
    (hQ : ∀ S t acc z H' ys, s.heap.objs.size ≤ S → t.heap.get? S = some (lstObj acc z) → Vals ys acc.toList → ys.length ≤ sizeLine → t.os = sc.os → AllBare t.gens → Un (frs outer) [] H H' sc.heap t.heap → HOk P w H' t.heap → H' S = none → Q ys H' → Qv (.ref S) t) :
    wpAny (model P w) A (call (.type "list") [.ref a]) Qv E s := by
  have nS : s.heap.objs.size ≠ a := Nat.ne_of_gt u.lt
  have nC : s.heap.objs.size ≠ cStatics := by
    obtain ⟨_, hn, _⟩ := u.lim
    exact Nat.ne_of_gt hn.lt
  let q0 : Heap := s.heap.push { cls := .type "list", data := .seq #[] }
  let q1 : Heap := q0.update s.heap.objs.size (Obj.mapSeq fun _ => (#[] : Array Value))
  let q2 : Heap := q1.update s.heap.objs.size (Obj.mapSeq (·.push Value.none))
  let q3 : Heap := q2.update s.heap.objs.size (Obj.mapSeq (·.pop))
  have old : ∀ (h : Heap) (ff : Obj → Obj), (∀ b o, s.heap.get? b = some o → h.get? b = some o) → ∀ b o, s.heap.get? b = some o → (h.update s.heap.objs.size ff).get? b = some o := by
    intro h ff q b o e
    have : s.heap.objs.size ≠ b := Nat.ne_of_gt (Heap.lt_size e)
    rw [Heap.get?_update_other _ _ this]
    exact q b o e
  have z0 : ∀ b o, s.heap.get? b = some o → q0.get? b = some o := fun b o e => Heap.get?_push_of_some _ e
  have z1 := old q0 (Obj.mapSeq fun _ => (#[] : Array Value)) z0
  have z3 := old q2 (Obj.mapSeq (·.pop)) (old q1 (Obj.mapSeq (·.push Value.none)) z1)
  have y0 : q0.get? s.heap.objs.size = some { cls := .type "list", data := .seq #[] } := Heap.get?_push_size _ rfl
  have y1 := Heap.get?_update_self (Obj.mapSeq fun _ => (#[] : Array Value)) y0 rfl
  have y2 := Heap.get?_update_self (Obj.mapSeq (·.push Value.none)) y1 rfl
  have y3 := Heap.get?_update_self (Obj.mapSeq (·.pop)) y2 rfl
  have isg : ∀ {h : Heap}, (∀ b o, s.heap.get? b = some o → h.get? b = some o) → h.IsGen a g := fun {h} q => u.gen.keeps q
  have tyG : ({ s with heap := q1 } : Shared).TypeIs (.ref a) "generator" := Heap.IsGen.typeIs (s := { s with heap := q1 }) (isg z1)
  refine callType_codes (Q₁ := fun o t => o = .ref s.heap.objs.size ∧ t = { s with heap := q0 }) F.called_list (F.typeCall_list_1 _) F.entry_list_init (code_list_new _ ⟨rfl, rfl⟩) ?_
  rintro o t ⟨rfl, rfl⟩
  refine ⟨⟨_, y0, rfl⟩, F.args_list_init_2 _ _, ?_⟩
  show wpAny _ A.in1.in1 (Builtin.List.listItems (.ref s.heap.objs.size) >>= fun was => Builtin.List.listUpdate (.ref s.heap.objs.size) (fun _ => #[]) >>= fun _ => letGo was.toList.reverse >>= fun _ => Builtin.List.listExtendWith (.ref s.heap.objs.size) (.ref a) .none) _ _ _
  refine wpAny_bind ?_
  unfold Builtin.List.listItems
  refine wpAny_bind (wpAny_seqItems y0 rfl (wpAny_pure (wpAny_bind ?_)))
  show wpAny _ _ (updateSeq s.heap.objs.size fun _ => #[]) _ _ _
  refine wpAny_updateSeq y0 rfl (wpAny_bind (wpAny_letGo ?_))
  unfold Builtin.List.listExtendWith
  refine wpAny_bind (wpAny_typeOf tyG ?_)
  have ne1 : Builtin.List.listSameRef (.ref s.heap.objs.size) (.ref a) = false := by
    unfold Builtin.List.listSameRef
    simp [nS]
  have ne2 : (Value.type "generator" == Value.type "list") = false := by decide
  have ne3 : (Value.type "generator" == Value.type "tuple") = false := by decide
  simp only [ne1, ne2, ne3, Bool.or_false, Bool.false_eq_true, if_false]
  refine wpAny_bind (wpAny_pyIter_gen (s := { s with heap := q1 }) (isg z1) (wpAny_bind (wpAny_holding ?_)))
  unfold Builtin.List.listLengthHint
  refine wpAny_bind (wpAny_specialOf tyG F.gen_no_len ?_)
  show wpAny _ _ (specialOf (Value.ref a) (Str.ofString "__length_hint__") >>= _) _ _ _
  refine wpAny_bind (wpAny_specialOf tyG F.gen_no_hint (wpAny_pure ?_))
  show wpAny _ _ (rule "list.extend.makes-room" >>= fun _ => Builtin.List.listTouch (.ref s.heap.objs.size) >>= fun _ => again (.builtin "list.extend.loop" ⟨[.ref s.heap.objs.size, .ref a, .none], []⟩)) _ _ _
  refine wpAny_bind (wpAny_rule (wpAny_bind ?_))
  show wpAny _ _ (updateSeq s.heap.objs.size (·.push .none) >>= fun _ => updateSeq s.heap.objs.size (·.pop)) _ _ _
  refine wpAny_bind (wpAny_updateSeq y1 rfl (wpAny_updateSeq (hz := by seq_fits) y2 rfl (wpAny_pure ⟨plainId_quiet F.plain_extend_loop _, ?_⟩)))
  refine drain (P := P) (w := w) (outer := outer) (H := H) (sc := sc) (ex := []) (Q := Q) (EX := NX) (A := A.in1) (g := g) hr.hd (by have := hr.rm.dp; show A.depth < _; omega) nS nC ?_ ?_ sizeLine _ (isg z3) (u.lim.keeps z3) ⟨_, u.st, rfl, ?_⟩
  · intro t acc zz H' ys e1 e2 e3 e4 e5 e6 e7 e8 e9
    exact ⟨rfl, hQ _ t acc zz H' ys (Nat.le_refl _) e1 e2 e3 e4 e5 e6 e7 e8 e9⟩
  · intro e t hc
    obtain ⟨_, _, _, _, _, _, _, _, _, _, _, _, z⟩ := hc
    exact z.elim
  · refine u.go _ _ _ ⟨⟨hr.hd, ?_, ?_⟩, hr.gd⟩ hfr (Nat.le_refl _) z3 ⟨_, y3⟩ u.os (allBare_setGen (s := { s with heap := _ }) u.bare rfl)
    · have := hr.rm.dp
      show A.depth + 3 * k + 5 < _
      omega
    · have := hr.rm.un
      show A.units + 1 + 1 + 1 + 16 * k + 200 < _
      omega
end
end Rf

namespace Rf
open PySem L2 PyProof.Rows

section
variable {X : Cx} {g : G} {Wx : WX} {tg e : Expr} {E : Ev}
def tSeq (X : Cx) (g : G) (Wx : WX) (E : Ev) : TI := fun σ H Q => tE X.K g Wx E.e σ H fun x H1 => ∃ env S ft d l, Rel X.K g env S σ H1 ft ∧ RD X.K g S d x ∧ d.seq? = some l ∧
  ∀ J F, Wk X.K g J l (fun _ => False) F → F S H1 → Q J H1
theorem pi_seq (h : Snd X g Wx e E) : PI X tg e (tSeq X g Wx E) := by
  refine ⟨fun pins s σ H R I q => ?_⟩
  refine thn (h.pe.run pins s σ H _ I q) fun u s1 ⟨v, H1, I1, ru, env, S, ft, d, l, R1, r, hs, k⟩ => ?_
  cases d with
  | lst ds =>
    cases hs
    obtain ⟨a, vs, rfl, e, rs⟩ := r
    cases ru
    exact it_list I1 (SqL.of (R1.sub _ _ e)) (k _ _ (wk_of_list (F := fun S _ => S a = some (.lst vs)) (fun h st _ => st.same.ls _ _ h) fun sub h => SqL.of (sub _ _ h)) ⟨e, rs⟩)
  | tup ds =>
    cases hs
    obtain ⟨a, vs, rfl, e, rs⟩ := r
    cases ru
    exact it_tup I1 (SqT.of (R1.sub _ _ e)) (k _ _ (wk_of_tup (F := fun S _ => SqT X.K S a vs) (fun h st _ => st.same.sqT h) fun sub h => (Sm.of sub).sqT h) ⟨SqT.of e, rs⟩)
  | _ => cases hs
end

theorem GS.imp {X : Cx} {st : Stmt} {t t' : TGn} (h : L2.GS X st t) (w : ∀ De ys σ H, t' De ys σ H → t De ys σ H) : L2.GS X st t' :=
  ⟨fun A S ip R n ys s0 c fs K J gd lv s σ H De a b k I q => h.run A S ip R n ys s0 c fs K J gd lv s σ H De a b k I (w _ _ _ _ q)⟩
theorem GSs.imp {X : Cx} {st : List Stmt} {t t' : TGn} (h : L2.GSs X st t) (w : ∀ De ys σ H, t' De ys σ H → t De ys σ H) : L2.GSs X st t' :=
  ⟨fun A S ip R n ys s0 c fs K J gd lv s σ H De a b k I q => h.run A S ip R n ys s0 c fs K J gd lv s σ H De a b k I (w _ _ _ _ q)⟩
abbrev EG := Env → List D → Option (Env × List D)
section
variable {K : PySem.W.Frag} {g : G} {S H S1 H1 S' H' : Hp} {ft ft' : Ft} {env env' : Env} {σ σ' : L2.St} {De : GEnds} {O O1 : Addr → Prop}
/-- what is wanted behind a piece of a generator's body -/
def AfterG (K : PySem.W.Frag) (g : G) (De : GEnds) (S H : Hp) (O : Addr → Prop) : Option (Env × List D) → Prop
  | some r => ∀ ys σ' S' H' ft', Rel K g r.1 S' σ' H' ft' → Step S H O S' H' ft'.own → RDs K g S' r.2 ys → De.nx ys σ' H'
  | none => False
def tG (K : PySem.W.Frag) (g : G) (f : EG) : TGn := fun De ys σ H => ∃ env S ft l, Rel K g env S σ H ft ∧ RDs K g S l ys ∧ AfterG K g De S H ft.own (f env l)
theorem AfterG.pre {r : Option (Env × List D)} (h : AfterG K g De S H O r) (st : Step S H O S1 H1 O1) : AfterG K g De S1 H1 O1 r := by
  cases r with
  | some r => exact fun ys σ' S' H' ft' R st' rd => h ys σ' S' H' ft' R (st.trans st') rd
  | none => exact h
end
section
variable {X : Cx} {g : G} {Wx : WX} {tgx e : Expr} {E : Ev} {st : Stmt} {sts body : List Stmt} {f1 f2 fb : EG} {pos yp : Pos}
theorem gss_nilT : L2.GSs X [] (tG X.K g fun env l => some (env, l)) := GSs.imp gss_nil fun De ys σ H ⟨env, S, ft, l, R, rd, m⟩ => m ys σ S H ft R .refl rd
theorem gss_consT (a : L2.GS X st (tG X.K g f1)) (b : L2.GSs X sts (tG X.K g f2)) : L2.GSs X (st :: sts) (tG X.K g fun env l => match f1 env l with | some r => f2 r.1 r.2 | none => none) :=
  GSs.imp (gss_cons a b) fun De ys σ H ⟨env, S, ft, l, R, rd, m⟩ => by
    refine ⟨env, S, ft, l, R, rd, ?_⟩
    cases e : f1 env l with
    | none => simp only [e] at m; exact m
    | some r => simp only [e] at m; exact fun ys' σ' S' H' ft' R' st rd' => ⟨r.1, S', ft', r.2, R', rd', m.pre st⟩
theorem gs_plT {fs : ES} (h : St X g Wx (fun _ => false) st fs) : L2.GS X st (tG X.K g fun env l => match fs env with | .nx env' => some (env', l) | _ => none) :=
  GS.imp (gs_ps h) fun De ys σ H ⟨env, S, ft, l, R, rd, m⟩ => by
    refine tS_iff.mpr ⟨env, S, ft, R, ?_⟩
    cases e : fs env with
    | nx env' => simp only [e] at m; exact fun σ' S' H' ft' R' st k => m ys σ' S' H' ft' R' st (RDs.mono st.same _ _ rd)
    | _ => simp only [e] at m; exact m.elim
theorem gs_yldT (h : Snd X g Wx e E) (hco : X.env.scope.isCoroutine = false) (hi : interactive X.env = false) :
    L2.GS X (.Expr (.Yield (some e) yp) pos) (tG X.K g fun env l => match E.e env with | .ok d env' => if l.length < lim then some (env', l ++ [d]) else none | _ => none) :=
  GS.imp (gs_yield h.pe hco hi) fun De ys σ H ⟨env, S, ft, l, R, rd, m⟩ => by
    cases e : E.e env with
    | ok d env' =>
      simp only [e] at m
      by_cases c : l.length < lim
      · rw [if_pos c] at m
        refine ⟨by rw [← rd.length]; exact Nat.lt_of_lt_of_eq c slim.symm, env, S, ft, R, ?_⟩
        rw [e]
        exact fun v S' H' ft' R' st r => m (ys ++ [v]) σ S' H' ft' R' st ((RDs.mono st.same _ _ rd).append (.one r))
      · rw [if_neg c] at m; exact m.elim
    | exc x env' => simp only [e] at m; exact m.elim
    | bad => simp only [e] at m; exact m.elim
theorem gLoop_cons {t : CT} {d : Rf.D} {ds : List Rf.D} {env : Env} {l : List Rf.D} : gLoop t fb (d :: ds) env l = match t.asg d env with
    | none => none
    | some env1 => match fb env1 l with
      | some r => gLoop t fb ds r.1 r.2
      | none => none := rfl
theorem gs_forT {iter : Expr} {t : CT} (hp : PassesOwn (model X.prog X.w) X.A X.env X.xe) (hN : X.N.Nodup) (hc : X.calm = true) (h : Snd X g Wx iter E) (ht : Tg X tgx t) (hb : L2.GSs X body (tG X.K g fb)) (hs : ∀ x, foldedSetIterable iter X.env x = pure x) :
    L2.GS X (.For tgx iter body [] pos) (tG X.K g fun env l => match E.e env with
      | .ok d env1 => match d.seq? with
        | some ds => gLoop t fb ds env1 l
        | none => none
      | _ => none) := by
  refine GS.imp (gs_for hp hc (pi_seq (Wx := Wx) h) (ht.pg hN hc) hb hs) fun De ys σ H ⟨env, S, ft, l, R, rd, m⟩ => ?_
  refine ⟨env, S, ft, R, ?_⟩
  cases e : E.e env with
  | exc x env' => simp only [e] at m; exact m.elim
  | bad => simp only [e] at m; exact m.elim
  | ok d env1 =>
    simp only [e] at m
    cases es : d.seq? with
    | none => rw [es] at m; exact m.elim
    | some ds =>
      rw [es] at m
      simp only at m
      intro v S1 H1 ft1 R1 st1 rv
      refine ⟨env1, S1, ft1, d, ds, R1, rv, es, fun J F wk hF => ?_⟩
      refine ⟨fun i mm zs σc Hc => ∃ envc Sc ftc lc, mm = ds.length - i ∧ i ≤ ds.length ∧ Rel X.K g envc Sc σc Hc ftc ∧ RDs X.K g Sc lc zs ∧ F Sc Hc ∧ AfterG X.K g De Sc Hc ftc.own (gLoop t fb (ds.drop i) envc lc),
        ⟨ds.length, env1, S1, ft1, l, by simp, Nat.zero_le _, R1, RDs.mono st1.same _ _ rd, hF, by rw [List.drop_zero]; exact m.pre st1⟩, ?_⟩
      rintro i mm zs σc Hc ⟨envc, Sc, ftc, lc, rfl, hi, Rc, rc, hFc, q⟩
      by_cases hlt : i < ds.length
      · obtain ⟨d1, hd⟩ : ∃ d1, ds[i]? = some d1 := ⟨ds[i], List.getElem?_eq_getElem hlt⟩
        have hdrop : ds.drop i = d1 :: ds.drop (i + 1) := by
          obtain ⟨h1, h2⟩ := List.getElem?_eq_some_iff.mp hd
          rw [List.drop_eq_getElem_cons h1, h2]
        obtain ⟨hgo, hyl⟩ := wk.go Rc.sub hFc i d1 hd
        refine .inr ⟨hgo, fun zs' σ' H' => ∃ envc Sc ftc lc, ds.length - (i + 1) = ds.length - (i + 1) ∧ i + 1 ≤ ds.length ∧ Rel X.K g envc Sc σ' H' ftc ∧ RDs X.K g Sc lc zs' ∧ F Sc H' ∧ AfterG X.K g De Sc H' ftc.own (gLoop t fb (ds.drop (i + 1)) envc lc),
          fun zs' σ' H' hN => ⟨ds.length - (i + 1), by omega, hN⟩, fun x H' hy => ?_⟩
        obtain ⟨S', r, sm, hh, sub', gr⟩ := hyl x H' hy
        have R2 := Rc.grow sm hh sub' gr
        have st2 : Step Sc Hc ftc.own S' H' ftc.own := Step.grow' sm hh gr
        rw [hdrop, gLoop_cons] at q
        cases e2 : t.asg d1 envc with
        | none => simp only [e2] at q; exact q.elim
        | some envA =>
          simp only [e2] at q
          refine asg_ok t d1 envc envA e2 x σc ftc _ R2 r fun σ2 ft2 R3 ho2 k2 => ?_
          have st3 : Step Sc Hc ftc.own S' H' ft2.own := st2.post ho2
          refine ⟨envA, S', ft2, lc, R3, RDs.mono sm _ _ rc, ?_⟩
          cases e3 : fb envA lc with
          | none => simp only [e3] at q; exact q.elim
          | some r =>
            simp only [e3] at q
            exact fun ys' σ' S'' H'' ft'' R'' st rd'' => ⟨r.1, S'', ft'', r.2, rfl, hlt, R'', rd'', wk.mono hFc (st3.trans st) (fun a z => z.elim), q.pre (st3.trans st)⟩
      · have hie : i = ds.length := by omega
        subst hie
        rw [List.drop_length] at q
        exact .inl ⟨wk.stop Rc.sub hFc _ (Nat.le_refl _), q zs σc Sc Hc ftc Rc .refl rc⟩
end

def spG (K : PySem.W.Frag) (g : G) (P : Prg) (n i : Nat) : List V → Hp → (List V → Hp → Prop) → Prop := fun vs H Q => ∃ ws S ft, Rel K g (ws.map some) S (vs.map some) H ft ∧ ∃ l outs, callF P n i ws = .ok (.oL l) outs ∧
  ∀ ys S' H' (O' : Addr → Prop), (∀ a o, S' a = some o → H' a = some o) → Step S H ft.own S' H' O' → RDs K g S' l ys → Q ys H'
structure GnOk (X : Cx) (g : G) (P : Prg) (n i : Nat) (gi : GI) : Prop where
  at_ : P.gn i = some gi ∧ P.fn i = none
  ex : ∃ fd, GnG X.prog X.w X.K X.mg X.base (4 * n) (g.fa i) fd gi.sig.ps (spG X.K g P n i) ∧ Binds X.K fd gi.sig.ps []
section
variable {X : Cx} {g : G} {Wx : WX} {P : Prg} {n i : Nat} {gi : GI} {m nm : Str} {p pos pos' apos : Pos} {o : Expr} {O : Ev} {es : List Expr} {Es Ks : List Ev} {kws : List Keyword} {ks : List Str} {x : Str}
theorem s_gen (hM : ∀ c f, P.gm c m = some f → ∃ gi, GnOk X g P n f gi ∧ Meth X.K (g.ca c) m (g.fa f)) (hr : Rm (4 * n + 3) X.A) (ho : Snd X g Wx o O) (hb : noSuper o = true) (hl : (apos.endLine == pos'.line) = true)
    (hg : Gl X nm) (hmg : X.mg nm = none) (hv : bootBuiltins nm = some (.type "list")) (hnm : nm ≠ "__name__") (hdb : (nm == ("__debug__" : Str)) = false) :
    Snd X g Wx (.Call (.Name nm p) [.Call (.Attribute o m apos) [] [] pos'] [] pos) (mkEv (genEv P.gam (callF P n) m O)) := by
  refine s_plain ⟨fun pins s σ H Q I h => ?_⟩ (fun _ => rfl) fun _ _ => rfl
  have h2 : tW X.K g Wx (fun env => (O.e env).bind (genOf P.gam (callF P n) m)) σ H Q := h
  -- the generator is made
  have made : wpAny (model X.prog X.w) X.A (eval (.Call (.Attribute o m apos) [] [] pos') X.env) (fun u s2 => ∃ a k c H1 s1 env S ft l, u = .ref a ∧ L2.Inv X pins σ H1 s1 ∧ After X.K g Wx σ S H1 ft.own Q (.ok (.oL l) env) ∧
      Unborn X.prog X.w (4 * n) X.stack H1 s1 (fun ys H2 => ∃ S2, Rel X.K g env S2 σ H2 ft ∧ Step S H1 ft.own S2 H2 ft.own ∧ RDs X.K g S2 l ys) a k c s2) X.xe s := by
    refine PySem.W.methodCall_KW (pl := do return (← importBound o X.env).getD true) ?_ (methTree hb (form_of (X := X) (Wx := Wx) (g := g) .nil .nil (by decide)) hl)
    refine thn (ho.pe.run pins s σ H _ I (tE_bind h2)) fun u s1 ⟨v, H1, I1, ru, env, S, ft, d, R, r, mm⟩ => ?_
    cases d with
    | ins c fs ds =>
      obtain ⟨a, dx, vs, rfl, e3, e4, e5, e6⟩ := id r
      cases ru
      unfold genOf at mm
      simp only at mm
      have eg : P.gam.gm c m = P.gm c m := rfl
      rw [eg] at mm
      cases e1 : P.gm c m with
      | none => rw [e1] at mm; exact mm.elim
      | some f =>
        rw [e1] at mm
        obtain ⟨gi, GO, ME⟩ := hM c f e1
        obtain ⟨fd, F, B⟩ := GO.ex
        refine getmeth_ok I1 (R.sub _ _ e3) e6.1 ME (zip_none (meth_not e6 ME)) (PySem.W.callWith_K0 (first := [.ref a]) I1.kIn ME.kp ?_)
        cases e2 : callF P n f [.sh (.ins c fs ds)] with
        | exc x outs => simp only [e2] at mm <;> exact mm.elim
        | bad => simp only [e2] at mm <;> exact mm.elim
        | ok w outs =>
          simp only [e2] at mm
          cases w with
          | oL l =>
            obtain ⟨ft0, R0, h0⟩ := (Rel.nil (K := X.K) (g := g) R.sub).pushSh r
            have n0 : ∀ a, ft0.own a → False := fun a ha => by
              obtain ⟨j, z⟩ := h0 a ha
              exact (List.not_mem_nil z).elim
            have hsp : spG X.K g P n f [.ref a] H1 (fun ys H2 => ∃ S2, Rel X.K g env S2 σ H2 ft ∧ Step S H1 ft.own S2 H2 ft.own ∧ RDs X.K g S2 l ys) := by
              refine ⟨[.sh (.ins c fs ds)], S, ft0, R0, l, outs, e2, fun ys S' H' O' sub st rd => ?_⟩
              obtain ⟨RB, dB⟩ := R.aside (fun a _ z => n0 a z) st sub
              exact ⟨S', RB, ((st.frame ft.own).pre fun a ha => ha.elim (fun z => (n0 a z).elim) id).post fun a ha => .inr ha, rd⟩
            have hlen := F.len _ _ _ hsp
            refine wpAny_call (codeAny_mono (F.run X.A X.stack s1 H1 ⟨[.ref a], []⟩ ([.ref a] ++ []) [.ref a] _ (hr.mono (by omega)) I1.env0 (B s1 [.ref a] I1.kIn (by simpa using hlen)) (show Vals [V.ref a] ([Value.ref a] ++ []) from .cons rfl .nil) hsp) fun r2 s2 hq => ?_)
            obtain ⟨b, k, cc, rfl, U⟩ := hq
            exact ⟨b, k, cc, H1, s1, env, S, ft, l, rfl, I1, mm, U⟩
          | _ => exact mm.elim
    | _ => exact mm.elim
  refine wpAny_Call_Name_kw (ld_blt I hg hmg hv (PyProof.Rows.callWith_type1 ?_ (by rfl) rfl) hnm hdb)
  show wpAny _ _ (spliced ((false, eval (.Call (.Attribute o m apos) [] [] pos') X.env) :: backTo pos (starEach [] X.env))) _ _ s
  refine Calls.spliced_cons (thn made fun u s2 ⟨a, k, c, H1, s1, env, S, ft, l, eu, I1, mm, U⟩ => Calls.spliced_nil ?_)
  subst eu
  refine list_unborn hr I1.ok.frames U fun Sn t acc z H' ys q0 q1 q2 q3 q4 q5 q6 q7 q8 q9 => ?_
  obtain ⟨S2, R2, st2, rd⟩ := q9
  have big : s1.heap.objs.size ≤ Sn := Nat.le_trans (Nat.le_trans U.old (Nat.le_of_lt U.lt)) q0
  exact ⟨.ref Sn, upd H' Sn (.lst ys), I1.drained big q3 q1 q2 .nil q4 q5 q6 q7 q8, rfl, FinW.newL R2.sub q8 rd (fin_of R2 fun v2 S3 H3 ft3 R3 st3 => mm v2 S3 H3 ft3 R3 (st2.trans st3))⟩
/-- x(..), the def stands in a slot -/
theorem s_callv (tk : Takes X Wx) (hF : ∀ f fi, P.fn f = some fi → DefOk X g P n f fi) (hr : Rm (4 * n) X.A) (hN : X.N[i]? = some x) (hv : Vis X.env.scope x) (hdb : (x == ("__debug__" : Str)) = false) (hcd : (x == ("__classdict__" : Str)) = false)
    (hs : Snds X g Wx es Es) (hkw : SndK X g Wx kws ks Ks) : Snd X g Wx (.Call (.Name x p) es kws pos) (mkEv (callvEv P.gam (callF P n) i Es ks Ks)) := by
  refine s_plain ⟨fun pins s σ H Q I h => ?_⟩ (fun _ => rfl) fun _ _ => rfl
  obtain ⟨env, S, ft, R, m⟩ := tW_iff.mp h
  unfold callvEv at m
  split at m
  · rename_i f e0
    obtain ⟨v, e1, r⟩ := R.sh e0
    cases hfn : P.fn f with
    | none =>
      have hsig : P.gam.sig f = none := by show (P.fn f).map _ = _; rw [hfn]; rfl
      unfold callEv at m
      rw [hsig] at m
      exact m.elim
    | some fi =>
      have D := hF f fi hfn
      obtain ⟨fd, dv, F, B⟩ := D.ex
      refine wpAny_Call_Name_kw (thn ((pe_var hN hv hdb hcd).run pins s σ H (fun u H1 => u = v ∧ H1 = H) I ⟨v, e1, rfl, rfl⟩) fun u s1 ⟨v', H1, I1, ru, q⟩ => ?_)
      obtain ⟨rfl, rfl⟩ := q
      have ev : v' = .ref (g.fa f) := r
      subst ev
      cases ru
      refine call_run (fvs := []) tk D hr hs hkw .nil I1 F B (callEv_args (l0 := []) D.at_ B.df R (first := []) ⟨rfl, rfl⟩ List.nodup_nil (fun a ha => by cases ha) .nil ?_)
      have : (fun a => ft.own a ∨ a ∈ ([] : List Addr)) = ft.own := by
        funext a
        simp
      rw [this]
      exact m
  · exact m.elim
end
end Rf

namespace Rf
open PySem L2 PyProof.Rows


/-- the module's names, as far as the code uses them -/
structure Tb where
  fns : List (Str × Nat) := []
  cls : List (Str × Nat) := []
  blts : List Str := []
  cns : List (Str × D) := []
  cs : List Nat := []
  flds : List (Nat × Str) := []
/-- where a piece of code stands: the slots' names, the scope, the names that the block stores -/
structure Ct where
  N : List Str
  sc : Scope
  fn : Str → Bool
structure Sc (X : Cx) (c : Ct) : Prop where
  N : X.N = c.N
  sc : X.env.scope = c.sc
  fn : ∀ x, X.fn x = c.fn x
/-- what is known in the context of a piece of code -/
structure Gd (X : Cx) (g : G) (P : Prg) (n : Nat) (T : Tb) : Prop where
  calm : X.calm = true
  nd : X.N.Nodup
  room : Rm (4 * n + 3) X.A
  fok : ∀ i fi, P.fn i = some fi → DefOk X g P n i fi
  fns : ∀ x i, T.fns.lookup x = some i → X.mg x = some (.ref (g.fa i))
  cls : ∀ x c, T.cls.lookup x = some c → X.mg x = some (.ref (g.ca c))
  blts : ∀ x, T.blts.contains x = true → X.mg x = none
  cns : ∀ x d, T.cns.lookup x = some d → ∃ u v, X.mg x = some u ∧ RelV v u ∧ ∀ S : Hp, RD X.K g S d v
  ity : InsT X.K g T.cs
  itk : ∀ t, isOwnTy t = false → ∀ c ∈ T.cs, PySem.W.kitOne X.K (.ref (g.ca c)) (.type (tyName t)) = some false
  ito : ∀ c ∈ T.cs, (∀ t ∈ eqTys, PySem.W.kitOne X.K (.type t) (.ref (g.ca c)) = some false) ∧ ∀ c' ∈ T.cs, PySem.W.kitOne X.K (.ref (g.ca c')) (.ref (g.ca c)) = some (c == c')
  xi0 : g.xi = none
  own : OwnOk X g P n
  mks : ∀ c i, P.ini c = some i → ∃ fi, DefOk X g P n i fi ∧ Mk X.K (g.ca c) (g.fa i) ∧ Cls X.K (g.ca c)
  noat : ∀ c f, T.flds.contains (c, f) = true → NoAttr X.K (g.ca c) f
  err : ∀ c f, P.exf c = some f → ErrOk X g c f
  exm : ∀ c k b, P.exm c k = some b → PySem.W.exmOne X.K (.ref (g.ca c)) (.ref (g.ca k)) = some b
  gok : ∀ c m f, P.gm c m = some f → ∃ gi, GnOk X g P n f gi ∧ Meth X.K (g.ca c) m (g.fa f)
theorem Gd.units {X : Cx} {g : G} {P : Prg} {n : Nat} {T : Tb} (G0 : Gd X g P n T) : X.A.units + 66 < cLine := by have := G0.room.un; omega
theorem Gd.room1 {X : Cx} {g : G} {P : Prg} {n : Nat} {T : Tb} (G0 : Gd X g P n T) : Rm (4 * n + 1) X.A := G0.room.mono (by omega)

def binOf : Op → Option Operator
  | .add => some .Add | .sub => some .Sub | .mul => some .Mult | .fdiv => some .FloorDiv | .mod => some .Mod | .pow => some .Pow
  | _ => none
def cmpOf : Op → Option CmpOp
  | .eq => some .Eq | .ne => some .NotEq | .lt => some .Lt | .le => some .LtE | .gt => some .Gt | .ge => some .GtE
  | .is => some .Is | .isnot => some .IsNot | .isin => some .In | .notin => some .NotIn
  | _ => none
/-- a built-in function by its name; how many arguments -/
def bltOf : Op → Option (String × Nat)
  | .abs => some ("abs", 1) | .max2 => some ("max", 2) | .min2 => some ("min", 2) | .maxL => some ("max", 1) | .minL => some ("min", 1) | .sum => some ("sum", 1)
  | .sorted => some ("sorted", 1) | .repr => some ("repr", 1) | .all => some ("all", 1) | .any => some ("any", 1)
  | _ => none
def tyOf : Op → Option (String × Nat)
  | .int => some ("int", 1) | .list => some ("list", 1) | .tuple => some ("tuple", 1) | .dict => some ("dict", 1)
  | _ => none
section
variable {X : Cx} {g : G} {Wx : WX} {P : Prg} {n : Nat} {T : Tb}
theorem bin_ok {o : Op} {op : Operator} (h : binOf o = some op) : OpS X g Wx P.gam (callF P n) o false (binaryOp op) := by
  cases o with
  | add => cases h; exact opS_of r_add (opS_none rfl)
  | sub => cases h; exact opS_of r_sub (opS_none rfl)
  | mul => cases h; exact opS_of r_mul (opS_none rfl)
  | fdiv => cases h; exact opS_of r_fdiv (opS_none rfl)
  | mod => cases h; exact opS_of r_mod (opS_none rfl)
  | pow => cases h; exact opS_of r_pow (opS_none rfl)
  | _ => cases h
theorem cmp_ok (G0 : Gd X g P n T) (tk : Takes X Wx) {o : Op} {op : CmpOp} (h : cmpOf o = some op) : OpS X g Wx P.gam (callF P n) o false (compareOp op) ∧ tellsO o = true := by
  have hu := G0.units
  cases o with
  | eq => cases h; exact ⟨opS_of (r_eq (by omega)) (own_eq G0.own G0.room1 tk), rfl⟩
  | ne => cases h; exact ⟨opS_of (r_ne (by omega)) (own_ne G0.own G0.room1 tk), rfl⟩
  | lt => cases h; exact ⟨opS_of r_lt (opS_none rfl), rfl⟩
  | le => cases h; exact ⟨opS_of r_le (opS_none rfl), rfl⟩
  | gt => cases h; exact ⟨opS_of r_gt (opS_none rfl), rfl⟩
  | ge => cases h; exact ⟨opS_of r_ge (opS_none rfl), rfl⟩
  | «is» => cases h; exact ⟨opS_of r_is (opS_none rfl), rfl⟩
  | isnot => cases h; exact ⟨opS_of r_isnot (opS_none rfl), rfl⟩
  | isin => cases h; exact ⟨opS_of (r_isin (by omega)) (own_in G0.own G0.room1 tk), rfl⟩
  | notin => cases h; exact ⟨opS_of (r_notin (by omega)) (own_notin G0.own G0.room1 tk), rfl⟩
  | _ => cases h
def bNames : List String := ["abs", "max", "min", "sum", "sorted", "all", "any", "repr", "len", "isinstance"]
def tNames : List String := ["int", "list", "tuple", "dict", "str", "bool", "set"]
theorem boot_b : ∀ x ∈ bNames, bootBuiltins (Str.ofString x) = some (.builtin x) := fun x h => of_decide_eq_true (List.all_eq_true.mp (show (bNames.all fun x => decide (bootBuiltins (Str.ofString x) = some (.builtin x))) = true by decide +kernel) x h)
theorem boot_t : ∀ x ∈ tNames, bootBuiltins (Str.ofString x) = some (.type x) := fun x h => of_decide_eq_true (List.all_eq_true.mp (show (tNames.all fun x => decide (bootBuiltins (Str.ofString x) = some (.type x))) = true by decide +kernel) x h)
theorem blt_ok (G0 : Gd X g P n T) {o : Op} {nm : String} {k : Nat} (h : bltOf o = some (nm, k)) : CallR X (.builtin nm) (rOp X.K g o) ∧ bootBuiltins (Str.ofString nm) = some (.builtin nm) ∧ noOwn o = true := by
  cases o with
  | abs => cases h; exact ⟨b_abs, boot_b _ (by decide), rfl⟩
  | max2 => cases h; exact ⟨b_max2 G0.calm, boot_b _ (by decide), rfl⟩
  | min2 => cases h; exact ⟨b_min2 G0.calm, boot_b _ (by decide), rfl⟩
  | maxL => cases h; exact ⟨b_maxL G0.calm, boot_b _ (by decide), rfl⟩
  | minL => cases h; exact ⟨b_minL G0.calm, boot_b _ (by decide), rfl⟩
  | sum => cases h; exact ⟨b_sum G0.calm, boot_b _ (by decide), rfl⟩
  | sorted => cases h; exact ⟨b_sorted, boot_b _ (by decide), rfl⟩
  | all => cases h; exact ⟨b_all G0.calm, boot_b _ (by decide), rfl⟩
  | any => cases h; exact ⟨b_any G0.calm, boot_b _ (by decide), rfl⟩
  | repr => cases h; exact ⟨call_repr (K := X.K) G0.room.gd G0.units, boot_b _ (by decide), rfl⟩
  | _ => cases h
theorem ty_ok (hc : X.calm = true) {o : Op} {nm : String} {k : Nat} (h : tyOf o = some (nm, k)) : CallR X (.type nm) (rOp X.K g o) ∧ bootBuiltins (Str.ofString nm) = some (.type nm) ∧ noOwn o = true := by
  cases o with
  | int => cases h; exact ⟨b_int, boot_t _ (by decide), rfl⟩
  | list => cases h; exact ⟨b_list hc, boot_t _ (by decide), rfl⟩
  | tuple => cases h; exact ⟨b_tuple, boot_t _ (by decide), rfl⟩
  | dict => cases h; exact ⟨b_dict hc, boot_t _ (by decide), rfl⟩
  | _ => cases h
end
end Rf

namespace Rf
open PySem L2 PyProof.Rows

section
variable {X : Cx} {g : G} {Wx : WX} {P : Prg} {n : Nat} {T : Tb} {Γ : Gam} {C : Call} {a c e : Expr} {A : Ev} {pos p : Pos} {es : List Expr} {Es : List Ev}
/-- len by its evaluation -/
def LenS (X : Cx) (g : G) (Wx : WX) (Γ : Gam) (C : Call) (own : Bool) : Prop :=
  ∀ (pins : List (Addr × Obj)) (s : Shared) (σ : L2.St) (H : Hp) (x : V) (v : Value) (Q : VK) (env : Env) (S : Hp) (ft : Ft) (a : D), (own = true → a.isIns = true) → (a.isIns = true → RD X.K g S a x) → L2.Inv X pins σ H s → RelV x v → Rel X.K g env S σ H ft → PD X.K g S H a x →
    After X.K g Wx σ S H ft.own Q (evOp Γ C .len [a] env) → wpAny (model X.prog X.w) X.A (call (.builtin "len") [v]) (EP X pins σ Q) X.xe s
theorem lenS_of (hw : LenS X g Wx Γ C true) : LenS X g Wx Γ C false := by
  intro pins s σ H x v Q env S ft a _ rd I rx R ha m
  cases q : a.isIns with
  | true => exact hw pins s σ H x v Q env S ft a (fun _ => q) rd I rx R ha m
  | false =>
    have m : After X.K g Wx σ S H ft.own Q (match opD .len [a] with | some w => .ok w env | none => .bad) := by
      cases a <;> first | exact m | cases q
    refine b_len (g := g) pins s σ H [x] [v] Q I (.cons rx .nil) ?_
    cases e : opD .len [a] with
    | none => rw [e] at m; exact m.elim
    | some w =>
      rw [e] at m
      exact ⟨S, [a], w, R.sub, .cons ha .nil, e, fin_of R fun v S2 H2 ft2 R2 st2 => m v S2 H2 ft2 R2 st2⟩
theorem Gd.len (G0 : Gd X g P n T) (tk : Takes X Wx) : LenS X g Wx P.gam (callF P n) true := by
  intro pins s σ H x v Q env S ft a hw rd I rx R ha m
  cases a with
  | ins c fs vs =>
    have m : After X.K g Wx σ S H ft.own Q (match P.gam.meth c "__len__" with
      | some f => (finish [] env (callF P n f [.sh (.ins c fs vs)])).bind fun w env' => match w with | .sh (.int i) => if 0 ≤ i ∧ i ≤ lim then .ok w env' else .bad | _ => .bad
      | none => .bad) := m
    cases hf : P.gam.meth c "__len__" with
    | none => rw [hf] at m; exact m.elim
    | some f =>
      rw [hf] at m
      simp only at m
      obtain ⟨fi, DO, ME⟩ := G0.own.me c _ f hf
      obtain ⟨p, dx, us, rfl, e1, e2, e3, e4⟩ := id ha
      cases rx
      obtain ⟨ox, od, J⟩ := own_at I (R.sub _ _ e1)
      obtain ⟨mm, hF⟩ := I.fr
      refine PySem.W.len_K hF I.ok.mod.kin J ME.at_ ME.fn ?_
      refine own_run (ds := [.ins c fs vs]) G0.own tk (G0.room1.in1.mono (by omega)) I.env0.in1 I R hf (G0.own.ln c f hf) (.one (rd rfl)) (.cons rfl .nil) m fun v' u' s' H' w env' S' ft' I' rv R' am => ?_
      match w, am with
      | .sh (.int i), am =>
        simp only at am
        split at am
        · rename_i q
          obtain ⟨z, ez, rz⟩ := R'.last
          cases ez
          cases (show v' = .int i from rz.2)
          obtain ⟨t, rfl⟩ := (show ∃ t, u' = Value.int i t from rv)
          have hl : i ≤ 16777216 := q.2
          exact ⟨⟨q.1, by omega⟩, ⟨.int i, H', I'.tok _, ⟨_, rfl⟩, After.ok_sh R' (d := .int i) rfl am⟩⟩
        · exact am.elim
  | _ => exact absurd (hw rfl) (by simp [D.isIns])
theorem s_len {x : Str} (ho : LenS X g Wx Γ C false) (hg : Gl X x) (hm : X.mg x = none) (hv : bootBuiltins x = some (.builtin "len")) (hn : x ≠ "__name__") (hdb : (x == ("__debug__" : Str)) = false) (ha : Snd X g Wx a A) :
    Snd X g Wx (.Call (.Name x p) [a] [] pos) (mkEv (opEv Γ C .len [A])) := by
  refine s_plain ⟨fun pins s σ H Q I h => ?_⟩ (fun _ => rfl) fun _ _ => rfl
  refine wpAny_Call_Name_kw (ld_blt I hg hm hv ?_ hn hdb)
  refine PyProof.Rows.callWith_builtin1 (thn ((pa_cons ha.po pa_nil (ha.ns _ _)).run pos pins s σ H (fun vs H1 => ∃ x, vs = [x] ∧ ∃ env S ft a, Rel X.K g env S σ H1 ft ∧ PD X.K g S H1 a x ∧ (a.isIns = true → RD X.K g S a x) ∧ After X.K g Wx σ S H1 ft.own Q (evOp Γ C .len [a] env)) I ?_) fun us s1 ⟨vs, H1, I1, r1, y, hy, env, S, ft, d, R, pd, rd, m⟩ => ?_) (ha.ns _ _) rfl
  · exact tO_mono (op_one h) fun x H1 q => ⟨x, rfl, q⟩
  · subst hy
    obtain ⟨u, rfl, ru⟩ := vals1 r1
    exact ho pins s1 σ H1 y u Q env S ft d (fun z => by cases z) rd I1 ru R pd m

def clsB (T : Tb) (sc : Scope) (c : Expr) (t : Ty) : Bool := match c with
  | .Name x _ => match t with
    | .own i => decide (T.cls.lookup x = some i) && (T.cs.contains i && (glB sc x && plainNm x))
    | t => x == Str.ofString (tyName t) && T.blts.contains x && glB sc x && plainNm x
  | _ => false
theorem clsB_base (G0 : Gd X g P n T) {t : Ty} {x : Str} {q : Pos} (h1 : isOwnTy t = false) (h : (x == Str.ofString (tyName t) && T.blts.contains x && glB X.env.scope x && plainNm x) = true) : ClsE X g T.cs (.Name x q) t := by
  simp only [Bool.and_eq_true, Bool.not_eq_true'] at h
  obtain ⟨⟨⟨h2, h3⟩, h4⟩, h5⟩ := h
  obtain ⟨n1, n2, n3⟩ := plainNm_ok h5
  have hx : x = Str.ofString (tyName t) := eq_of_beq h2
  have hv : bootBuiltins x = some (.type (tyName t)) := by
    rw [hx]
    cases t <;> first | (cases h1; done) | exact boot_t _ (by decide)
  exact ⟨⟨.ty (tyName t), .type (tyName t), pe_bltn (glB_ok h4) (G0.blts x h3) hv rfl n2 n1, .ty _, tyV_base h1 (G0.itk t h1)⟩, fun _ _ => rfl⟩
theorem clsB_ok (G0 : Gd X g P n T) {t : Ty} (h : clsB T X.env.scope c t = true) : ClsE X g T.cs c t := by
  unfold clsB at h
  split at h
  · rename_i x q
    cases t with
    | own i =>
      simp only [Bool.and_eq_true, decide_eq_true_eq] at h
      obtain ⟨h1, h2, h3, h4⟩ := h
      obtain ⟨n1, n2, n3⟩ := plainNm_ok h4
      have hi : i ∈ T.cs := List.contains_iff_mem.mp h2
      obtain ⟨k1, k2⟩ := G0.ito i hi
      refine ⟨⟨.ref (g.ca i), .ref (g.ca i), pe_glob (glB_ok h3) (G0.cls x i h1) rfl n1, .own _, ⟨fun d t' hd b hb => ?_, fun c' hc => ?_⟩⟩, fun _ _ => rfl⟩
      · have hm : t' ∈ eqTys := by cases d <;> first | (cases hd; done) | (cases hd; decide)
        have hb' : b = false := by cases d <;> first | (cases hd; done) | (cases hb; rfl)
        rw [k1 t' hm, hb']
      · rw [k2 c' hc]
        by_cases q : i = c'
        · subst q; simp
        · have : (Ty.own i == Ty.own c') = false := by simp [q]
          rw [this]; simp [q]
    | int => exact clsB_base G0 rfl h
    | bool => exact clsB_base G0 rfl h
    | str => exact clsB_base G0 rfl h
    | list => exact clsB_base G0 rfl h
    | tuple => exact clsB_base G0 rfl h
    | dict => exact clsB_base G0 rfl h
  · cases h
def clsBs (T : Tb) (sc : Scope) : List Expr → List Ty → Bool
  | [], [] => true
  | c :: es, t :: ts => clsB T sc c t && clsBs T sc es ts
  | _, _ => false
theorem clsBs_ok (G0 : Gd X g P n T) : ∀ {es : List Expr} {ts : List Ty}, clsBs T X.env.scope es ts = true → ClsEs X g T.cs es ts
  | [], [], _ => .nil
  | c :: es, t :: ts, h => by
    obtain ⟨h1, h2⟩ := Bool.and_eq_true_iff.mp (show (clsB T X.env.scope c t && clsBs T X.env.scope es ts) = true from h)
    exact .cons (clsB_ok G0 h1) (clsBs_ok G0 h2)
  | [], _ :: _, h => by cases h
  | _ :: _, [], h => by cases h

def bltB (T : Tb) (sc : Scope) (x : Str) : Bool := T.blts.contains x && glB sc x && plainNm x
def isNeg : Op → Bool | .neg => true | _ => false
def isRev : Op → Bool | .rev => true | _ => false
def isIdx : Op → Bool | .idx => true | _ => false
def isLen : Op → Bool | .len => true | _ => false
def clsArg (T : Tb) (sc : Scope) (c : Expr) (ts : List Ty) : Bool := match c with
  | .Tuple cl _ _ => clsBs T sc cl ts && !ts.isEmpty && decide (cl.length ≤ 100)
  | c => match ts with
    | [t] => clsB T sc c t
    | _ => false
def callArgs (T : Tb) (sc : Scope) (o : Op) (x : Str) (es : List Expr) : Option (List Expr) :=
  match o with
  | .inst cs ts => match es with
    | [a, c] => if x == "isinstance" && bltB T sc x && cs == T.cs && clsArg T sc c ts then some [a] else none
    | _ => none
  | .len => match es with
    | [a] => if x == "len" && bltB T sc x then some [a] else none
    | _ => none
  | o => match bltOf o with
    | some (nm, k) => if x == Str.ofString nm && decide (es.length = k) && !es.isEmpty && bltB T sc x then some es else none
    | none => match tyOf o with
      | some (nm, k) => if x == Str.ofString nm && decide (es.length = k) && !es.isEmpty && bltB T sc x then some es else none
      | none => none
def opArgs (T : Tb) (sc : Scope) (o : Op) (e : Expr) : Option (List Expr) :=
  match e with
  | .BinOp a op b _ => if binOf o = some op then some [a, b] else none
  | .Compare a [op] [b] _ => if cmpOf o = some op ∧ behindInMarks op b = false then some [a, b] else none
  | .UnaryOp .USub a _ => if isNeg o then some [a] else none
  | .Subscript a b _ => match b with
    | .Slice none none (some (.UnaryOp .USub (.Constant (.int i) _ _) _)) _ => if isRev o && i == 1 then some [a] else none
    | b => if isIdx o && notSlice b then some [a, b] else none
  | .Call (.Name x _) es [] _ => callArgs T sc o x es
  | _ => none
theorem two_args {b : Expr} {B : Ev → Prop} (h : Snds X g Wx [a, c] Es) : ∃ A F, Es = [A, F] ∧ Snd X g Wx a A ∧ Snd X g Wx c F := by
  cases h with
  | cons h1 h2 =>
    cases h2 with
    | cons h3 h4 => cases h4; exact ⟨_, _, rfl, h1, h3⟩
theorem one_arg (h : Snds X g Wx [a] Es) : ∃ A, Es = [A] ∧ Snd X g Wx a A := by
  cases h with
  | cons h1 h2 => cases h2; exact ⟨_, rfl, h1⟩
theorem ite_some {α : Type} {c : Prop} [Decidable c] {x y : α} (h : (if c then some x else none) = some y) : c ∧ x = y := iteS h
theorem callArgs_ok (G0 : Gd X g P n T) (tk : Takes X Wx) {o : Op} {x : Str} (h : callArgs T X.env.scope o x es = some es') (hs : Snds X g Wx es' Es) :
    Snd X g Wx (.Call (.Name x p) es [] pos) (mkEv (opEv P.gam (callF P n) o Es)) := by
  have dflt : ∀ (o : Op), (match bltOf o with
    | some (nm, k) => if x == Str.ofString nm && decide (es.length = k) && !es.isEmpty && bltB T X.env.scope x then some es else none
    | none => match tyOf o with
      | some (nm, k) => if x == Str.ofString nm && decide (es.length = k) && !es.isEmpty && bltB T X.env.scope x then some es else none
      | none => none) = some es' → Snd X g Wx (.Call (.Name x p) es [] pos) (mkEv (opEv P.gam (callF P n) o Es)) := fun o h => by
    cases e1 : bltOf o with
    | some q =>
      obtain ⟨nm, k⟩ := q
      rw [e1] at h
      obtain ⟨c, rfl⟩ := iteS h
      simp only [Bool.and_eq_true, bltB] at c
      obtain ⟨⟨⟨c1, c2⟩, c3⟩, ⟨c4, c5⟩, c6⟩ := c
      obtain ⟨n1, n2, n3⟩ := plainNm_ok c6
      obtain ⟨r1, r2, r3⟩ := blt_ok G0 e1
      have hx : x = Str.ofString nm := eq_of_beq c1
      refine s_callB (plain_ok r3) r1 (glB_ok c5) (G0.blts x c4) (by rw [hx]; exact r2) n2 n1 hs (fun z => by subst z; simp at c3) fun q => ?_
      cases es with
      | nil => simp at c3
      | cons _ _ => rfl
    | none =>
      rw [e1] at h
      simp only at h
      cases e2 : tyOf o with
      | some q =>
        obtain ⟨nm, k⟩ := q
        rw [e2] at h
        obtain ⟨c, rfl⟩ := iteS h
        simp only [Bool.and_eq_true, bltB] at c
        obtain ⟨⟨⟨c1, c2⟩, c3⟩, ⟨c4, c5⟩, c6⟩ := c
        obtain ⟨n1, n2, n3⟩ := plainNm_ok c6
        obtain ⟨r1, r2, r3⟩ := ty_ok (g := g) G0.calm e2
        have hx : x = Str.ofString nm := eq_of_beq c1
        exact s_callTy (plain_ok r3) r1 (glB_ok c5) (G0.blts x c4) (by rw [hx]; exact r2) n2 n1 hs (fun z => by subst z; simp at c3)
      | none => rw [e2] at h; cases h
  cases o with
  | inst cs ts =>
    unfold callArgs at h
    simp only at h
    split at h
    · rename_i a c
      obtain ⟨c0, rfl⟩ := iteS h
      simp only [Bool.and_eq_true, bltB] at c0
      obtain ⟨⟨⟨c1, ⟨c4, c5⟩, c6⟩, c7⟩, hh⟩ := c0
      obtain ⟨n1, n2, n3⟩ := plainNm_ok c6
      have hcs : cs = T.cs := eq_of_beq c7
      subst hcs
      have hx : x = Str.ofString "isinstance" := eq_of_beq c1
      have hv : bootBuiltins x = some (.builtin "isinstance") := by rw [hx]; exact boot_b _ (by decide)
      obtain ⟨A, rfl, hA⟩ := one_arg hs
      unfold clsArg at hh
      split at hh
      · simp only [Bool.and_eq_true, Bool.not_eq_true', decide_eq_true_eq] at hh
        obtain ⟨⟨c9, c10⟩, c11⟩ := hh
        exact s_instT (fun z => by subst z; simp at c10) (glB_ok c5) (G0.blts x c4) hv n2 n1 G0.ity hA (clsBs_ok G0 c9) c11
      · split at hh
        · exact s_inst1 (glB_ok c5) (G0.blts x c4) hv n2 n1 G0.ity hA (clsB_ok G0 hh)
        · cases hh
    · cases h
  | len =>
    unfold callArgs at h
    simp only at h
    split at h
    · rename_i a
      obtain ⟨c0, rfl⟩ := iteS h
      simp only [Bool.and_eq_true, bltB] at c0
      obtain ⟨c1, ⟨c4, c5⟩, c6⟩ := c0
      obtain ⟨n1, n2, n3⟩ := plainNm_ok c6
      have hx : x = Str.ofString "len" := eq_of_beq c1
      obtain ⟨A, rfl, hA⟩ := one_arg hs
      exact s_len (lenS_of (G0.len tk)) (glB_ok c5) (G0.blts x c4) (by rw [hx]; exact boot_b _ (by decide)) n2 n1 hA
    · cases h
  | _ => exact dflt _ h
theorem opArgs_ok (G0 : Gd X g P n T) (tk : Takes X Wx) {o : Op} (h : opArgs T X.env.scope o e = some es') (hs : Snds X g Wx es' Es) : Snd X g Wx e (mkEv (opEv P.gam (callF P n) o Es)) := by
  unfold opArgs at h
  split at h
  · rename_i a op b q
    obtain ⟨c, rfl⟩ := iteS h
    obtain ⟨A, B, rfl, hA, hB⟩ := two_args (b := a) (B := fun _ => True) hs
    exact s_binS (bin_ok c) hA hB
  · rename_i a op b q
    obtain ⟨⟨c1, c2⟩, rfl⟩ := iteS h
    obtain ⟨A, B, rfl, hA, hB⟩ := two_args (b := a) (B := fun _ => True) hs
    obtain ⟨w1, w2⟩ := cmp_ok G0 tk c1
    exact s_cmpS w2 w1 hA hB c2
  · rename_i a q
    obtain ⟨c, rfl⟩ := iteS h
    obtain ⟨A, rfl, hA⟩ := one_arg hs
    cases o <;> first | (cases c; done) | exact s_neg (plain_ok rfl) hA
  · rename_i a b q
    split at h
    · obtain ⟨c, rfl⟩ := iteS h
      obtain ⟨c1, c2⟩ := Bool.and_eq_true_iff.mp c
      obtain ⟨A, rfl, hA⟩ := one_arg hs
      cases eq_of_beq c2
      cases o <;> first | (cases c1; done) | exact s_rev hA
    · obtain ⟨c, rfl⟩ := iteS h
      obtain ⟨c1, c2⟩ := Bool.and_eq_true_iff.mp c
      obtain ⟨A, B, rfl, hA, hB⟩ := two_args (b := a) (B := fun _ => True) hs
      have hu := G0.units
      cases o <;> first | (cases c1; done) | exact s_idx (ixS_of (r_idx (by omega)) (own_idx G0.own G0.room1 tk)) hA hB c2
  · exact callArgs_ok G0 tk h hs
  · cases h
end
end Rf

namespace Rf
open PySem L2 PyProof.Rows

mutual
def D.same : D → D → Bool
  | .non, .non => true
  | .bl a, .bl b => a == b
  | .int a, .int b => a == b
  | .str a, .str b => a == b
  | .kt a, .kt b => D.sames a b
  | .tup a, .tup b => D.sames a b
  | .fn i, .fn j => i == j
  | .cls i, .cls j => i == j
  | _, _ => false
def D.sames : List D → List D → Bool
  | [], [] => true
  | a :: as, b :: bs => D.same a b && D.sames as bs
  | _, _ => false
end
mutual
theorem D.same_ok : ∀ {a b : D}, D.same a b = true → a = b
  | .non, b, h => by cases b <;> simp [D.same] at h <;> rfl
  | .bl a, b, h => by cases b <;> simp [D.same] at h; rw [h]
  | .int a, b, h => by cases b <;> simp [D.same] at h; rw [h]
  | .str a, b, h => by cases b <;> simp [D.same] at h; rw [h]
  | .kt a, b, h => by cases b <;> simp [D.same] at h; rw [D.sames_ok h]
  | .tup a, b, h => by cases b <;> simp [D.same] at h; rw [D.sames_ok h]
  | .fn a, b, h => by cases b <;> simp [D.same] at h; rw [h]
  | .cls a, b, h => by cases b <;> simp [D.same] at h; rw [h]
  | .lst _, b, h => by cases b <;> simp [D.same] at h
  | .dK _ _, b, h => by cases b <;> simp [D.same] at h
  | .dT _ _, b, h => by cases b <;> simp [D.same] at h
  | .set _, b, h => by cases b <;> simp [D.same] at h
  | .ins _ _ _, b, h => by cases b <;> simp [D.same] at h
  | .scr _, b, h => by cases b <;> simp [D.same] at h
  | .any, b, h => by cases b <;> simp [D.same] at h
theorem D.sames_ok : ∀ {a b : List D}, D.sames a b = true → a = b
  | [], [], _ => rfl
  | a :: as, b :: bs, h => by
    unfold D.sames at h
    obtain ⟨h1, h2⟩ := Bool.and_eq_true_iff.mp h
    rw [D.same_ok h1, D.sames_ok h2]
  | [], _ :: _, h => by cases h
  | _ :: _, [], h => by cases h
end
/-- grown only -/
structure Gw (S H S' H' : Hp) : Prop where
  sm : Sm S S'
  hh : Same H H'
  gr : ∀ a o, S' a = some o → S a = some o ∨ H a = none
theorem Gw.refl (S H : Hp) : Gw S H S H := ⟨Sm.refl S, Same.refl H, fun _ _ h => .inl h⟩
theorem Gw.trans {S H S1 H1 S2 H2 : Hp} (x : Gw S H S1 H1) (y : Gw S1 H1 S2 H2) : Gw S H S2 H2 := ⟨x.sm.trans y.sm, fun a o e => y.hh a o (x.hh a o e), fun a o e => by
  rcases y.gr a o e with z | z
  · exact x.gr a o z
  · refine .inr ?_
    cases q : H a with
    | none => rfl
    | some u => rw [x.hh a u q] at z; cases z⟩
def tP (K : PySem.W.Frag) (g : G) (p : Env → Option D) : TE := fun σ H Q => ∃ env S ft d, Rel K g env S σ H ft ∧ p env = some d ∧ ∀ v S' H', Rel K g env S' σ H' ft → Gw S H S' H' → RD K g S' d v → Q v H'
def tPPs (K : PySem.W.Frag) (g : G) (p : Env → Option (List D)) : TA := fun σ H Q => ∃ env S ft ds, Rel K g env S σ H ft ∧ p env = some ds ∧ ∀ vs S' H', Rel K g env S' σ H' ft → Gw S H S' H' → RDs K g S' ds vs → Q vs H'
section
variable {K : PySem.W.Frag} {g : G} {S H S' H' : Hp} {ft : Ft} {env : Env} {σ : L2.St}
/-- grown only, by an answer of an operation -/
theorem fin_pure (R : Rel K g env S σ H ft) {d : D} {Q : VK} (h : ∀ v S' H', Rel K g env S' σ H' ft → Gw S H S' H' → RD K g S' d v → Q v H') : FinW K g S H (.sh d) Q := by
  intro v S' H' l r nd fr sm hh sub gr
  exact h v S' H' (R.grow sm hh sub gr) ⟨sm, hh, gr⟩ r.2
end
/-- an index that is written -/
def ixLit : Expr → Option Int
  | .Constant c _ _ => match c with
    | .int k => some k
    | _ => none
  | .UnaryOp .USub (.Constant c _ _) _ => match c with
    | .int k => some (-k)
    | _ => none
  | _ => none
def isIdxP : Op → Bool
  | .idx => true
  | _ => false
section
variable {X : Cx} {g : G} {e a b c : Expr} {pos : Pos} {T : Tb} {Γ : Ct}
mutual
def chkP : CE → Ct → Expr → Bool
  | .var i, Γ, e => match e with
    | .Name x _ => decide (Γ.N[i]? = some x) && (visB Γ.sc x && plainNm x)
    | _ => false
  | .cst d, _, e => litP d e
  | .fld a f, Γ, e => match a with
    | .var i => match e with
      | .Attribute (.Name x _) f' _ => f == f' && (decide (Γ.N[i]? = some x) && (visB Γ.sc x && plainNm x))
      | _ => false
    | _ => false
  | .op o es, Γ, e => match es with
    | [a, .cst (.int k)] => match e with
      | .Subscript v b _ => isIdxP o && (decide (ixLit b = some k) && chkP a Γ v)
      | _ => false
    | _ => false
  | .ite c a b, Γ, e => match c with
    | .fld (.var i) f => match e with
      | .IfExp (.Attribute (.Name x _) f' _) y z _ => f == f' && (decide (Γ.N[i]? = some x) && (visB Γ.sc x && (plainNm x && (chkP a Γ y && chkP b Γ z))))
      | _ => false
    | _ => false
  | .tup es, Γ, e => match e with
    | .Tuple xs _ _ => chkPs es Γ xs
    | _ => false
  | _, _, _ => false
def chkPs : List CE → Ct → List Expr → Bool
  | [], _, xs => xs.isEmpty
  | c :: cs, Γ, xs => match xs with
    | x :: xs => chkP c Γ x && chkPs cs Γ xs
    | [] => false
def litP (d : D) : Expr → Bool
  | .Constant c _ _ => match c with
    | .int i => D.same d (.int i)
    | .bool b => D.same d (.bl b)
    | .str s => D.same d (.str s)
    | .none => D.same d .non
    | _ => false
  | _ => false
end
theorem pp_imp {p q : Env → Option D} (h : PE X e (tP X.K g p)) (w : ∀ env d, q env = some d → p env = some d) : PE X e (tP X.K g q) := PE.imp h fun σ H Q ⟨env, S, ft, d, R, e1, k⟩ => ⟨env, S, ft, d, R, w _ _ e1, k⟩
theorem p_var {i : Nat} {x : Str} (hN : X.N[i]? = some x) (hv : Vis X.env.scope x) (h1 : (x == ("__debug__" : Str)) = false) (h2 : (x == ("__classdict__" : Str)) = false) : PE X (.Name x pos) (tP X.K g (puE (.var i))) := by
  refine PE.imp (pe_var hN hv h1 h2) fun σ H Q ⟨env, S, ft, d, R, e1, k⟩ => ?_
  unfold puE at e1
  split at e1
  · rename_i d' e2
    cases e1
    obtain ⟨v, e3, r⟩ := R.sh e2
    exact ⟨v, e3, k v S H R (Gw.refl S H) r⟩
  · cases e1
theorem p_lit {d : D} (h : litP d e = true) : PE X e (tP X.K g (puE (.cst d))) := by
  have key : ∀ {v : V} {d : D}, (∀ S : Hp, RD X.K g S d v) → ∀ σ H Q, tP X.K g (puE (.cst d)) σ H Q → tC v σ H Q := fun {v d} r σ H Q ⟨env, S, ft, d', R, e1, k⟩ => by
    unfold puE at e1
    cases e1
    exact k v S H R (Gw.refl S H) (r S)
  unfold litP at h
  split at h
  · split at h
    · cases D.same_ok h; exact PE.imp pe_int (key fun _ => rfl)
    · cases D.same_ok h; exact PE.imp pe_bl (key fun _ => rfl)
    · cases D.same_ok h; exact PE.imp pe_str (key fun _ => rfl)
    · cases D.same_ok h; exact PE.imp pe_non (key fun _ => rfl)
    · cases h
  · cases h
theorem p_fld {i : Nat} {x f : Str} {p2 : Pos} (hN : X.N[i]? = some x) (hv : Vis X.env.scope x) (h1 : (x == ("__debug__" : Str)) = false) (h2 : (x == ("__classdict__" : Str)) = false) : PE X (.Attribute (.Name x p2) f pos) (tP X.K g (puE (.fld (.var i) f))) := by
  refine PE.imp (pe_fld (pe_var hN hv h1 h2) (attributeBase_of rfl)) fun σ H Q ⟨env, S, ft, d, R, e1, k⟩ => ?_
  unfold puE at e1
  simp only at e1
  split at e1
  · rename_i c fs ds e2
    obtain ⟨v, e3, r⟩ := R.sh e2
    obtain ⟨p, dx, vs, rfl, e4, e5, e6, e7⟩ := r
    obtain ⟨u, e8, e9, e10⟩ := lookFD_ok e5 e1
    exact ⟨_, e3, p, _, dx, _, u, rfl, R.sub _ _ e4, e7.1, e7.2 f e10, e8, k u S H R (Gw.refl S H) e9⟩
  · rename_i c fs ws e2
    obtain ⟨v, e3, r⟩ := R.slot i _ e2
    obtain ⟨p, dx, vs, ft', rfl, _, e4, e5, e6, e7⟩ := r
    cases e8 : lookF fs ws f with
    | none => rw [e8] at e1; cases e1
    | some w =>
      rw [e8] at e1
      cases w with
      | sh d' =>
        cases e1
        obtain ⟨u, l', e9, e10, e11⟩ := lookF_ok e5 e8
        exact ⟨_, e3, p, _, dx, _, u, rfl, e4, e7.1, e7.2 f e11, e9, k u S H R (Gw.refl S H) e10.2⟩
      | _ => cases e1
  · cases e1
theorem ixLit_ok {n : Int} (h : ixLit b = some n) : PE X b (tC (.int n)) ∧ notSlice b = true := by
  unfold ixLit at h
  split at h
  · split at h
    · cases h; exact ⟨pe_int, rfl⟩
    · cases h
  · split at h
    · cases h; exact ⟨PE.imp (pe_un un_neg pe_int) fun σ H Q q => ⟨_, rfl, q⟩, rfl⟩
    · cases h
  · cases h
def tPF (K : PySem.W.Frag) (g : G) (p : Env → Option (List D)) : TE := fun σ H Q => ∃ env S ft l, Rel K g env S σ H ft ∧ p env = some l ∧ ∀ q vs, H q = some (.lst vs) → RDs K g S l vs → Q (.ref q) H
theorem pF_fld {i : Nat} {x f : Str} {p2 : Pos} (hN : X.N[i]? = some x) (hv : Vis X.env.scope x) (h1 : (x == ("__debug__" : Str)) = false) (h2 : (x == ("__classdict__" : Str)) = false) : PE X (.Attribute (.Name x p2) f pos) (tPF X.K g (peF (.fld (.var i) f))) := by
  refine PE.imp (pe_fld (pe_var hN hv h1 h2) (attributeBase_of rfl)) fun σ H Q ⟨env, S, ft, l, R, e1, k⟩ => ?_
  unfold peF at e1
  simp only at e1
  split at e1
  · rename_i c fs ws e2
    split at e1
    · rename_i l' e3
      cases e1
      obtain ⟨v, ev, r⟩ := R.slot i _ e2
      obtain ⟨a, dx, vs, fl, rfl, ef, h3, h4, h5, h6⟩ := r
      have nd := R.nd i
      rw [ef] at nd
      obtain ⟨p, us, fl', k1, k2, k3, k4, k5, _⟩ := RWs.shareF (f := f) h4 (List.nodup_cons.mp nd).2 (fun b hb => R.out i b (by rw [ef]; exact List.mem_cons_of_mem _ hb)) e3 h5
      exact ⟨_, ev, a, _, dx, _, _, rfl, h3, h6.1, h6.2 f k5, k1, k p us k3 k4⟩
    · cases e1
  · cases e1
theorem pF_no {ca : CE} (h : ∀ env, peF ca env = none) : PE X a (tPF X.K g (peF ca)) := ⟨fun pins s σ H Q I ⟨env, S, ft, l, R, e1, k⟩ => by rw [h] at e1; cases e1⟩
theorem p_idx {o : Op} {ca : CE} {n : Int} (hl : ixLit b = some n) (hF : PE X a (tPF X.K g (peF ca))) (ha : PE X a (tP X.K g (puE ca))) : PE X (.Subscript a b pos) (tP X.K g (puE (.op o [ca, .cst (.int n)]))) := by
  obtain ⟨pb, nb⟩ := ixLit_ok (X := X) hl
  refine ⟨fun pins s σ H Q I ⟨env, S, ft, d, R, e1, k⟩ => ?_⟩
  unfold puE at e1
  simp only at e1
  have tail : ∀ {v u : Value} {s2 : Shared} {x y : V} {H2 : Hp}, L2.Inv X pins σ H2 s2 → RelV x v → RelV y u → (y = .int n ∧ ((∃ b vs z, x = .ref b ∧ SqL X.K H2 b vs ∧ atI vs n = some z ∧ Q z H2) ∨ ∃ b vs z, x = .ref b ∧ SqT X.K H2 b vs ∧ atI vs n = some z ∧ Q z H2)) →
      wpAny (model X.prog X.w) X.A (subscriptTail a b v u) (EP X pins σ Q) X.xe s2 := fun {v u s2 x y H2} I2 rx ry ⟨ey, q⟩ => by
    subst ey
    rcases q with ⟨b', vs, z, rfl, q1, q2, q3⟩ | ⟨b', vs, z, rfl, q1, q2, q3⟩
    · exact ix_list a _ pins s2 σ H2 _ _ v u Q I2 rx ry ⟨b', vs, n, z, rfl, rfl, q1, q2, q3⟩ (plainIx_of nb _ _)
    · exact ix_tup a _ pins s2 σ H2 _ _ v u Q I2 rx ry ⟨b', vs, n, z, rfl, rfl, q1, q2, q3⟩ (plainIx_of nb _ _)
  cases eF : peF ca env with
  | some l =>
    rw [eF] at e1
    refine Subscript_ (binT (R := fun x y H2 => y = .int n ∧ ((∃ b vs z, x = .ref b ∧ SqL X.K H2 b vs ∧ atI vs n = some z ∧ Q z H2) ∨ ∃ b vs z, x = .ref b ∧ SqT X.K H2 b vs ∧ atI vs n = some z ∧ Q z H2)) hF pb I ⟨env, S, ft, l, R, eF, fun p vs hp r => ?_⟩ fun v u s2 x y H2 I2 rx ry q => tail I2 rx ry q)
    obtain ⟨z, e5, rz⟩ := atD_ok r e1
    exact ⟨rfl, .inl ⟨p, vs, z, rfl, SqL.of hp, e5, k z S H R (Gw.refl S H) rz⟩⟩
  | none =>
    rw [eF] at e1
    have key : ∀ l : D, puE ca env = some l → (∃ xs, (l = .lst xs ∨ l = .tup xs) ∧ atD xs n = some d) → wpAny (model X.prog X.w) X.A (eval (.Subscript a b pos) X.env) (EP X pins σ Q) X.xe s := fun l e2 ⟨xs, hl, e3⟩ => by
      refine Subscript_ (binT (R := fun x y H2 => y = .int n ∧ ((∃ b vs z, x = .ref b ∧ SqL X.K H2 b vs ∧ atI vs n = some z ∧ Q z H2) ∨ ∃ b vs z, x = .ref b ∧ SqT X.K H2 b vs ∧ atI vs n = some z ∧ Q z H2)) ha pb I ⟨env, S, ft, l, R, e2, fun v S' H' R' gw r => ?_⟩ fun v u s2 x y H2 I2 rx ry q => tail I2 rx ry q)
      refine ⟨rfl, ?_⟩
      rcases hl with rfl | rfl
      · obtain ⟨b', vs, rfl, e4, r⟩ := r
        obtain ⟨z, e5, rz⟩ := atD_ok r e3
        exact .inl ⟨b', vs, z, rfl, SqL.of (R'.sub _ _ e4), e5, k z S' H' R' gw rz⟩
      · obtain ⟨b', vs, rfl, e4, r⟩ := r
        obtain ⟨z, e5, rz⟩ := atD_ok r e3
        exact .inr ⟨b', vs, z, rfl, SqT.of (R'.sub _ _ e4), e5, k z S' H' R' gw rz⟩
    simp only at e1
    split at e1
    · rename_i xs e2
      exact key _ e2 ⟨xs, .inl rfl, e1⟩
    · rename_i xs e2
      exact key _ e2 ⟨xs, .inr rfl, e1⟩
    · cases e1
theorem s_pure {Wx : WX} {c : CE} (h : PE X (.Subscript a b pos) (tP X.K g (puE c))) : Snd X g Wx (.Subscript a b pos) (mkEv fun env => match puE c env with
    | some d => .ok (.sh d) env
    | none => .bad) := by
  refine s_plain (PE.imp h fun σ H Q q => ?_) (fun _ => rfl) fun _ _ => rfl
  obtain ⟨env, S, ft, R, m⟩ := tW_iff.mp q
  cases e : puE c env with
  | none => simp only [e] at m <;> exact m.elim
  | some d =>
    simp only [e] at m
    refine ⟨env, S, ft, d, R, e, fun v S' H' R' gw r => ?_⟩
    obtain ⟨ft2, R2, ho⟩ := R'.pushSh r
    exact m v S' H' ft2 R2 ((Step.grow' gw.sm gw.hh gw.gr).post ho)
theorem p_ite {cc ca cb : CE} (hc : PE X c (tP X.K g (puE cc))) (ha : PE X a (tP X.K g (puE ca))) (hb : PE X b (tP X.K g (puE cb))) (he : ∀ whole, isTrue c X.env whole = (do let v ← whole; standAt c.pos; holding [v] (truthy v))) :
    PE X (.IfExp c a b pos) (tP X.K g (puE (.ite cc ca cb))) := by
  refine PE.imp (pe_ifExp (pt_truth hc he) ha hb) fun σ H Q ⟨env, S, ft, d, R, e1, k⟩ => ?_
  unfold puE at e1
  split at e1
  · rename_i kb e2
    refine ⟨env, S, ft, _, R, e2, fun v S' H' R' gw r => ?_⟩
    have ev : v = .bl kb := r
    subst ev
    refine ⟨kb, rfl, ?_⟩
    cases kb with
    | true => exact ⟨env, S', ft, d, R', e1, fun v S2 H2 R2 g2 r => k v S2 H2 R2 (gw.trans g2) r⟩
    | false => exact ⟨env, S', ft, d, R', e1, fun v S2 H2 R2 g2 r => k v S2 H2 R2 (gw.trans g2) r⟩
  · cases e1
theorem p_nil : PA X [] (tPPs X.K g (puEs [])) := ⟨fun pos pins s σ H Q I ⟨env, S, ft, ds, R, e1, k⟩ => by
  unfold puEs at e1
  cases e1
  exact (pa_nil (X := X)).run pos pins s σ H Q I (k [] S H R (Gw.refl S H) rfl)⟩
theorem p_cons {ca : CE} {cs : List CE} {es : List Expr} (ha : PE X a (tP X.K g (puE ca))) (hs : PA X es (tPPs X.K g (puEs cs))) (ns : ∀ env, starEach (a :: es) env = (false, eval a env) :: starEach es env) : PA X (a :: es) (tPPs X.K g (puEs (ca :: cs))) :=
  ⟨fun pos pins s σ H Q I ⟨env, S, ft, ds, R, e1, k⟩ => by
    unfold puEs at e1
    split at e1
    · rename_i d dr e2 e3
      cases e1
      refine (pa_cons ha hs (ns _)).run pos pins s σ H Q I ⟨env, S, ft, d, R, e2, fun v S' H' R' gw r => ⟨env, S', ft, dr, R', e3, fun vs S2 H2 R2 g2 rs => ?_⟩⟩
      exact k (v :: vs) S2 H2 R2 (gw.trans g2) (.cons (RD.mono g2.sm _ _ r) rs)
    · cases e1⟩
theorem p_tup {cs : List CE} {es : List Expr} {x1} (h : PA X es (tPPs X.K g (puEs cs))) : PE X (.Tuple es x1 pos) (tP X.K g (puE (.tup cs))) := by
  refine PE.imp (pe_tup h) fun σ H Q ⟨env, S, ft, d, R, e1, k⟩ => ?_
  unfold puE at e1
  split at e1
  · rename_i ds e2
    obtain ⟨hz, rfl⟩ := iteS e1
    refine ⟨env, S, ft, ds, R, e2, fun vs S' H' R' gw rs => ⟨by rw [slim, ← rs.length]; exact hz, fun p hp => ?_⟩⟩
    exact FinW.newT R'.sub hp rs (fin_pure R' fun v S2 H2 R2 g2 r => k v S2 H2 R2 (gw.trans g2) r)
  · cases e1
mutual
theorem chkP_ok (S : Sc X Γ) : ∀ (c : CE) {e : Expr}, chkP c Γ e = true → PE X e (tP X.K g (puE c)) ∧ (∀ es env, starEach (e :: es) env = (false, eval e env) :: starEach es env) ∧ PE X e (tPF X.K g (peF c))
  | .var i, e, h => by
    unfold chkP at h
    split at h
    · simp only [Bool.and_eq_true, decide_eq_true_eq] at h
      obtain ⟨h1, h2, h3⟩ := h
      obtain ⟨n1, n2, n3⟩ := plainNm_ok h3
      exact ⟨p_var (by rw [S.N]; exact h1) (by rw [S.sc]; exact visB_ok h2) n1 n3, fun _ _ => rfl, pF_no fun _ => rfl⟩
    · cases h
  | .cst d, e, h => by
    unfold chkP at h
    refine ⟨p_lit h, ?_, pF_no fun _ => rfl⟩
    unfold litP at h
    split at h
    · exact fun _ _ => rfl
    · cases h
  | .fld a f, e, h => by
    unfold chkP at h
    split at h
    · split at h
      · simp only [Bool.and_eq_true, decide_eq_true_eq] at h
        obtain ⟨h0, h1, h2, h3⟩ := h
        obtain ⟨n1, n2, n3⟩ := plainNm_ok h3
        cases eq_of_beq h0
        exact ⟨p_fld (by rw [S.N]; exact h1) (by rw [S.sc]; exact visB_ok h2) n1 n3, fun _ _ => rfl, pF_fld (by rw [S.N]; exact h1) (by rw [S.sc]; exact visB_ok h2) n1 n3⟩
      · cases h
    · cases h
  | .op o es, e, h => by
    unfold chkP at h
    split at h
    · rename_i a k
      split at h
      · simp only [Bool.and_eq_true, decide_eq_true_eq] at h
        obtain ⟨h0, h1, h2⟩ := h
        obtain ⟨k1, k2, k3⟩ := chkP_ok S a h2
        exact ⟨p_idx h1 k3 k1, fun _ _ => rfl, pF_no fun _ => rfl⟩
      · cases h
    · cases h
  | .ite c a b, e, h => by
    unfold chkP at h
    split at h
    · split at h
      · simp only [Bool.and_eq_true, decide_eq_true_eq] at h
        obtain ⟨h0, h1, h2, h3, h4, h5⟩ := h
        obtain ⟨n1, n2, n3⟩ := plainNm_ok h3
        cases eq_of_beq h0
        exact ⟨p_ite (p_fld (by rw [S.N]; exact h1) (by rw [S.sc]; exact visB_ok h2) n1 n3) (chkP_ok S a h4).1 (chkP_ok S b h5).1 (fun _ => rfl), fun _ _ => rfl, pF_no fun _ => rfl⟩
      · cases h
    · cases h
  | .tup es, e, h => by
    unfold chkP at h
    split at h
    · exact ⟨p_tup (chkPs_ok S es h), fun _ _ => rfl, pF_no fun _ => rfl⟩
    · cases h
  | .star _, _, h | .lst _, _, h | .dct _ _ _, _, h | .chain _ _ _ _ _, _, h | .slc _ _ _, _, h | .not _, _, h | .and _, _, h | .or _, _, h | .call _ _ _ _, _, h | .meth _ _ _ _ _, _, h | .mk _ _ _ _, _, h | .lc _ _ _ _ _ _, _, h
  | .lc2 _ _ _ _ _ _ _ _ _ _ _, _, h | .sc _ _ _ _ _ _, _, h | .sc2 _ _ _ _ _ _ _ _ _ _ _, _, h | .dc _ _ _ _ _ _ _, _, h | .xfld _ _, _, h | .never, _, h | .gen _ _, _, h | .pure _, _, h | .callv _ _ _ _, _, h => by unfold chkP at h; cases h
theorem chkPs_ok (S : Sc X Γ) : ∀ (cs : List CE) {es : List Expr}, chkPs cs Γ es = true → PA X es (tPPs X.K g (puEs cs))
  | [], es, h => by
    unfold chkPs at h
    have := List.isEmpty_iff.mp h
    subst this
    exact p_nil
  | c :: cs, es, h => by
    unfold chkPs at h
    split at h
    · simp only [Bool.and_eq_true] at h
      obtain ⟨k1, k2, _⟩ := chkP_ok S c h.1
      exact p_cons k1 (chkPs_ok S cs h.2) (k2 _)
    · cases h
end
end

section
variable {K : PySem.W.Frag} {g : G} {S H : Hp}
/-- the list in a field, one item more -/
theorem fldW_ok {f : Str} {d : D} {y : V} (ry : RD K g S d y) : ∀ {fs : List Str} {ws : List W} {vs : List V} {ft : List Addr} {l : List D}, RWs K g S H ws vs ft → ft.Nodup → lookF fs ws f = some (.oL l) → fs.length = vs.length →
    ∃ p us, (fs.zip vs).lookup f = some (.ref p) ∧ p ∈ ft ∧ H p = some (.lst us) ∧ us.length = l.length ∧ f ∈ fs ∧ (putW f (.oL (l ++ [d])) fs ws).1 = fs ∧ RWs K g S (upd H p (.lst (us ++ [y]))) (putW f (.oL (l ++ [d])) fs ws).2 vs ft
  | [], ws, vs, ft, l, r, nd, h, hl => by cases ws <;> cases h
  | k :: fs, [], vs, ft, l, r, nd, h, hl => by cases h
  | k :: fs, x :: ws, vs, ft, l, r, nd, h, hl => by
    obtain ⟨v, us, l1, l2, rfl, rfl, r1, r2⟩ := r
    obtain ⟨n1, n2, n3⟩ := List.nodup_append.mp nd
    unfold lookF at h
    by_cases q : k = f
    · subst q
      rw [if_pos rfl] at h
      cases h
      obtain ⟨p, us0, rfl, rfl, e1, e2⟩ := r1
      have hp2 : p ∉ l2 := fun z => n3 p (by simp) p z rfl
      refine ⟨p, us0, by simp, by simp, e1, (RDs.length e2).symm, by simp, by simp [putW], ?_⟩
      simp only [putW, if_true]
      refine ⟨_, us, [p], l2, rfl, rfl, ⟨p, _, rfl, rfl, upd_same, e2.append (.one ry)⟩, RWs.move (Sm.refl _) _ _ _ (fun b hb => upd_ne fun z => hp2 (z ▸ hb)) r2⟩
    · rw [if_neg q] at h
      obtain ⟨p, us0, e1, e2, e3, e4, e5, e6, e7⟩ := fldW_ok ry (fs := fs) r2 n2 h (by simpa using hl)
      have hp1 : p ∉ l1 := fun z => n3 p z p e2 rfl
      have hq : (f == k) = false := by
        simpa using fun z : f = k => q z.symm
      refine ⟨p, us0, ?_, List.mem_append_right _ e2, e3, e4, List.mem_cons_of_mem _ e5, by simp [putW, q, e6], ?_⟩
      · rw [List.zip_cons_cons, List.lookup_cons, hq]; exact e1
      · simp only [putW, q, if_false]
        exact ⟨v, us, l1, l2, rfl, rfl, RW.move (Sm.refl _) _ _ _ (fun b hb => upd_ne fun z => hp1 (z ▸ hb)) r1, e7⟩
end
section
variable {X : Cx} {g : G} {Wx : WX} {pr : Nat → Bool} {e : Expr} {E : Ev} {pos apos cpos fpos px pos' : Pos}
/-- x.f.append(e) -/
theorem st_appF {i : Nat} {x f : Str} {ce : CE} (ho : PE X (.Name x px) (tVar i)) (h : PE X e (tP X.K g (puE ce))) (ns : ∀ es env, starEach (e :: es) env = (false, eval e env) :: starEach es env) (hl : (apos.endLine == cpos.line) = true)
    (hs : swapsWith (.Call (.Attribute (.Attribute (.Name x px) f fpos) "append" apos) [e] [] cpos) none pos.line X.env = pure false)
    (hf : methodCallForm ([e].length + ([] : List Keyword).length) (backTo cpos (starEach [e] X.env)) (backToKw cpos (keywordEach [] X.env)) = true) :
    St X g Wx pr (.Expr (.Call (.Attribute (.Attribute (.Name x px) f fpos) "append" apos) [e] [] cpos) pos) (fun env => match puE ce env with | some d => chgAt i (some f) (appW d) env | none => .bad) := by
  refine PS.imp (ps_expr (pe_bm PySem.F.plainAttrs_list PySem.F.slot_list_append PySem.F.type_list_append mt_append (pe_fld ho (attributeBase_of rfl)) (pa_cons h pa_nil (ns _ _)) (attributeBase_of rfl) hf hl (ns _ _) rfl) hs) fun D σ H q => ?_
  obtain ⟨env, S, ft, R, m⟩ := tS_iff.mp q
  cases e1 : puE ce env with
  | none => rw [e1] at m; exact m.elim
  | some d =>
    rw [e1] at m
    simp only [chgAt] at m
    cases e2 : env[i]? with
    | none => rw [e2] at m; exact m.elim
    | some oo =>
      cases oo with
      | none => rw [e2] at m; exact m.elim
      | some w =>
        rw [e2] at m
        cases w with
        | oI c fs ws =>
          simp only [inField] at m
          cases e3 : lookF fs ws f with
          | none => rw [e3] at m; exact m.elim
          | some w1 =>
            rw [e3] at m
            cases w1 with
            | oL l =>
              simp only [appW] at m
              by_cases c1 : l.length < lim
              case neg => rw [if_neg c1] at m; exact m.elim
              rw [if_pos c1] at m
              obtain ⟨v, ev, r0⟩ := R.slot i _ e2
              have hi : i < env.length := (List.getElem?_eq_some_iff.mp e2).1
              obtain ⟨a, dx, vs, ft', rfl, ef, h1, h2, h3, h4⟩ := id r0
              have nd := R.nd i
              rw [ef] at nd
              have ndf := (List.nodup_cons.mp nd).2
              have afresh : a ∉ ft' := (List.nodup_cons.mp nd).1
              obtain ⟨p0, us0, q1, q2, q3, q4, q5, q6, q7⟩ := fldW_ok (f := f) (d := .non) (y := .non) (S := S) (H := H) rfl h2 ndf e3 h3
              refine ⟨.ref a, ev, a, _, dx, _, .ref p0, rfl, h1, h4.1, h4.2 f q5, q1, .inl ⟨rfl, us0, SqL.of q3⟩, env, S, ft, d, R, e1, fun y S2 H2 R2 gw ry => ?_⟩
              have h2' : RWs X.K g S2 H2 ws vs ft' := by
                obtain ⟨v2, ev2, r2⟩ := R2.slot i _ e2
                rw [ev] at ev2
                cases ev2
                obtain ⟨a2, dx2, vs2, ft2, ea, ef2, g1, g2, g3, g4⟩ := r2
                cases ea
                rw [ef] at ef2
                cases ef2
                rw [gw.hh _ _ h1] at g1
                have ez : fs.zip vs = fs.zip vs2 := by
                  have e0 := Option.some.inj g1
                  injection e0
                have : vs = vs2 := by
                  have e5 := congrArg (List.map Prod.snd) ez
                  rwa [List.map_snd_zip (by omega), List.map_snd_zip (by omega)] at e5
                subst this
                exact g2
              obtain ⟨p, us, z1, z2, z3, z4, z5, z6, z7⟩ := fldW_ok (f := f) ry h2' ndf e3 h3
              rw [q1] at z1
              cases z1
              refine ⟨p0, us, y, rfl, rfl, z3, by rw [slim, z4]; exact c1, ?_⟩
              have rN : RW X.K g S2 (upd H2 p0 (.lst (us ++ [y]))) (.oI c (putW f (.oL (l ++ [d])) fs ws).1 (putW f (.oL (l ++ [d])) fs ws).2) (.ref a) (ft i) := by
                rw [z6, ef]
                refine ⟨a, dx, vs, ft', rfl, rfl, ?_, z7, h3, h4⟩
                rw [upd_ne (fun z => afresh (by rw [z]; exact z2))]
                exact gw.hh _ _ h1
              obtain ⟨R3, st3⟩ := R2.chg hi ev (by rw [ef]; exact List.mem_cons_of_mem _ z2) rN
              refine m σ S2 _ ft R3 ?_ .refl
              exact (Step.grow' gw.sm gw.hh gw.gr).trans st3
            | _ => exact m.elim
        | _ => exact m.elim
end

section
variable {X : Cx} {g : G} {Wx : WX} {pr : Nat → Bool} {e : Expr} {E : Ev} {pos apos cpos fpos px pos' tpos : Pos}
/-- x.extend(e) -/
theorem st_ext {i : Nat} {x : Str} (ho : PE X (.Name x px) (tVar i)) (h : Snd X g Wx e E) (hl : (apos.endLine == cpos.line) = true) (hs : swapsWith (.Call (.Attribute (.Name x px) "extend" apos) [e] [] cpos) none pos.line X.env = pure false) :
    St X g Wx pr (.Expr (.Call (.Attribute (.Name x px) "extend" apos) [e] [] cpos) pos) (fun env => if preAt i none isOL env then (E.e env).fl fun d env1 => chgAt i none (extW d) env1 else .bad) := by
  have hsn : Snds X g Wx [e] [E] := .cons h .nil
  refine PS.imp (ps_expr (pe_bm PySem.F.plainAttrs_list PySem.F.slot_list_extend PySem.F.type_list_extend mt_extend ho (pa_cons h.pe pa_nil (h.ns _ _)) (attributeBase_of rfl) (form_of (pos := cpos) hsn .nil (by show 1 + 0 < 29; decide)) hl (h.ns _ _) rfl) hs) fun D σ H q => ?_
  obtain ⟨env, S, ft, R, m⟩ := tS_iff.mp q
  by_cases hp : preAt i none isOL env = true
  case neg => rw [if_neg hp] at m; exact m.elim
  rw [if_pos hp] at m
  have hw1 : ∃ l, env[i]? = some (some (.oL l)) := by
    unfold preAt at hp
    cases e1 : env[i]? with
    | none => rw [e1] at hp; cases hp
    | some o => cases o with
      | none => rw [e1] at hp; cases hp
      | some w =>
        rw [e1] at hp
        cases w <;> first | exact ⟨_, rfl⟩ | cases hp
  obtain ⟨l0, e1⟩ := hw1
  obtain ⟨v, ev, r0⟩ := R.slot i _ e1
  obtain ⟨a0, vs0, ea, _, e0, _⟩ := id r0
  refine ⟨v, ev, ?_, ?_⟩
  · subst ea; exact .inl ⟨rfl, vs0, SqL.of e0⟩
  refine tE_mono (Q := fun y H2 => ∃ env2 S2 ft2 d, Rel X.K g env2 S2 σ H2 ft2 ∧ RD X.K g S2 d y ∧ AfterS X.K g Wx pr D σ S2 H2 ft2.own (chgAt i none (extW d) env2)) ?_ fun y H2 ⟨env2, S2, ft2, d, R2, r2, m2⟩ => ?_
  · refine ⟨env, S, ft, R, ?_⟩
    cases e2 : E.e env with
    | ok kd env2 => rw [e2] at m; exact fun y S2 H2 ft2 R2 st2 r2 => ⟨env2, S2, ft2, kd, R2, r2, m.pre st2 .refl⟩
    | exc x env2 => rw [e2] at m; exact fun cls dx S' H' ft' R' st rx => m cls dx σ S' H' ft' R' st .refl rx
    | bad => rw [e2] at m; exact m
  · unfold chgAt at m2
    cases e2 : env2[i]? with
    | none => rw [e2] at m2; exact m2.elim
    | some oo =>
      cases oo with
      | none => rw [e2] at m2; exact m2.elim
      | some w =>
        rw [e2] at m2
        simp only [inField] at m2
        have hi2 : i < env2.length := (List.getElem?_eq_some_iff.mp e2).1
        obtain ⟨v2, ev2, rw2⟩ := R2.slot i w e2
        rw [ev] at ev2
        cases ev2
        cases e3 : extW d w with
        | none => rw [e3] at m2; exact m2.elim
        | some w' =>
          rw [e3] at m2
          cases w with
          | oL l =>
            obtain ⟨a, vs, rfl, ef, e4, rs⟩ := id rw2
            cases d with
            | lst mm =>
              obtain ⟨hz, rfl⟩ := iteS (show (if l.length + mm.length ≤ lim then some (W.oL (l ++ mm)) else none) = some w' from e3)
              obtain ⟨b, zs, rfl, eb, rz⟩ := r2
              have hl := RDs.length rs
              have hl2 := RDs.length rz
              refine ⟨a, b, vs, zs, rfl, rfl, e4, R2.sub _ _ eb, by rw [slim, ← hl, ← hl2]; exact hz, ?_⟩
              have rN : RW X.K g S2 (upd H2 a (.lst (vs ++ zs))) (.oL (l ++ mm)) (.ref a) (ft2 i) := ⟨a, _, rfl, ef, upd_same, RDs.append rs rz⟩
              obtain ⟨R3, st3⟩ := R2.chg hi2 ev (by rw [ef]; exact List.mem_singleton.mpr rfl) rN
              exact m2 σ S2 _ ft2 R3 st3 .refl
            | _ => cases e3
          | sh d' => cases e3
          | oK ks ds => cases e3
          | oT ks ds => cases e3
          | oI c fs ws => cases e3
          | xn c f d => cases e3
/-- x op= e, integers -/
theorem st_aug {i : Nat} {x : Str} {o : Op} {op : Operator} {f : Int → Int → Int} (hN : X.N.Nodup) (hi : X.N[i]? = some x) (hx : Loc X.env.scope x) (h : Snd X g Wx e E) (hf : X.fn x = true ∨ X.env.scope.names.lookup x = some .local)
    (hop : PIp X op (ipI f)) (hd : ∀ a b d, augD o a b = some d → ∃ j k, a = .int j ∧ b = .int k ∧ d = .int (f j k)) : St X g Wx pr (.AugAssign (.Name x pos') op e pos) (augEv i o E pr) := by
  refine PS.imp (ps_aug hN hi hx h.pe hop hf) fun D σ H q => ?_
  obtain ⟨env, S, ft, R, m⟩ := tS_iff.mp q
  unfold augEv at m
  by_cases hp : pr i = true
  · rw [if_pos hp] at m; exact m.elim
  rw [if_neg hp] at m
  have hp : pr i = false := by simpa using hp
  cases e1 : env[i]? with
  | none => rw [e1] at m; exact m.elim
  | some oo =>
    rw [e1] at m
    match oo, m with
    | some (.sh a), m =>
      obtain ⟨v, ev, r0⟩ := R.sh e1
      have hlt : i < env.length := (List.getElem?_eq_some_iff.mp e1).1
      refine ⟨v, ev, ?_⟩
      have q2 : tS X.K g Wx pr (fun env => (E.e env).fl fun b env' => match augD o a b with | some d => .nx (env'.set i (some (.sh d))) | none => .bad) D σ H := tS_iff.mpr ⟨env, S, ft, R, m⟩
      refine tE_mono (tE_fl q2) fun y H1 ⟨env1, S1, ft1, b, R1, r1, m1⟩ => ?_
      cases e2 : augD o a b with
      | none => rw [e2] at m1; exact m1.elim
      | some d =>
        rw [e2] at m1
        obtain ⟨j, k, rfl, rfl, rfl⟩ := hd _ _ _ e2
        cases (show v = .int j from r0)
        cases (show y = .int k from r1)
        refine ⟨j, k, rfl, rfl, ?_⟩
        obtain ⟨ft2, R2, ho⟩ := R1.setSh (i := i) (d := .int (f j k)) (v := .int (f j k)) rfl
        exact m1 _ S1 H1 ft2 R2 (Step.refl.post ho) (Kp.set hp)
    | some (.oL _), m => exact m.elim
    | some (.oK _ _), m => exact m.elim
    | some (.oT _ _), m => exact m.elim
    | some (.oI _ _ _), m => exact m.elim
    | some (.xn _ _ _), m => exact m.elim
    | none, m => exact m.elim
theorem setf_key {i c : Nat} {f : Str} (hna : NoAttr X.K (g.ca c) f) {D : Ends} {σ : L2.St} {env : Env} {S H1 : Hp} {ft : Ft} {w : W} {v : V} {fs : List Str} {ws : List W} (R : Rel X.K g (env ++ [some w]) S (σ ++ [some v]) H1 ft) (e1 : env[i]? = some (some (.oI c fs ws))) (hz : fs.length < 1000)
    (m : AfterS X.K g Wx pr D σ S H1 ft.own (.nx (env.set i (some (.oI c (putW f w fs ws).1 (putW f w fs ws).2))))) :
    ∃ a dx vs, σ[i]? = some (some (.ref a)) ∧ H1 a = some (.ins (g.ca c) dx (fs.zip vs)) ∧ (fs.zip vs).length < 1000 ∧ D.nx σ (upd H1 a (.ins (g.ca c) dx (putF f v (fs.zip vs)))) := by
  have hl : env.length = σ.length := by have := R.len; simpa using this
  have hi : i < env.length := (List.getElem?_eq_some_iff.mp e1).1
  obtain ⟨u, e2, r⟩ := R.slot i _ (by rw [List.getElem?_append_left hi]; exact e1)
  rw [List.getElem?_append_left (by omega)] at e2
  obtain ⟨vv, ev, rv⟩ := R.last
  cases ev
  obtain ⟨a, dx, vs, ft', rfl, ef, e3, e4, e5, e6⟩ := id r
  have nda : (a :: ft').Nodup := by rw [← ef]; exact R.nd i
  have ndl : (ft' ++ ft env.length).Nodup := List.nodup_append.mpr ⟨(List.nodup_cons.mp nda).2, R.nd _, fun x hx y hy e => R.dj i env.length x (by omega) (by rw [ef]; exact List.mem_cons_of_mem _ hx) (e ▸ hy)⟩
  obtain ⟨us, l', q1, q2, q3, q4, q5, q6⟩ := putW_ok (f := f) rv e4 e5 ndl
  have na : a ∉ l' := fun z => by
    rcases q4 a z with z | z
    · exact (List.nodup_cons.mp nda).1 z
    · exact R.dj i env.length a (by omega) (by rw [ef]; exact List.mem_cons_self) z
  refine ⟨a, dx, vs, e2, e3, ?_, ?_⟩
  · rw [List.length_zip, ← e5]; omega
  · have rN : RW X.K g S (upd H1 a (.ins (g.ca c) dx (putF f v (fs.zip vs)))) (.oI c (putW f w fs ws).1 (putW f w fs ws).2) (.ref a) (a :: l') := by
      refine ⟨a, dx, us, l', rfl, rfl, by rw [upd_same, q1], RWs.move (Sm.refl _) _ _ _ (fun b hb => upd_ne fun z => na (z ▸ hb)) q2, q3, e6.1, fun x hx => ?_⟩
      rcases q6 x hx with z | z
      · exact e6.2 x z
      · rw [z]; exact hna
    have sb : ∀ b ∈ a :: l', b ∈ ft i ∨ b ∈ ft env.length := fun b hb => by
      rcases List.mem_cons.mp hb with z | z
      · left; rw [ef, z]; exact List.mem_cons_self
      · exact (q4 b z).imp (fun y => by rw [ef]; exact List.mem_cons_of_mem _ y) id
    obtain ⟨ft3, R3, st3⟩ := R.absorb (l := a :: l') hi e2 (by rw [ef]; exact List.mem_cons_self) sb (List.nodup_cons.mpr ⟨na, q5⟩) rN
    exact m σ S _ ft3 R3 st3 .refl
/-- x.f op= e, integers -/
theorem st_augf {i : Nat} {f : Str} {o : Op} {op : Operator} {ff : Int → Int → Int} {ox : Expr} (ho : PE X ox (tVar i)) (h : Snd X g Wx e E) (hop : InOp X op fun x y H Q => ∃ i j, x = .int i ∧ y = .int j ∧ Q (.int (ff i j)) H)
    (hd : ∀ a b d, augD o a b = some d → ∃ j k, a = .int j ∧ b = .int k ∧ d = .int (ff j k)) : St X g Wx pr (.AugAssign (.Attribute ox f tpos) op e pos) (augfEv i f o E) := by
  refine PS.imp (ps_fldaug ho h.pe hop) fun D σ H q => ?_
  obtain ⟨env, S, ft, R, m⟩ := tS_iff.mp q
  unfold augfEv at m
  cases e1 : env[i]? with
  | none => rw [e1] at m; exact m.elim
  | some oo =>
    rw [e1] at m
    match oo, m with
    | some (.oI c fs ws), m =>
      simp only at m
      cases e2 : lookF fs ws f with
      | none => rw [e2] at m; exact m.elim
      | some w =>
        rw [e2] at m
        cases w with
        | sh a0 =>
          obtain ⟨v, ev, r0⟩ := R.slot i _ e1
          obtain ⟨a, dx, vs, ft', rfl, ef, h1, h2, h3, h4⟩ := r0
          obtain ⟨u, l', e3, e4, e5⟩ := lookF_ok h2 e2
          refine ⟨_, ev, a, _, dx, _, u, rfl, h1, h4.1, h4.2 f e5, e3, ?_⟩
          have q2 : tS X.K g Wx pr (fun env => (E.e env).fl fun b env' => match augD o a0 b with
            | some d => match env'[i]? with
              | some (some (.oI c' fs' ws')) => if c' = c ∧ fs'.length < 1000 then .nx (env'.set i (some (.oI c (putW f (.sh d) fs' ws').1 (putW f (.sh d) fs' ws').2))) else .bad
              | _ => .bad
            | none => .bad) D σ H := tS_iff.mpr ⟨env, S, ft, R, m⟩
          refine tE_mono (tE_fl q2) fun y H1 ⟨env1, S1, ft1, b, R1, r1, m1⟩ => ?_
          cases e6 : augD o a0 b with
          | none => rw [e6] at m1; exact m1.elim
          | some d =>
            rw [e6] at m1
            obtain ⟨j, k, rfl, rfl, rfl⟩ := hd _ _ _ e6
            cases (show u = .int j from e4.2)
            cases (show y = .int k from r1)
            refine ⟨j, k, rfl, rfl, ?_⟩
            simp only at m1
            cases e7 : env1[i]? with
            | none => rw [e7] at m1; exact m1.elim
            | some oo =>
              rw [e7] at m1
              match oo, m1 with
              | some (.oI c' fs' ws'), m1 =>
                by_cases hc : c' = c ∧ fs'.length < 1000
                case neg => simp only [hc, if_false] at m1; exact m1.elim
                simp only [hc, and_self, if_true] at m1
                obtain ⟨rfl, hz⟩ := hc
                obtain ⟨ft2, R2, ho2⟩ := R1.pushSh (d := .int (ff j k)) (v := .int (ff j k)) rfl
                obtain ⟨a', dx', vs', k1, k2, k3, k4⟩ := setf_key (f := f) (h4.2 f e5) R2 e7 hz (AfterS.pre m1 (Step.refl.post ho2) .refl)
                rw [ev] at k1
                cases k1
                exact ⟨dx', _, k2, k3, k4⟩
              | some (.sh _), m1 => exact m1.elim
              | some (.oL _), m1 => exact m1.elim
              | some (.oK _ _), m1 => exact m1.elim
              | some (.oT _ _), m1 => exact m1.elim
              | some (.xn _ _ _), m1 => exact m1.elim
              | none, m1 => exact m1.elim
        | _ => exact m.elim
    | some (.sh _), m => exact m.elim
    | some (.oL _), m => exact m.elim
    | some (.oK _ _), m => exact m.elim
    | some (.oT _ _), m => exact m.elim
    | some (.xn _ _ _), m => exact m.elim
    | none, m => exact m.elim
theorem aug_add : ∀ a b d, augD .add a b = some d → ∃ j k, a = .int j ∧ b = .int k ∧ d = .int (j + k) := fun a b d h => by
  unfold augD at h
  simp only at h
  split at h
  · cases h; exact ⟨_, _, rfl, rfl, rfl⟩
  · cases h
theorem aug_sub : ∀ a b d, augD .sub a b = some d → ∃ j k, a = .int j ∧ b = .int k ∧ d = .int (j - k) := fun a b d h => by
  unfold augD at h
  simp only at h
  split at h
  · cases h; exact ⟨_, _, rfl, rfl, rfl⟩
  · cases h
end

section
variable {X : Cx} {g : G} {Wx : WX} {pr : Nat → Bool} {c : Expr} {F : Ev} {fb : ES} {body : List Stmt} {pos : Pos}
/-- while c: .. -/
theorem st_whl (hp : PassesOwn (model X.prog X.w) X.A X.env X.xe) (hc : Snd X g Wx c F) (hb : Sts X g Wx pr body fb) (n : Nat) : St X g Wx pr (.While c body [] pos) (fun env => whlLoop F.t fb n env) := by
  refine PS.imp (ps_while hp hc.pt hb) fun D σ H q => ?_
  refine ⟨fun k σ H => tS X.K g Wx pr (fun env => whlLoop F.t fb k env) { D with nx := fun σ' H' => D.nx σ' H' } σ H, ⟨n, q⟩, fun k σ1 H1 q1 => ?_⟩
  cases k with
  | zero =>
    obtain ⟨env, S, ft, R, m⟩ := tS_iff.mp q1
    exact m.elim
  | succ k =>
    have q2 : tS X.K g Wx pr (fun env => (F.t env).fl fun b env1 => if b then (match fb env1 with
      | .nx env2 => whlLoop F.t fb k env2
      | .ct env2 => whlLoop F.t fb k env2
      | .bk env2 => .nx env2
      | r => r) else .nx env1) D σ1 H1 := q1
    refine tT_mono (tT_fl q2) fun b H2 ⟨env, S, ft, R, m⟩ => ?_
    cases b with
    | false => exact m σ1 S H2 ft R .refl .refl
    | true =>
      rw [if_pos rfl] at m ⊢
      refine ⟨fun σ' H' => tS X.K g Wx pr (fun env => whlLoop F.t fb k env) { D with nx := fun σ' H' => D.nx σ' H' } σ' H', fun σ' H' z => ⟨k, Nat.lt_succ_self _, z⟩, ?_⟩
      refine tS_iff.mpr ⟨env, S, ft, R, ?_⟩
      cases e : fb env with
      | nx env2 => rw [e] at m; exact fun σ' S' H' ft' R' st k' => tS_iff.mpr ⟨env2, S', ft', R', AfterS.pre m st k'⟩
      | ct env2 => rw [e] at m; exact fun σ' S' H' ft' R' st k' => tS_iff.mpr ⟨env2, S', ft', R', AfterS.pre m st k'⟩
      | bk env2 => rw [e] at m; exact m
      | rt w env2 => rw [e] at m; exact m
      | exc x env2 => rw [e] at m; exact m
      | bad => rw [e] at m; exact m
end
end Rf

namespace Rf
open PySem L2 PyProof.Rows

def Ct.blk (Γ : Ct) (scope : Scope) : Ct := { N := Γ.N, sc := relS scope Γ.sc, fn := fun x => scope.names.lookup x == some .cell }
def cstB (T : Tb) (sc : Scope) (d : D) (e : Expr) : Bool := match e with
  | .Constant c _ _ => match c with
    | .int i => D.same d (.int i)
    | .bool b => D.same d (.bl b)
    | .str s => D.same d (.str s)
    | .none => D.same d .non
    | _ => false
  | .Name x _ => glB sc x && plainNm x && (match T.cns.lookup x with
    | some d' => D.same d d'
    | none => match T.fns.lookup x with
      | some i => D.same d (.fn i)
      | none => false)
  | _ => false
mutual
def chkTg (Γ : Ct) : CT → Expr → Bool
  | .name i, e => match e with
    | .Name x _ => decide (Γ.N[i]? = some x) && locB Γ.sc x && (Γ.fn x || isLocal Γ.sc x)
    | _ => false
  | .tup l, e => match e with
    | .Tuple es _ _ => chkTgs Γ l es
    | _ => false
def chkTgs (Γ : Ct) : List CT → List Expr → Bool
  | [], es => es.isEmpty
  | t :: ts, es => match es with
    | e :: es => chkTg Γ t e && chkTgs Γ ts es
    | [] => false
end
def ownP (N : List Str) (own : List Nat) : List (Str × Nat) := own.map fun i => (N.getD i Str.empty, i)
def notSet : Expr → Bool
  | .Set _ _ _ => false
  | _ => true
theorem notSet_ok {e : Expr} (h : notSet e = true) (env : PySem.Env) (x : Value) : foldedSetIterable e env x = pure x := by
  cases e <;> first | rfl | cases h
def kwNames (kws : List Keyword) : Option (List Str × List Expr) := match kws with
  | [] => some ([], [])
  | ⟨some k, e, _⟩ :: r => (kwNames r).map fun q => (k :: q.1, e :: q.2)
  | _ => none
def isTup : Expr → Bool
  | .Tuple _ _ _ => true
  | _ => false
def notStar : Expr → Bool
  | .Starred _ _ => false
  | _ => true
def allSome : List (Option Expr) → Option (List Expr)
  | [] => some []
  | some e :: r => (allSome r).map (e :: ·)
  | none :: _ => none
/-- an iterable's operands -/
def itArgs (T : Tb) (sc : Scope) (k : IK) (tg e : Expr) : Option (List Expr) := match k with
  | .val => some [e]
  | .range => match e with
    | .Call (.Name x _) xs [] _ => if x == "range" && bltB T sc x && decide (xs.length = 1 ∨ xs.length = 2) then some xs else none
    | _ => none
  | .enum => match e with
    | .Call (.Name x _) [a] [] _ => if x == "enumerate" && bltB T sc x && isTup tg then some [a] else none
    | _ => none
  | _ => none
mutual
def chkE (T : Tb) (P : Prg) : CE → Ct → Expr → Bool
  | .var i, Γ, e => match e with
    | .Name x _ => decide (Γ.N[i]? = some x) && visB Γ.sc x && plainNm x
    | _ => false
  | .cst d, Γ, e => cstB T Γ.sc d e
  | .tup es, Γ, e => match e with
    | .Tuple xs _ _ => chkS T P es Γ xs
    | _ => false
  | .lst es, Γ, e => match e with
    | .List xs _ => chkS T P es Γ xs
    | _ => false
  | .op o es, Γ, e => match opArgs T Γ.sc o e with
    | some xs => chkL T P es Γ xs
    | none => false
  | .chain o o' a b c, Γ, e => match e with
    | .Compare x [op, op'] [y, z] _ => decide (cmpOf o = some op) && decide (cmpOf o' = some op') && noOwn o && noOwn o' && chkE T P a Γ x && chkE T P b Γ y && chkE T P c Γ z
    | _ => false
  | .slc a lo hi, Γ, e => match e with
    | .Subscript x (.Slice l h none _) _ => chkE T P a Γ x && chkO T P lo Γ l && chkO T P hi Γ h
    | _ => false
  | .not a, Γ, e => match e with
    | .UnaryOp .Not x _ => chkE T P a Γ x
    | _ => false
  | .and es, Γ, e => match e with
    | .BoolOp .And xs _ => !xs.isEmpty && chkL T P es Γ xs
    | _ => false
  | .or es, Γ, e => match e with
    | .BoolOp .Or xs _ => !xs.isEmpty && chkL T P es Γ xs
    | _ => false
  | .ite c a b, Γ, e => match e with
    | .IfExp x y z _ => chkE T P c Γ x && chkE T P a Γ y && chkE T P b Γ z
    | _ => false
  | .fld a f, Γ, e => match e with
    | .Attribute x f' _ => f == f' && noSuper x && chkE T P a Γ x
    | _ => false
  | .call f es ks kes, Γ, e => match e with
    | .Call (.Name x _) xs kws _ => decide (T.fns.lookup x = some f) && glB Γ.sc x && plainNm x && (P.fn f).isSome && chkL T P es Γ xs && (match kwNames kws with
      | some (ns, ys) => decide (ks = ns) && chkL T P kes Γ ys
      | none => false)
    | _ => false
  | .lc own a tg k ia ifs, Γ, e => match e with
    | .ListComp elt [⟨t, it, cs, 0⟩] scope _ => decide ((ownP Γ.N own).map (·.2) = own) && blkC Γ.N Γ.sc scope (ownP Γ.N own) && notSet it && decide (cs.length ≤ 1) && chkTg (Γ.blk scope) tg t && (match itArgs T Γ.sc k t it with | some xs => chkL T P ia Γ xs | none => false) && chkL T P ifs (Γ.blk scope) cs && chkE T P a (Γ.blk scope) elt
    | _ => false
  | .dc own a b tg k ia ifs, Γ, e => match e with
    | .DictComp kx vx [⟨t, it, cs, 0⟩] scope _ => decide ((ownP Γ.N own).map (·.2) = own) && blkC Γ.N Γ.sc scope (ownP Γ.N own) && notSet it && decide (cs.length ≤ 1) && chkTg (Γ.blk scope) tg t && (match itArgs T Γ.sc k t it with | some xs => chkL T P ia Γ xs | none => false) && chkL T P ifs (Γ.blk scope) cs && chkE T P a (Γ.blk scope) kx && chkE T P b (Γ.blk scope) vx
    | _ => false
  | .mk c es ks kes, Γ, e => match e with
    | .Call (.Name x _) xs kws _ => decide (T.cls.lookup x = some c) && glB Γ.sc x && plainNm x && (P.ini c).isSome && chkL T P es Γ xs && (match kwNames kws with
      | some (ns, ys) => decide (ks = ns) && chkL T P kes Γ ys
      | none => false)
    | _ => false
  | .meth m o es ks kes, Γ, e => match e with
    | .Call (.Attribute a m' apos) xs kws pos => m == m' && noSuper a && (apos.endLine == pos.line) && decide (xs.length + kws.length < 29) && chkE T P o Γ a && chkL T P es Γ xs && (match kwNames kws with
      | some (ns, ys) => decide (ks = ns) && chkL T P kes Γ ys
      | none => false)
    | _ => false
  | .dct t ks vs, Γ, e => match e with
    | .Dict ks' vs' _ => match allSome ks' with
      | some xs => decide (xs.length = vs'.length) && (xs.isEmpty || !t) && chkL T P ks Γ xs && chkL T P vs Γ vs'
      | none => false
    | _ => false
  | .never, _, e => notStar e
  | .gen m o, Γ, e => match e with
    | .Call (.Name x _) [.Call (.Attribute a m' apos) [] [] pos'] [] _ => x == "list" && (bltB T Γ.sc x && (m == m' && (noSuper a && ((apos.endLine == pos'.line) && chkE T P o Γ a))))
    | _ => false
  | .pure c, Γ, e => match e with
    | .Subscript _ _ _ => chkP c Γ e
    | _ => false
  | .callv i es ks kes, Γ, e => match e with
    | .Call (.Name x _) xs kws _ => decide (Γ.N[i]? = some x) && (visB Γ.sc x && (plainNm x && (chkL T P es Γ xs && (match kwNames kws with
      | some (ns, ys) => decide (ks = ns) && chkL T P kes Γ ys
      | none => false))))
    | _ => false
  | _, _, _ => false
def chkL (T : Tb) (P : Prg) : List CE → Ct → List Expr → Bool
  | [], _, xs => xs.isEmpty
  | c :: cs, Γ, xs => match xs with
    | x :: xs => chkE T P c Γ x && chkL T P cs Γ xs
    | [] => false
def chkS (T : Tb) (P : Prg) : List CE → Ct → List Expr → Bool
  | [], _, xs => xs.isEmpty
  | .star a :: cs, Γ, xs => match xs with
    | .Starred x _ :: xs => chkE T P a Γ x && chkS T P cs Γ xs
    | _ => false
  | c :: cs, Γ, xs => match xs with
    | x :: xs => chkE T P c Γ x && chkS T P cs Γ xs
    | [] => false
def chkO (T : Tb) (P : Prg) : List CE → Ct → Option Expr → Bool
  | [], _, o => o.isNone
  | c :: cs, Γ, o => match o with
    | some x => cs.isEmpty && chkE T P c Γ x
    | none => false
end
end Rf

namespace Rf
open PySem L2 PyProof.Rows

section
variable {g : G} {P : Prg} {n : Nat} {T : Tb}
theorem Gd.blk {X : Cx} (h : Gd X g P n T) (s : Shared) (H : Hp) (scope : Scope) (C : Addr) (cl : List (Str × Addr)) (fp : List Addr) : Gd (X.blk s H scope (compEnvC scope cl C X.env) fp) g P n T :=
  have dk : ∀ {i : Nat} {fi : FI}, DefOk X g P n i fi → DefOk (X.blk s H scope (compEnvC scope cl C X.env) fp) g P n i fi := fun q => ⟨q.at_, q.ex, q.kp, q.fi⟩
  ⟨h.calm, h.nd, h.room, fun i fi e => dk (h.fok i fi e), h.fns, h.cls, h.blts, h.cns, h.ity, h.itk, h.ito, h.xi0, ⟨fun c m f e => let ⟨fi, a, b⟩ := h.own.me c m f e; ⟨fi, dk a, b⟩, h.own.eq, h.own.ct, h.own.gi, h.own.ln⟩,
    fun c i e => let ⟨fi, a, b⟩ := h.mks c i e; ⟨fi, dk a, b⟩, h.noat, fun c f e => let ⟨k, fI, fd, ps, q⟩ := (h.err c f e).ex; ⟨k, fI, fd, ps, q⟩, h.exm, fun c m f e => let ⟨gi, a, b⟩ := h.gok c m f e; ⟨gi, ⟨a.at_, a.ex⟩, b⟩⟩
theorem Sc.blk {X : Cx} {Γ : Ct} (h : Sc X Γ) (s : Shared) (H : Hp) (scope : Scope) (C : Addr) (cl : List (Str × Addr)) (fp : List Addr) : Sc (X.blk s H scope (compEnvC scope cl C X.env) fp) (Γ.blk scope) :=
  ⟨h.N, by show relS scope X.env.scope = relS scope Γ.sc; rw [h.sc], fun x => rfl⟩
theorem kw_ok {X : Cx} {Wx : WX} : ∀ {kws : List Keyword} {ns : List Str} {ys : List Expr} {Es : List Ev}, kwNames kws = some (ns, ys) → Snds X g Wx ys Es → SndK X g Wx kws ns Es
  | [], ns, ys, Es, h, hs => by
    cases h
    cases hs
    exact .nil
  | ⟨some k, e, p⟩ :: r, ns, ys, Es, h, hs => by
    have h : (kwNames r).map (fun q => (k :: q.1, e :: q.2)) = some (ns, ys) := h
    obtain ⟨q, e1, e2⟩ := Option.map_eq_some_iff.mp h
    cases e2
    cases hs with
    | cons h1 h2 => exact .cons h1 (kw_ok e1 h2)
  | ⟨none, e, p⟩ :: r, ns, ys, Es, h, hs => by cases h
theorem tg_name {X : Cx} {Γ : Ct} (S : Sc X Γ) {i : Nat} {x : Str} {p : Pos} (h : (decide (Γ.N[i]? = some x) && locB Γ.sc x && (Γ.fn x || isLocal Γ.sc x)) = true) : Tg X (.Name x p) (.name i) := by
  simp only [Bool.and_eq_true, decide_eq_true_eq, Bool.or_eq_true] at h
  obtain ⟨⟨h1, h2⟩, h3⟩ := h
  refine .name (by rw [S.N]; exact h1) (by rw [S.sc]; exact locB_ok h2) ?_
  rcases h3 with h3 | h3
  · exact .inl (by rw [S.fn]; exact h3)
  · exact .inr (by rw [S.sc]; exact isLocal_ok h3)
mutual
theorem chkTg_ok {X : Cx} {Γ : Ct} (S : Sc X Γ) : ∀ (t : CT) {e : Expr}, chkTg Γ t e = true → Tg X e t
  | .name i, e, h => by
    unfold chkTg at h
    split at h
    · exact tg_name S h
    · cases h
  | .tup l, e, h => by
    unfold chkTg at h
    split at h
    · exact .tup (chkTgs_ok S l h)
    · cases h
theorem chkTgs_ok {X : Cx} {Γ : Ct} (S : Sc X Γ) : ∀ (ts : List CT) {es : List Expr}, chkTgs Γ ts es = true → Tgs X es ts
  | [], es, h => by
    unfold chkTgs at h
    cases es with
    | nil => exact .nil
    | cons _ _ => cases h
  | t :: ts, es, h => by
    unfold chkTgs at h
    cases es with
    | nil => cases h
    | cons e es =>
      obtain ⟨h1, h2⟩ := Bool.and_eq_true_iff.mp h
      exact .cons (chkTg_ok S t h1) (chkTgs_ok S ts h2)
end
theorem cst_ok {X : Cx} {Wx : WX} {Γ : Gam} {C : Call} (G0 : Gd X g P n T) {d : D} {e : Expr} (h : cstB T X.env.scope d e = true) : Snd X g Wx e (ev Γ C (.cst d)) := by
  unfold cstB at h
  split at h
  · split at h
    · cases D.same_ok h; exact s_int
    · cases D.same_ok h; exact s_bl
    · cases D.same_ok h; exact s_str
    · cases D.same_ok h; exact s_non
    · cases h
  · rename_i x p
    simp only [Bool.and_eq_true] at h
    obtain ⟨⟨h1, h2⟩, h3⟩ := h
    obtain ⟨n1, n2, n3⟩ := plainNm_ok h2
    cases e1 : T.cns.lookup x with
    | some d' =>
      rw [e1] at h3
      cases D.same_ok h3
      obtain ⟨u, v, hm, r, rd⟩ := G0.cns x d e1
      exact s_const (pe_glob (glB_ok h1) hm r n1) rd (fun _ => rfl) fun _ _ => rfl
    | none =>
      rw [e1] at h3
      simp only at h3
      cases e2 : T.fns.lookup x with
      | some i =>
        rw [e2] at h3
        cases D.same_ok h3
        exact s_const (v := .ref (g.fa i)) (pe_glob (glB_ok h1) (G0.fns x i e2) rfl n1) (fun _ => rfl) (fun _ => rfl) fun _ _ => rfl
      | none => rw [e2] at h3; cases h3
  · cases h
theorem ev_star {Γ : Gam} {C : Call} {c : CE} {Γ' : Ct} {e : Expr} (h : chkE T P c Γ' e = true) : (ev Γ C c).star = false := by
  cases c <;> first | rfl | exact absurd (show false = true from h) Bool.false_ne_true
theorem it_ok {X : Cx} {Wx : WX} {e tg : Expr} {k : IK} {xs : List Expr} {Es : List Ev} (G0 : Gd X g P n T) (h : itArgs T X.env.scope k tg e = some xs) (hs : Snds X g Wx xs Es) : PI X tg e (tIt X g Wx (runI k Es)) := by
  unfold itArgs at h
  split at h
  · cases h
    obtain ⟨A, rfl, hA⟩ := one_arg hs
    exact pi_val hA
  · split at h
    · rename_i x p ys q
      obtain ⟨c, rfl⟩ := iteS h
      simp only [Bool.and_eq_true, bltB, decide_eq_true_eq] at c
      obtain ⟨⟨c1, ⟨c2, c3⟩, c4⟩, c5⟩ := c
      have hx : x = Str.ofString "range" := eq_of_beq c1
      subst hx
      rcases c5 with c5 | c5
      · match ys, c5, hs with
        | [a], _, hs =>
          obtain ⟨A, rfl, hA⟩ := one_arg hs
          exact pi_rng1 (glB_ok c3) (G0.blts _ c2) hA
      · match ys, c5, hs with
        | [a, b], _, hs =>
          obtain ⟨A, B, rfl, hA, hB⟩ := two_args (b := a) (B := fun _ => True) hs
          exact pi_rng2 (glB_ok c3) (G0.blts _ c2) hA hB
    · cases h
  · split at h
    · rename_i x p a q
      obtain ⟨c, rfl⟩ := iteS h
      simp only [Bool.and_eq_true, bltB] at c
      obtain ⟨⟨c1, ⟨c2, c3⟩, c4⟩, c5⟩ := c
      have hx : x = Str.ofString "enumerate" := eq_of_beq c1
      subst hx
      obtain ⟨A, rfl, hA⟩ := one_arg hs
      unfold isTup at c5
      split at c5
      · exact pi_en (glB_ok c3) (G0.blts _ c2) hA
      · cases c5
    · cases h
  · cases h
theorem s_never {X : Cx} {Wx : WX} {e : Expr} (h : notStar e = true) : Snd X g Wx e { w := fun _ => .bad, t := fun _ => .bad } :=
  ⟨⟨fun _ _ _ _ _ _ z => z.elim fun _ z => z.elim fun _ z => z.elim fun _ z => z.2.elim⟩, ⟨fun _ _ _ _ _ _ z => z.elim fun _ z => z.elim fun _ z => z.elim fun _ z => z.2.elim⟩, fun _ q => (by cases q), fun es env => by cases e <;> first | rfl | cases h⟩
theorem allSome_ok : ∀ {ks : List (Option Expr)} {xs : List Expr}, allSome ks = some xs → ks = xs.map some
  | [], xs, h => by cases h; rfl
  | some e :: r, xs, h => by
    obtain ⟨q, e1, rfl⟩ := Option.map_eq_some_iff.mp (show (allSome r).map (e :: ·) = some xs from h)
    rw [allSome_ok e1]; rfl
  | none :: r, xs, h => by cases h
mutual
theorem chkE_ok : ∀ (c : CE) {Γ : Ct} {X : Cx} {e : Expr} {Wx : WX}, Gd X g P n T → Sc X Γ → Takes X Wx → chkE T P c Γ e = true → Snd X g Wx e (ev P.gam (callF P n) c)
  | .var i, Γ, X, e, Wx, G0, S, tk, h => by
    unfold chkE at h
    split at h
    · simp only [Bool.and_eq_true, decide_eq_true_eq] at h
      obtain ⟨⟨h1, h2⟩, h3⟩ := h
      obtain ⟨n1, n2, n3⟩ := plainNm_ok h3
      exact s_var (by rw [S.N]; exact h1) (by rw [S.sc]; exact visB_ok h2) n1 n3
    · cases h
  | .cst d, Γ, X, e, Wx, G0, S, tk, h => by
    unfold chkE at h
    rw [← S.sc] at h
    exact cst_ok G0 h
  | .tup es, Γ, X, e, Wx, G0, S, tk, h => by
    unfold chkE at h
    split at h
    · rw [ev]; exact s_tup (chkS_ok es G0 S tk h)
    · cases h
  | .lst es, Γ, X, e, Wx, G0, S, tk, h => by
    unfold chkE at h
    split at h
    · rw [ev]; exact s_lst (chkS_ok es G0 S tk h)
    · cases h
  | .op o es, Γ, X, e, Wx, G0, S, tk, h => by
    unfold chkE at h
    split at h
    · rename_i xs q
      rw [← S.sc] at q
      rw [ev]; exact opArgs_ok G0 tk q (chkL_ok es G0 S tk h)
    · cases h
  | .chain o o' a b c, Γ, X, e, Wx, G0, S, tk, h => by
    unfold chkE at h
    split at h
    · simp only [Bool.and_eq_true, decide_eq_true_eq] at h
      obtain ⟨⟨⟨⟨⟨⟨h1, h2⟩, h3⟩, h4⟩, h5⟩, h6⟩, h7⟩ := h
      have op_of : ∀ {o : Op} {op : CmpOp}, cmpOf o = some op → noOwn o = true → OpR X (compareOp op) (fun x y H Q => rOp X.K g o [x, y] H Q) ∧ tellsO o = true ∧ op ≠ .In ∧ op ≠ .NotIn := fun {o op} e1 e2 => by
        cases o with
        | lt => cases e1; exact ⟨r_lt, rfl, by decide, by decide⟩
        | le => cases e1; exact ⟨r_le, rfl, by decide, by decide⟩
        | gt => cases e1; exact ⟨r_gt, rfl, by decide, by decide⟩
        | ge => cases e1; exact ⟨r_ge, rfl, by decide, by decide⟩
        | «is» => cases e1; exact ⟨r_is, rfl, by decide, by decide⟩
        | isnot => cases e1; exact ⟨r_isnot, rfl, by decide, by decide⟩
        | eq => cases e2
        | ne => cases e2
        | isin => cases e2
        | notin => cases e2
        | _ => cases e1
      obtain ⟨p1, p2, p3, p4⟩ := op_of h1 h3
      obtain ⟨q1, q2, q3, q4⟩ := op_of h2 h4
      rw [ev]
      exact s_chain p2 q2 p1 q1 (chkE_ok a G0 S tk h5) (chkE_ok b G0 S tk h6) (chkE_ok c G0 S tk h7) (marks_of q3 q4)
    · cases h
  | .slc a lo hi, Γ, X, e, Wx, G0, S, tk, h => by
    unfold chkE at h
    split at h
    · simp only [Bool.and_eq_true] at h
      obtain ⟨⟨h1, h2⟩, h3⟩ := h
      rw [ev]; exact s_slc (chkE_ok a G0 S tk h1) (chkO_ok lo G0 S tk h2) (chkO_ok hi G0 S tk h3)
    · cases h
  | .not a, Γ, X, e, Wx, G0, S, tk, h => by
    unfold chkE at h
    split at h
    · rw [ev]; exact s_not (chkE_ok a G0 S tk h)
    · cases h
  | .and es, Γ, X, e, Wx, G0, S, tk, h => by
    unfold chkE at h
    split at h
    · simp only [Bool.and_eq_true] at h
      rw [ev]; exact s_and (chkL_ok es G0 S tk h.2) (fun z => by subst z; simp at h)
    · cases h
  | .or es, Γ, X, e, Wx, G0, S, tk, h => by
    unfold chkE at h
    split at h
    · simp only [Bool.and_eq_true] at h
      rw [ev]; exact s_or (chkL_ok es G0 S tk h.2) (fun z => by subst z; simp at h)
    · cases h
  | .ite c a b, Γ, X, e, Wx, G0, S, tk, h => by
    unfold chkE at h
    split at h
    · simp only [Bool.and_eq_true] at h
      obtain ⟨⟨h1, h2⟩, h3⟩ := h
      rw [ev]; exact s_ite (chkE_ok c G0 S tk h1) (chkE_ok a G0 S tk h2) (chkE_ok b G0 S tk h3)
    · cases h
  | .fld a f, Γ, X, e, Wx, G0, S, tk, h => by
    unfold chkE at h
    split at h
    · simp only [Bool.and_eq_true] at h
      obtain ⟨⟨h1, h2⟩, h3⟩ := h
      cases eq_of_beq h1
      rw [ev]
      refine s_fld (chkE_ok a G0 S tk h3) h2 fun i => ?_
      split <;> simp
    · cases h
  | .call f es ks kes, Γ, X, e, Wx, G0, S, tk, h => by
    unfold chkE at h
    split at h
    · simp only [Bool.and_eq_true, decide_eq_true_eq] at h
      obtain ⟨⟨⟨⟨⟨h1, h2⟩, h3⟩, h4⟩, h5⟩, h6⟩ := h
      obtain ⟨n1, n2, n3⟩ := plainNm_ok h3
      obtain ⟨fi, e1⟩ := Option.isSome_iff_exists.mp h4
      split at h6
      · rename_i ns ys q
        simp only [Bool.and_eq_true, decide_eq_true_eq] at h6
        obtain ⟨rfl, h7⟩ := h6
        rw [ev]
        exact s_call tk (G0.fok f fi e1) (G0.room.mono (by omega)) (glB_ok (by rw [S.sc]; exact h2)) (G0.fns _ f h1) n1 (chkL_ok es G0 S tk h5) (kw_ok q (chkL_ok kes G0 S tk h7))
      · cases h6
    · cases h
  | .lc own a tg k ia ifs, Γ, X, e, Wx, G0, S, tk, h => by
    unfold chkE at h
    split at h
    · rename_i elt t it cs scope p
      simp only [Bool.and_eq_true, decide_eq_true_eq] at h
      obtain ⟨⟨⟨⟨⟨⟨⟨h1, h2⟩, h3⟩, h4⟩, h5⟩, h6⟩, h7⟩, h8⟩ := h
      split at h6
      · rename_i xs q
        rw [← S.sc] at q
        rw [ev, ← h1]
        exact s_lc G0.calm G0.nd (it_ok G0 q (chkL_ok ia G0 S tk h6)) (blkOk_by (by rw [S.N, S.sc]; exact h2)) (fun s H C cl fp => chkTg_ok (S.blk s H scope C cl fp) tg h5)
          (fun s H C cl fp => chkL_ok ifs (G0.blk s H scope C cl fp) (S.blk s H scope C cl fp) takesF h7) h4 (fun s H C cl fp => chkE_ok a (G0.blk s H scope C cl fp) (S.blk s H scope C cl fp) takesF h8) (notSet_ok h3 _)
      · cases h6
    · cases h
  | .dc own a b tg k ia ifs, Γ, X, e, Wx, G0, S, tk, h => by
    unfold chkE at h
    split at h
    · rename_i kx vx t it cs scope p
      simp only [Bool.and_eq_true, decide_eq_true_eq] at h
      obtain ⟨⟨⟨⟨⟨⟨⟨⟨h1, h2⟩, h3⟩, h4⟩, h5⟩, h6⟩, h7⟩, h8⟩, h9⟩ := h
      split at h6
      · rename_i xs q
        rw [← S.sc] at q
        rw [ev, ← h1]
        exact s_dc G0.calm G0.nd (it_ok G0 q (chkL_ok ia G0 S tk h6)) (blkOk_by (by rw [S.N, S.sc]; exact h2)) (fun s H C cl fp => chkTg_ok (S.blk s H scope C cl fp) tg h5)
          (fun s H C cl fp => chkL_ok ifs (G0.blk s H scope C cl fp) (S.blk s H scope C cl fp) takesF h7) h4 (fun s H C cl fp => chkE_ok a (G0.blk s H scope C cl fp) (S.blk s H scope C cl fp) takesF h8)
          (fun s H C cl fp => chkE_ok b (G0.blk s H scope C cl fp) (S.blk s H scope C cl fp) takesF h9) (notSet_ok h3 _)
      · cases h6
    · cases h
  | .star _, Γ, X, e, Wx, G0, S, tk, h => absurd (show false = true from h) Bool.false_ne_true
  | .xfld _ _, Γ, X, e, Wx, G0, S, tk, h => absurd (show false = true from h) Bool.false_ne_true
  | .never, Γ, X, e, Wx, G0, S, tk, h => by
    unfold chkE at h
    rw [ev]; exact s_never h
  | .dct t ks vs, Γ, X, e, Wx, G0, S, tk, h => by
    unfold chkE at h
    split at h
    · rename_i ks' vs' p
      split at h
      · rename_i xs q
        simp only [Bool.and_eq_true, decide_eq_true_eq, Bool.or_eq_true, Bool.not_eq_true'] at h
        obtain ⟨⟨⟨h1, h2⟩, h3⟩, h4⟩ := h
        rw [allSome_ok q]
        have s1 := chkL_ok ks G0 S tk h3
        have s2 := chkL_ok vs G0 S tk h4
        rw [ev]
        cases xs with
        | nil =>
          cases vs' with
          | nil =>
            have k1 : ks = [] := by
              cases ks with
              | nil => rfl
              | cons _ _ => exact absurd (show false = true from h3) Bool.false_ne_true
            have k2 : vs = [] := by
              cases vs with
              | nil => rfl
              | cons _ _ => exact absurd (show false = true from h4) Bool.false_ne_true
            subst k1 k2
            exact s_dct0
          | cons _ _ => cases h1
        | cons x xs =>
          have ht : t = false := by
            rcases h2 with h2 | h2
            · cases h2
            · exact h2
          subst ht
          exact s_dct s1 s2 (by simp) h1
      · cases h
    · cases h
  | .meth m o es ks kes, Γ, X, e, Wx, G0, S, tk, h => by
    unfold chkE at h
    split at h
    · rename_i a m' apos xs kws pos
      simp only [Bool.and_eq_true, decide_eq_true_eq] at h
      obtain ⟨⟨⟨⟨⟨⟨h1, h2⟩, h3⟩, h4⟩, h5⟩, h6⟩, h7⟩ := h
      cases eq_of_beq h1
      split at h7
      · rename_i ns ys q
        simp only [Bool.and_eq_true, decide_eq_true_eq] at h7
        obtain ⟨rfl, h7⟩ := h7
        rw [ev]
        exact s_meth tk (fun c f e => G0.own.me c m f e) (G0.room.mono (by omega)) (chkE_ok o G0 S tk h5) (chkL_ok es G0 S tk h6) (kw_ok q (chkL_ok kes G0 S tk h7)) h2 h4 h3
      · cases h7
    · cases h
  | .mk c es ks kes, Γ, X, e, Wx, G0, S, tk, h => by
    unfold chkE at h
    split at h
    · rename_i x p xs kws pos
      simp only [Bool.and_eq_true, decide_eq_true_eq] at h
      obtain ⟨⟨⟨⟨⟨h1, h2⟩, h3⟩, h4⟩, h5⟩, h6⟩ := h
      obtain ⟨n1, n2, n3⟩ := plainNm_ok h3
      obtain ⟨i, e1⟩ := Option.isSome_iff_exists.mp h4
      obtain ⟨fi, D, M, K0⟩ := G0.mks c i e1
      split at h6
      · rename_i ns ys q
        simp only [Bool.and_eq_true, decide_eq_true_eq] at h6
        obtain ⟨rfl, h7⟩ := h6
        rw [ev]
        exact s_mk tk e1 D M K0 G0.room1 (glB_ok (by rw [S.sc]; exact h2)) (G0.cls _ c h1) n1 (chkL_ok es G0 S tk h5) (kw_ok q (chkL_ok kes G0 S tk h7))
      · cases h6
    · cases h
  | .gen m o, Γ, X, e, Wx, G0, S, tk, h => by
    unfold chkE at h
    split at h
    · rename_i x p a m' apos pos' pos
      unfold bltB at h
      simp only [Bool.and_eq_true] at h
      obtain ⟨h1, ⟨⟨h2, h3⟩, h4⟩, h5, h6, h7, h8⟩ := h
      obtain ⟨n1, n2, n3⟩ := plainNm_ok h4
      cases eq_of_beq h1
      cases eq_of_beq h5
      rw [ev]
      exact s_gen (G0.gok · m ·) G0.room (chkE_ok o G0 S tk h8) h6 h7 (glB_ok (by rw [S.sc]; exact h3)) (G0.blts _ h2) (boot_t "list" (by decide)) n2 n1
    · cases h
  | .pure c, Γ, X, e, Wx, G0, S, tk, h => by
    unfold chkE at h
    split at h
    · have := s_pure (Wx := Wx) (chkP_ok (g := g) S c h).1
      rw [ev]
      exact this
    · cases h
  | .callv i es ks kes, Γ, X, e, Wx, G0, S, tk, h => by
    unfold chkE at h
    split at h
    · simp only [Bool.and_eq_true, decide_eq_true_eq] at h
      obtain ⟨h1, h2, h3, h5, h6⟩ := h
      obtain ⟨n1, n2, n3⟩ := plainNm_ok h3
      split at h6
      · rename_i ns ys q
        simp only [Bool.and_eq_true, decide_eq_true_eq] at h6
        obtain ⟨rfl, h7⟩ := h6
        rw [ev]
        exact s_callv tk G0.fok (G0.room.mono (by omega)) (by rw [S.N]; exact h1) (by rw [S.sc]; exact visB_ok h2) n1 n3 (chkL_ok es G0 S tk h5) (kw_ok q (chkL_ok kes G0 S tk h7))
      · cases h6
    · cases h
  | .lc2 _ _ _ _ _ _ _ _ _ _ _, Γ, X, e, Wx, G0, S, tk, h => absurd (show false = true from h) Bool.false_ne_true
  | .sc _ _ _ _ _ _, Γ, X, e, Wx, G0, S, tk, h => absurd (show false = true from h) Bool.false_ne_true
  | .sc2 _ _ _ _ _ _ _ _ _ _ _, Γ, X, e, Wx, G0, S, tk, h => absurd (show false = true from h) Bool.false_ne_true
theorem chkL_ok : ∀ (cs : List CE) {Γ : Ct} {X : Cx} {xs : List Expr} {Wx : WX}, Gd X g P n T → Sc X Γ → Takes X Wx → chkL T P cs Γ xs = true → Snds X g Wx xs (evs P.gam (callF P n) cs)
  | [], Γ, X, xs, Wx, G0, S, tk, h => by
    unfold chkL at h
    cases xs with
    | nil => rw [evs]; exact .nil
    | cons _ _ => cases h
  | c :: cs, Γ, X, xs, Wx, G0, S, tk, h => by
    unfold chkL at h
    cases xs with
    | nil => cases h
    | cons x xs =>
      obtain ⟨h1, h2⟩ := Bool.and_eq_true_iff.mp h
      rw [evs]; exact .cons (chkE_ok c G0 S tk h1) (chkL_ok cs G0 S tk h2)
theorem chkS_ok : ∀ (cs : List CE) {Γ : Ct} {X : Cx} {xs : List Expr} {Wx : WX}, Gd X g P n T → Sc X Γ → Takes X Wx → chkS T P cs Γ xs = true → SndsS X g Wx xs (evs P.gam (callF P n) cs)
  | [], Γ, X, xs, Wx, G0, S, tk, h => by
    unfold chkS at h
    cases xs with
    | nil => rw [evs]; exact .nil
    | cons _ _ => cases h
  | c :: cs, Γ, X, xs, Wx, G0, S, tk, h => by
    by_cases hc : ∃ a, c = .star a
    · obtain ⟨a, rfl⟩ := hc
      unfold chkS at h
      split at h
      · rename_i x p xs
        obtain ⟨h1, h2⟩ := Bool.and_eq_true_iff.mp h
        rw [evs, ev]; exact .star (chkE_ok a G0 S tk h1) (chkS_ok cs G0 S tk h2)
      · cases h
    · cases xs with
      | nil => unfold chkS at h; cases c <;> first | (cases h; done) | exact absurd ⟨_, rfl⟩ hc
      | cons x xs =>
        have h : (chkE T P c Γ x && chkS T P cs Γ xs) = true := by
          unfold chkS at h; cases c <;> first | exact h | exact absurd ⟨_, rfl⟩ hc
        obtain ⟨h1, h2⟩ := Bool.and_eq_true_iff.mp h
        rw [evs]; exact .one (chkE_ok c G0 S tk h1) (ev_star h1) (chkS_ok cs G0 S tk h2)
theorem chkO_ok : ∀ (cs : List CE) {Γ : Ct} {X : Cx} {o : Option Expr} {Wx : WX}, Gd X g P n T → Sc X Γ → Takes X Wx → chkO T P cs Γ o = true → SndO X g Wx o (evs P.gam (callF P n) cs)
  | [], Γ, X, o, Wx, G0, S, tk, h => by
    unfold chkO at h
    cases o with
    | none => rw [evs]; exact .none
    | some _ => cases h
  | c :: cs, Γ, X, o, Wx, G0, S, tk, h => by
    unfold chkO at h
    cases o with
    | none => cases h
    | some x =>
      obtain ⟨h1, h2⟩ := Bool.and_eq_true_iff.mp h
      cases cs with
      | nil => rw [evs, evs]; exact .some (chkE_ok c G0 S tk h2)
      | cons _ _ => cases h1
end
end
end Rf

namespace Rf
open PySem L2 PyProof.Rows

def notComp : Expr → Bool
  | .ListComp _ _ _ _ => false
  | .SetComp _ _ _ _ => false
  | .DictComp _ _ _ _ _ => false
  | _ => true
def notTup : Expr → Bool
  | .Tuple _ _ _ => false
  | _ => true
theorem sw_none {e : Expr} (h : notComp e = true) (t : Option Expr) (l : Nat) (env : PySem.Env) : swapsWith e t l env = pure false := by
  cases e <;> first | rfl | cases h
theorem sw_sub (e a b : Expr) (p : Pos) (l : Nat) (env : PySem.Env) : swapsWith e (some (.Subscript a b p)) l env = pure false := by
  cases e <;> rfl
theorem sw_tup (e : Expr) (es : List Expr) (k : Nat) (p : Pos) (l : Nat) (env : PySem.Env) : swapsWith e (some (.Tuple es k p)) l env = pure false := by
  cases e <;> rfl
theorem sw_cell {e : Expr} {t : Str} {p : Pos} {l : Nat} {env : PySem.Env} (hk : env.scope.kind = .function) (h : env.scope.names.lookup t = some .cell) : swapsWith e (some (.Name t p)) l env = pure false := by
  have ky : env.kindOf t = some .cell := h
  have hb : env.blockKind = .function := by unfold Env.blockKind; rw [hk]; rfl
  by_cases q : notComp e = true
  · exact sw_none q _ _ _
  · cases e <;> first
      | exact absurd rfl q
      | (unfold swapsWith; simp only [hb, ky]; rfl)
def isFunc (sc : Scope) : Bool := match sc.kind with | .function => true | _ => false
theorem isFunc_ok {sc : Scope} (h : isFunc sc = true) : sc.kind = .function := by
  unfold isFunc at h
  split at h <;> first | assumption | cases h
def isCell (sc : Scope) (x : Str) : Bool := match sc.names.lookup x with
  | some .cell => true
  | _ => false
theorem isCell_ok {sc : Scope} {x : Str} (h : isCell sc x = true) : sc.names.lookup x = some .cell := by
  unfold isCell at h
  split at h <;> first | assumption | cases h
def swapOk (Γ : Ct) (own : Bool) (x : Str) (px : Pos) (e : Expr) : Bool := match e with
  | .ListComp _ [⟨_, _, _, 0⟩] scope pos => own && isLocal Γ.sc x && isFunc Γ.sc && (px.line == pos.line) && !(scope.names.any fun (n, k) => n == x && (k == .local || k == .cell))
  | _ => false
def isLc : CE → Bool
  | .lc _ _ _ _ _ _ => true
  | _ => false
/-- a, b = x, y on plain names: the stores are swapped -/
def parSw (Γ : Ct) (ts es : List Expr) : Bool := match ts, es with
  | [.Name x px, .Name y py], [a, b] => isFunc Γ.sc && (isLocal Γ.sc x && (isLocal Γ.sc y && ((py.line == px.line) && ((x != y) && (!(isStar a || (isStar b || false)) && (!([a, b].all (foldedForSure 8)) && (!([a, b].all (constantsAlone 8)))))))))
  | [.Name x px, .Name y py, .Name z pz], [a, b, c] => isFunc Γ.sc && (isLocal Γ.sc x && (isLocal Γ.sc y && (isLocal Γ.sc z && ((py.line == px.line) && ((pz.line == px.line) && ((x != y) && ((x != z) && ((y != z) && (!(isStar a || (isStar b || (isStar c || false))) && (!([a, b, c].all (foldedForSure 8)) && (!([a, b, c].all (constantsAlone 8)))))))))))))
  | _, _ => false
def notLoc (Γ : Ct) : Expr → Bool
  | .Name x _ => !isLocal Γ.sc x
  | _ => false
/-- .. or not -/
def parNo (Γ : Ct) (ts vs : List Expr) : Bool := (decide (ts.length ≠ 2) && decide (ts.length ≠ 3)) || (ts.any (notLoc Γ) || vs.all (foldedForSure 8))
theorem sw_fold {ts vs : List Expr} {k k2 : Nat} {p p2 : Pos} {env : PySem.Env} (h : vs.all (foldedForSure 8) = true) : swappedStores [.Tuple ts k p] (.Tuple vs k2 p2) env = pure none := by
  unfold swappedStores
  simp only [h]
  repeat' split
  all_goals first | rfl | contradiction | simp_all
def nmsB (Γ : Ct) : List Expr → List Nat → Bool
  | [], [] => true
  | .Name x _ :: es, i :: is => decide (Γ.N[i]? = some x) && (locB Γ.sc x && ((Γ.fn x || isLocal Γ.sc x) && nmsB Γ es is))
  | _, _ => false
def augB (o : Op) (op : Operator) : Bool := match o with
  | .add => (match op with | .Add => true | _ => false)
  | .sub => (match op with | .Sub => true | _ => false)
  | _ => false
def litB (d : D) : Expr → Bool
  | .Constant c _ _ => match c with
    | .int i => D.same d (.int i)
    | .bool b => D.same d (.bl b)
    | .str s => D.same d (.str s)
    | .none => D.same d .non
    | _ => false
  | _ => false
mutual
def chkU (T : Tb) : CE → Ct → Expr → Bool
  | .var i, Γ, e => match e with
    | .Name x _ => decide (Γ.N[i]? = some x) && (visB Γ.sc x && plainNm x)
    | _ => false
  | .cst d, _, e => litB d e
  | .xfld i f, Γ, e => match e with
    | .Attribute (.Name x _) f' _ => f == f' && (decide (Γ.N[i]? = some x) && (visB Γ.sc x && plainNm x))
    | _ => false
  | .lst es, Γ, e => match e with
    | .List xs _ => chkUl T es Γ xs
    | _ => false
  | .op .repr es, Γ, e => match e with
    | .Call (.Name x _) xs [] _ => x == "repr" && (bltB T Γ.sc x && (decide (xs.length = 1) && chkUl T es Γ xs))
    | _ => false
  | .op .eq es, Γ, e => match e with
    | .Compare a [.Eq] [b] _ => !(behindInMarks .Eq b) && chkUl T es Γ [a, b]
    | _ => false
  | _, _, _ => false
def chkUl (T : Tb) : List CE → Ct → List Expr → Bool
  | [], _, xs => xs.isEmpty
  | c :: cs, Γ, xs => match xs with
    | x :: xs => chkU T c Γ x && chkUl T cs Γ xs
    | [] => false
end
def chkUs (T : Tb) : List CS → Ct → List Stmt → Bool
  | [], _, s => s.isEmpty
  | .ret c :: cs, Γ, ss => match ss with
    | .Return (some e) _ :: ss => chkU T c Γ e && chkUs T cs Γ ss
    | _ => false
  | .asg _ i c :: cs, Γ, ss => match ss with
    | .Assign [.Name x _] e _ :: ss => decide (Γ.N[i]? = some x) && (locB Γ.sc x && ((Γ.fn x || isLocal Γ.sc x) && (notComp e && (chkU T c Γ e && chkUs T cs Γ ss))))
    | _ => false
  | _, _, _ => false
def chkH (T : Tb) : CH → Ct → List ExceptHandler → Bool
  | .nil, _, hs => hs.isEmpty
  | .cons k (some i) a r, Γ, hs => match hs with
    | .ExceptHandler (some (.Name x _)) (some n) (b :: su) _ :: hs => decide (T.cls.lookup x = some k) && (glB Γ.sc x && (plainNm x && (decide (Γ.N[i]? = some n) && (isLocal Γ.sc n && (chkUs T a Γ (b :: su) && chkH T r Γ hs)))))
    | _ => false
  | .cons _ none _ _, _, _ => false
mutual
def chkC (T : Tb) (P : Prg) : CS → Ct → Stmt → Bool
  | .expr c, Γ, s => match s with
    | .Expr e _ => notComp e && chkE T P c Γ e
    | _ => false
  | .asg own i c, Γ, s => match s with
    | .Assign [.Name x px] e pos => decide (Γ.N[i]? = some x) && locB Γ.sc x && (Γ.fn x || isLocal Γ.sc x) && chkE T P c Γ e && (notComp e || (isCell Γ.sc x && isFunc Γ.sc) || (swapOk Γ true x px e && isLc c))
    | _ => false
  | .asgT t c, Γ, s => match s with
    | .Assign [.Tuple es k p] e pos => chkTg Γ t (.Tuple es k p) && notTup e && chkE T P c Γ e
    | _ => false
  | .seti i k c, Γ, s => match s with
    | .Assign [.Subscript (.Name x px) ke p2] e pos => decide (Γ.N[i]? = some x) && visB Γ.sc x && plainNm x && notSlice ke && chkE T P k Γ ke && chkE T P c Γ e
    | _ => false
  | .app i none c, Γ, s => match s with
    | .Expr (.Call (.Attribute (.Name x px) m apos) [e] [] cpos) pos => m == "append" && decide (Γ.N[i]? = some x) && visB Γ.sc x && plainNm x && (apos.endLine == cpos.line) && chkE T P c Γ e
    | _ => false
  | .app i (some f) c, Γ, s => match s with
    | .Expr (.Call (.Attribute (.Attribute (.Name x px) f' _) m apos) [e] [] cpos) pos => m == "append" && (f == f' && (decide (Γ.N[i]? = some x) && (visB Γ.sc x && (plainNm x && ((apos.endLine == cpos.line) && chkP c Γ e)))))
    | _ => false
  | .ext i none c, Γ, s => match s with
    | .Expr (.Call (.Attribute (.Name x px) m apos) [e] [] cpos) pos => m == "extend" && decide (Γ.N[i]? = some x) && visB Γ.sc x && plainNm x && (apos.endLine == cpos.line) && chkE T P c Γ e
    | _ => false
  | .aug i o c, Γ, s => match s with
    | .AugAssign (.Name x _) op e _ => augB o op && (decide (Γ.N[i]? = some x) && (locB Γ.sc x && ((Γ.fn x || isLocal Γ.sc x) && chkE T P c Γ e)))
    | _ => false
  | .augf i f o c, Γ, s => match s with
    | .AugAssign (.Attribute (.Name x _) f' _) op e _ => augB o op && (f == f' && (decide (Γ.N[i]? = some x) && (visB Γ.sc x && (plainNm x && chkE T P c Γ e))))
    | _ => false
  | .whl c a, Γ, s => match s with
    | .While e x [] _ => chkE T P c Γ e && chkCs T P a Γ x
    | _ => false
  | .iff c a b, Γ, s => match s with
    | .If e x y _ => chkE T P c Γ e && chkCs T P a Γ x && chkCs T P b Γ y
    | _ => false
  | .forr tg k ia a, Γ, s => match s with
    | .For t it x [] _ => notSet it && chkTg Γ tg t && (match itArgs T Γ.sc k t it with | some xs => chkL T P ia Γ xs | none => false) && chkCs T P a Γ x
    | _ => false
  | .ret c, Γ, s => match s with
    | .Return (some e) _ => chkE T P c Γ e
    | _ => false
  | .retN, _, s => match s with
    | .Return none _ => true
    | _ => false
  | .pass, _, s => match s with
    | .Pass _ => true
    | _ => false
  | .brk, _, s => match s with
    | .Break _ => true
    | _ => false
  | .cnt, _, s => match s with
    | .Continue _ => true
    | _ => false
  | .setf _ i c f e, Γ, s => match s with
    | .Assign [.Attribute (.Name x _) f' _] v _ => f == f' && (decide (Γ.N[i]? = some x) && (visB Γ.sc x && (plainNm x && (T.flds.contains (c, f) && chkE T P e Γ v))))
    | _ => false
  | .par l es, Γ, s => match s with
    | .Assign [.Tuple ts _ _] (.Tuple vs _ _) _ => nmsB Γ ts (l.map (·.2)) && (decide (ts.length = vs.length) && (decide (vs.length ≤ lim) && (decide ((l.map (·.2)).Nodup) && ((parSw Γ ts vs || parNo Γ ts vs) && chkL T P es Γ vs))))
    | _ => false
  | .rais c f e, Γ, s => match s with
    | .Raise (some (.Call (.Name x _) [v] [] _)) none _ => decide (T.cls.lookup x = some c) && (decide (P.exf c = some f) && (glB Γ.sc x && (plainNm x && chkE T P e Γ v)))
    | _ => false
  | .tryy a hs, Γ, s => match s with
    | .Try body (h0 :: hds) [] [] _ => chkCs T P a Γ body && chkH T hs Γ (h0 :: hds)
    | _ => false
  | .never, _, _ => true
  | _, _, _ => false
def chkCs (T : Tb) (P : Prg) : List CS → Ct → List Stmt → Bool
  | [], _, s => s.isEmpty
  | c :: cs, Γ, ss => match ss with
    | s :: ss => chkC T P c Γ s && chkCs T P cs Γ ss
    | [] => false
end

section
variable {g : G} {P : Prg} {n : Nat} {T : Tb}
theorem lc_set {own : List Nat} {a : CE} {tg : CT} {k : IK} {ia ifs : List CE} {Γ : Ct} {X : Cx} {e : Expr} {Wx : WX} {i : Nat} {x : Str} {px spos : Pos} (G0 : Gd X g P n T) (S : Sc X Γ) (tk : Takes X Wx) (h : chkE T P (.lc own a tg k ia ifs) Γ e = true) (hy : Γ.N[i]? = some x)
    (hs : swapOk Γ true x px e = true) : PS X (.Assign [.Name x px] e spos) (tAsg (tW X.K g Wx (ev P.gam (callF P n) (.lc own a tg k ia ifs)).w) (gName i)) := by
  unfold chkE at h
  split at h
  · rename_i elt t it cs scope p
    simp only [Bool.and_eq_true, decide_eq_true_eq] at h
    obtain ⟨⟨⟨⟨⟨⟨⟨h1, h2⟩, h3⟩, h4⟩, h5⟩, h6⟩, h7⟩, h8⟩ := h
    split at h6
    · rename_i xs q
      rw [← S.sc] at q
      unfold swapOk at hs
      simp only [Bool.and_eq_true, Bool.not_eq_true'] at hs
      obtain ⟨⟨⟨⟨_, s2⟩, s3⟩, s4⟩, s5⟩ := hs
      have hl : X.env.scope.names.lookup x = some .local := by rw [S.sc]; exact isLocal_ok s2
      have key := st_setLc (g := g) (spos := spos) (py := px) (pos := p) (i := i) (y := x) G0.calm G0.nd (by rw [S.N]; exact hy) hl (sw_true (by rw [S.sc]; exact isFunc_ok s3) hl s4 s5) (it_ok G0 q (chkL_ok ia G0 S tk h6)) (blkOk_by (by rw [S.N, S.sc]; exact h2)) (fun s H C cl fp => chkTg_ok (S.blk s H scope C cl fp) tg h5)
        (fun s H C cl fp => chkL_ok ifs (G0.blk s H scope C cl fp) (S.blk s H scope C cl fp) takesF h7) h4 (fun s H C cl fp => chkE_ok a (G0.blk s H scope C cl fp) (S.blk s H scope C cl fp) takesF h8) (notSet_ok h3 _)
      rw [h1] at key
      rw [ev]
      exact key
    · cases h6
  · cases h
/-- what stands of the frame that a statement runs in -/
structure Sx (X : Cx) : Prop where
  own : PassesOwn (model X.prog X.w) X.A X.env X.xe
  stk : X.stack = X.env :: X.outer
  frm : X.env.frame = some X.env.locals
theorem Gd.tr {X : Cx} (h : Gd X g P n T) (pn : List (Addr × Obj)) (xe : Value → Shared → Prop) : Gd (X.tr pn xe) g P n T :=
  have dk : ∀ {i : Nat} {fi : FI}, DefOk X g P n i fi → DefOk (X.tr pn xe) g P n i fi := fun q => ⟨q.at_, q.ex, q.kp, q.fi⟩
  ⟨h.calm, h.nd, h.room, fun i fi e => dk (h.fok i fi e), h.fns, h.cls, h.blts, h.cns, h.ity, h.itk, h.ito, h.xi0, ⟨fun c m f e => let ⟨fi, a, b⟩ := h.own.me c m f e; ⟨fi, dk a, b⟩, h.own.eq, h.own.ct, h.own.gi, h.own.ln⟩,
    fun c i e => let ⟨fi, a, b⟩ := h.mks c i e; ⟨fi, dk a, b⟩, h.noat, fun c f e => let ⟨k, fI, fd, ps, q⟩ := (h.err c f e).ex; ⟨k, fI, fd, ps, q⟩, h.exm, fun c m f e => let ⟨gi, a, b⟩ := h.gok c m f e; ⟨gi, ⟨a.at_, a.ex⟩, b⟩⟩
theorem Sc.tr {X : Cx} {Γ : Ct} (h : Sc X Γ) (pn : List (Addr × Obj)) (xe : Value → Shared → Prop) : Sc (X.tr pn xe) Γ := ⟨h.N, h.sc, h.fn⟩
section
variable {X : Cx} {Γ : Ct} {p : Addr} {o : Obj} {cls : Value} {d : Option Addr} {pn : List (Addr × Obj)} {Γg : Gam} {C : Call} {Wy : WX}
theorem lit_ok {X : Cx} {g : G} {e : Expr} {dd : D} (h : litB dd e = true) : Snd X g Wy e (ev Γg C (.cst dd)) := by
  unfold litB at h
  split at h
  · split at h
    · cases D.same_ok h; exact s_int
    · cases D.same_ok h; exact s_bl
    · cases D.same_ok h; exact s_str
    · cases D.same_ok h; exact s_non
    · cases h
  · cases h
theorem eq_bare {X : Cx} {g : G} : OpS X g Wy Γg.bare C .eq true (compareOp .Eq) := by
  intro pins s σ H x y v u Q env S ft a b hw rd I rx ry R ha hb m
  have h := hw rfl
  cases a with
  | ins c fs vs => exact m.elim
  | _ => exact absurd (show false = true from h) Bool.false_ne_true
mutual
theorem chkU_ok (G0 : Gd X g P n T) (S : Sc X Γ) (hz : Zc cls d o) (ho : ∃ vs, o.data = .fields vs) : ∀ (c : CE) {e : Expr}, chkU T c Γ e = true → Snd (X.suite p ((p, o) :: pn)) (g.xit (some (p, cls, d))) Wy e (ev P.gam.bare C c)
  | .var i, e, h => by
    unfold chkU at h
    split at h
    · simp only [Bool.and_eq_true, decide_eq_true_eq] at h
      obtain ⟨h1, h2, h3⟩ := h
      obtain ⟨n1, n2, n3⟩ := plainNm_ok h3
      exact s_var (by show X.N[i]? = _; rw [S.N]; exact h1) (by show Vis X.env.scope _; rw [S.sc]; exact visB_ok h2) n1 n3
    · cases h
  | .cst dd, e, h => by
    unfold chkU at h
    exact lit_ok h
  | .xfld i f, e, h => by
    unfold chkU at h
    split at h
    · simp only [Bool.and_eq_true, decide_eq_true_eq] at h
      obtain ⟨h0, h1, h2, h3⟩ := h
      obtain ⟨n1, n2, n3⟩ := plainNm_ok h3
      cases eq_of_beq h0
      exact s_xfld (X := X) (fun c f e => let ⟨k, _, _, _, q, _⟩ := (G0.err c f e).ex; ⟨k, q⟩) hz ho (by rw [S.N]; exact h1) (by rw [S.sc]; exact visB_ok h2) n1 n3
    · cases h
  | .lst es, e, h => by
    unfold chkU at h
    split at h
    · rw [ev]; exact s_lst (chkUl_ok G0 S hz ho es h).1
    · cases h
  | .op .repr es, e, h => by
    unfold chkU at h
    split at h
    · rename_i x q xs q2
      simp only [Bool.and_eq_true, decide_eq_true_eq, bltB] at h
      obtain ⟨h0, ⟨⟨h1, h2⟩, h3⟩, h4, h5⟩ := h
      obtain ⟨n1, n2, n3⟩ := plainNm_ok h3
      have hx : x = Str.ofString "repr" := eq_of_beq h0
      subst hx
      rw [ev]
      refine s_callB (plain_ok rfl) (call_repr (K := X.K) G0.room.gd G0.units) (by rw [← S.sc] at h2; exact glB_ok h2) (G0.blts _ h1) (boot_b _ (by decide)) n2 n1 (chkUl_ok G0 S hz ho es h5).2 (fun z => by subst z; simp at h4) fun q => ?_
      cases xs with
      | nil => simp at h4
      | cons _ _ => rfl
    · cases h
  | .op .eq es, e, h => by
    unfold chkU at h
    split at h
    · rename_i a b q
      have hu := G0.units
      obtain ⟨hm, h⟩ := Bool.and_eq_true_iff.mp h
      obtain ⟨A, B, e1, hA, hB⟩ := two_args (b := a) (B := fun _ => True) (chkUl_ok G0 S hz ho es h).2
      rw [ev, e1]
      exact s_cmpS rfl (opS_of (r_eq (by show X.A.units + 65 < cLine; omega)) eq_bare) hA hB (by simpa using hm)
    · cases h
  | .op .add _, e, h => absurd (show false = true from h) Bool.false_ne_true
  | .op .sub _, e, h => absurd (show false = true from h) Bool.false_ne_true
  | .op .mul _, e, h => absurd (show false = true from h) Bool.false_ne_true
  | .op .fdiv _, e, h => absurd (show false = true from h) Bool.false_ne_true
  | .op .mod _, e, h => absurd (show false = true from h) Bool.false_ne_true
  | .op .pow _, e, h => absurd (show false = true from h) Bool.false_ne_true
  | .op .ne _, e, h => absurd (show false = true from h) Bool.false_ne_true
  | .op .lt _, e, h => absurd (show false = true from h) Bool.false_ne_true
  | .op .le _, e, h => absurd (show false = true from h) Bool.false_ne_true
  | .op .gt _, e, h => absurd (show false = true from h) Bool.false_ne_true
  | .op .ge _, e, h => absurd (show false = true from h) Bool.false_ne_true
  | .op .is _, e, h => absurd (show false = true from h) Bool.false_ne_true
  | .op .isnot _, e, h => absurd (show false = true from h) Bool.false_ne_true
  | .op .isin _, e, h => absurd (show false = true from h) Bool.false_ne_true
  | .op .notin _, e, h => absurd (show false = true from h) Bool.false_ne_true
  | .op .neg _, e, h => absurd (show false = true from h) Bool.false_ne_true
  | .op .idx _, e, h => absurd (show false = true from h) Bool.false_ne_true
  | .op .rev _, e, h => absurd (show false = true from h) Bool.false_ne_true
  | .op .len _, e, h => absurd (show false = true from h) Bool.false_ne_true
  | .op .int _, e, h => absurd (show false = true from h) Bool.false_ne_true
  | .op .abs _, e, h => absurd (show false = true from h) Bool.false_ne_true
  | .op .max2 _, e, h => absurd (show false = true from h) Bool.false_ne_true
  | .op .min2 _, e, h => absurd (show false = true from h) Bool.false_ne_true
  | .op .maxL _, e, h => absurd (show false = true from h) Bool.false_ne_true
  | .op .minL _, e, h => absurd (show false = true from h) Bool.false_ne_true
  | .op .sum _, e, h => absurd (show false = true from h) Bool.false_ne_true
  | .op .sorted _, e, h => absurd (show false = true from h) Bool.false_ne_true
  | .op .list _, e, h => absurd (show false = true from h) Bool.false_ne_true
  | .op .tuple _, e, h => absurd (show false = true from h) Bool.false_ne_true
  | .op .dict _, e, h => absurd (show false = true from h) Bool.false_ne_true
  | .op .all _, e, h => absurd (show false = true from h) Bool.false_ne_true
  | .op .any _, e, h => absurd (show false = true from h) Bool.false_ne_true
  | .op .str _, e, h => absurd (show false = true from h) Bool.false_ne_true
  | .op .get1 _, e, h => absurd (show false = true from h) Bool.false_ne_true
  | .op .get2 _, e, h => absurd (show false = true from h) Bool.false_ne_true
  | .op .index _, e, h => absurd (show false = true from h) Bool.false_ne_true
  | .op .join _, e, h => absurd (show false = true from h) Bool.false_ne_true
  | .op .split _, e, h => absurd (show false = true from h) Bool.false_ne_true
  | .op .upper _, e, h => absurd (show false = true from h) Bool.false_ne_true
  | .op (.inst _ _) _, e, h => absurd (show false = true from h) Bool.false_ne_true
  | .star _, e, h => absurd (show false = true from h) Bool.false_ne_true
  | .tup _, e, h => absurd (show false = true from h) Bool.false_ne_true
  | .dct _ _ _, e, h => absurd (show false = true from h) Bool.false_ne_true
  | .chain _ _ _ _ _, e, h => absurd (show false = true from h) Bool.false_ne_true
  | .slc _ _ _, e, h => absurd (show false = true from h) Bool.false_ne_true
  | .not _, e, h => absurd (show false = true from h) Bool.false_ne_true
  | .and _, e, h => absurd (show false = true from h) Bool.false_ne_true
  | .or _, e, h => absurd (show false = true from h) Bool.false_ne_true
  | .ite _ _ _, e, h => absurd (show false = true from h) Bool.false_ne_true
  | .fld _ _, e, h => absurd (show false = true from h) Bool.false_ne_true
  | .call _ _ _ _, e, h => absurd (show false = true from h) Bool.false_ne_true
  | .meth _ _ _ _ _, e, h => absurd (show false = true from h) Bool.false_ne_true
  | .mk _ _ _ _, e, h => absurd (show false = true from h) Bool.false_ne_true
  | .lc _ _ _ _ _ _, e, h => absurd (show false = true from h) Bool.false_ne_true
  | .lc2 _ _ _ _ _ _ _ _ _ _ _, e, h => absurd (show false = true from h) Bool.false_ne_true
  | .sc _ _ _ _ _ _, e, h => absurd (show false = true from h) Bool.false_ne_true
  | .sc2 _ _ _ _ _ _ _ _ _ _ _, e, h => absurd (show false = true from h) Bool.false_ne_true
  | .dc _ _ _ _ _ _ _, e, h => absurd (show false = true from h) Bool.false_ne_true
  | .never, e, h => absurd (show false = true from h) Bool.false_ne_true
theorem chkUl_ok (G0 : Gd X g P n T) (S : Sc X Γ) (hz : Zc cls d o) (ho : ∃ vs, o.data = .fields vs) : ∀ (cs : List CE) {xs : List Expr}, chkUl T cs Γ xs = true →
    SndsS (X.suite p ((p, o) :: pn)) (g.xit (some (p, cls, d))) Wy xs (evs P.gam.bare C cs) ∧ Snds (X.suite p ((p, o) :: pn)) (g.xit (some (p, cls, d))) Wy xs (evs P.gam.bare C cs)
  | [], xs, h => by
    unfold chkUl at h
    cases xs with
    | nil => rw [evs]; exact ⟨.nil, .nil⟩
    | cons _ _ => cases h
  | c :: cs, xs, h => by
    unfold chkUl at h
    cases xs with
    | nil => cases h
    | cons x xs =>
      obtain ⟨h1, h2⟩ := Bool.and_eq_true_iff.mp h
      have k := chkU_ok G0 S hz ho c h1
      obtain ⟨k1, k2⟩ := chkUl_ok G0 S hz ho cs h2
      rw [evs]
      have ns : (ev P.gam.bare C c).star = false := by cases c <;> first | rfl | exact absurd (show false = true from h1) Bool.false_ne_true
      exact ⟨.one k ns k1, .cons k k2⟩
end
theorem chkUs_ok {pr : Nat → Bool} (G0 : Gd X g P n T) (S : Sc X Γ) (hz : Zc cls d o) (ho : ∃ vs, o.data = .fields vs) : ∀ (cs : List CS) {ss : List Stmt}, chkUs T cs Γ ss = true → Sts (X.suite p ((p, o) :: pn)) (g.xit (some (p, cls, d))) WF pr ss (exs P.gam.bare C pr cs)
  | [], ss, h => by
    unfold chkUs at h
    cases ss with
    | nil => rw [exs]; exact sts_nil
    | cons _ _ => cases h
  | c :: cs, ss, h => by
    have ih : ∀ {ss : List Stmt}, chkUs T cs Γ ss = true → Sts (X.suite p ((p, o) :: pn)) (g.xit (some (p, cls, d))) WF pr ss (exs P.gam.bare C pr cs) := fun q => chkUs_ok G0 S hz ho cs q
    cases c with
    | ret c' =>
      unfold chkUs at h
      split at h
      · rename_i e q ss
        obtain ⟨h1, h2⟩ := Bool.and_eq_true_iff.mp h
        have := sts_cons (st_ret (pr := pr) (pos := q) (chkU_ok (C := C) (pn := pn) (p := p) (Wy := WF) G0 S hz ho c' h1)) (ih h2)
        rw [exs, ex]; exact this
      · cases h
    | asg own i c' =>
      unfold chkUs at h
      split at h
      · rename_i x px e q ss
        simp only [Bool.and_eq_true, decide_eq_true_eq, Bool.or_eq_true] at h
        obtain ⟨h1, h2, h3, h4, h5, h6⟩ := h
        have hf : X.fn x = true ∨ X.env.scope.names.lookup x = some .local := by
          rcases h3 with h3 | h3
          · exact .inl (by rw [S.fn]; exact h3)
          · exact .inr (by rw [S.sc]; exact isLocal_ok h3)
        have := sts_cons (st_asg (X := X.suite p ((p, o) :: pn)) (pr := pr) (pos := q) (own := own) (pos' := px) G0.nd (by show X.N[i]? = _; rw [S.N]; exact h1) (by show L2.Loc X.env.scope _; rw [S.sc]; exact locB_ok h2) (chkU_ok (C := C) (pn := pn) (p := p) (Wy := WF) G0 S hz ho c' h5) (sw_none h4 _ _ _) hf) (ih h6)
        rw [exs, ex]; exact this
      · cases h
    | _ => exact absurd (show false = true from h) Bool.false_ne_true
theorem chkH_ok {pr : Nat → Bool} (G0 : Gd X g P n T) (S : Sc X Γ) : ∀ (ch : CH) {hs : List ExceptHandler}, chkH T ch Γ hs = true → HsOk X g P.gam C pr hs ch
  | .nil, hs, h => by
    unfold chkH at h
    cases hs with
    | nil => exact .nil
    | cons _ _ => cases h
  | .cons k (some i) a r, hs, h => by
    unfold chkH at h
    split at h
    · rename_i x np n b su cp hs
      simp only [Bool.and_eq_true, decide_eq_true_eq] at h
      obtain ⟨h1, h2, h3, h4, h5, h6, h7⟩ := h
      obtain ⟨n1, n2, n3⟩ := plainNm_ok h3
      exact .cons (glB_ok (by rw [S.sc]; exact h2)) n1 (G0.cls _ k h1) (by rw [S.N]; exact h4) (by show X.env.scope.names.lookup n = _; rw [S.sc]; exact isLocal_ok h5) (fun p o cls d pn hz ho => chkUs_ok G0 S hz ho a h6) (chkH_ok G0 S r h7)
    · cases h
  | .cons k none a r, hs, h => absurd (show false = true from h) Bool.false_ne_true
end
theorem nms_ok {X : Cx} {Γ : Ct} (S : Sc X Γ) : ∀ {es : List Expr} {is : List Nat}, nmsB Γ es is = true → Nms X es is
  | [], [], _ => .nil
  | [], _ :: _, h => by cases h
  | .Name x q :: es, i :: is, h => by
    obtain ⟨h1, h⟩ := Bool.and_eq_true_iff.mp (show (decide (Γ.N[i]? = some x) && (locB Γ.sc x && ((Γ.fn x || isLocal Γ.sc x) && nmsB Γ es is))) = true from h)
    obtain ⟨h2, h⟩ := Bool.and_eq_true_iff.mp h
    obtain ⟨h3, h4⟩ := Bool.and_eq_true_iff.mp h
    have h3 : Γ.fn x = true ∨ isLocal Γ.sc x = true := by simpa using h3
    refine .cons (by rw [S.N]; exact of_decide_eq_true h1) (by rw [S.sc]; exact locB_ok h2) ?_ (nms_ok S h4)
    rcases h3 with h3 | h3
    · exact .inl (by rw [S.fn]; exact h3)
    · exact .inr (by rw [S.sc]; exact isLocal_ok h3)
  | e :: es, [], h => by cases e <;> cases h
  | e :: es, i :: is, h => by
    cases e <;> first | (cases h; done) | skip
    rename_i x q
    obtain ⟨h1, h⟩ := Bool.and_eq_true_iff.mp (show (decide (Γ.N[i]? = some x) && (locB Γ.sc x && ((Γ.fn x || isLocal Γ.sc x) && nmsB Γ es is))) = true from h)
    obtain ⟨h2, h⟩ := Bool.and_eq_true_iff.mp h
    obtain ⟨h3, h4⟩ := Bool.and_eq_true_iff.mp h
    have h3 : Γ.fn x = true ∨ isLocal Γ.sc x = true := by simpa using h3
    refine .cons (by rw [S.N]; exact of_decide_eq_true h1) (by rw [S.sc]; exact locB_ok h2) ?_ (nms_ok S h4)
    rcases h3 with h3 | h3
    · exact .inl (by rw [S.fn]; exact h3)
    · exact .inr (by rw [S.sc]; exact isLocal_ok h3)
theorem locK_of {X : Cx} {Γ : Ct} (S : Sc X Γ) {x : Str} (h : isLocal Γ.sc x = true) : locK X.env x = true := by
  have : X.env.kindOf x = some .local := by show X.env.scope.names.lookup x = _; rw [S.sc]; exact isLocal_ok h
  unfold locK; rw [this]; rfl
theorem locK_not {X : Cx} {Γ : Ct} (S : Sc X Γ) {x : Str} (h : isLocal Γ.sc x = false) : locK X.env x = false := by
  have e : X.env.kindOf x = Γ.sc.names.lookup x := by show X.env.scope.names.lookup x = _; rw [S.sc]
  unfold locK; rw [e]
  unfold isLocal at h
  split at h
  · cases h
  · rename_i q
    cases c : Γ.sc.names.lookup x with
    | none => rfl
    | some k => cases k <;> first | rfl | exact absurd c q
theorem isFunc_blk {X : Cx} {Γ : Ct} (S : Sc X Γ) (h : isFunc Γ.sc = true) : X.env.blockKind = .function := by
  unfold Env.blockKind
  rw [S.sc, isFunc_ok h]; rfl
theorem par_ok {X : Cx} {Γ : Ct} {Wx : WX} {pr : Nat → Bool} {l : List (Bool × Nat)} {ts vs : List Expr} {Es : List Ev} {k k2 : Nat} {pt pt2 pos : Pos} (G0 : Gd X g P n T) (S : Sc X Γ) (h1 : nmsB Γ ts (l.map (·.2)) = true) (h2 : ts.length = vs.length) (h3 : vs.length ≤ lim) (hnd : (l.map (·.2)).Nodup) (h4 : (parSw Γ ts vs || parNo Γ ts vs) = true) (hs : Snds X g Wx vs Es) :
    St X g Wx pr (.Assign [.Tuple ts k pt] (.Tuple vs k2 pt2) pos) (parEv pr l Es) := by
  have hn := nms_ok S h1
  rcases (by simpa using h4 : parSw Γ ts vs = true ∨ parNo Γ ts vs = true) with h4 | h4
  · unfold parSw at h4
    split at h4
    · rename_i x px y py a b _
      simp only [Bool.and_eq_true, Bool.not_eq_true', bne_iff_ne] at h4
      obtain ⟨c1, c2, c3, c4, c5, c6, c7, c8⟩ := h4
      match l, hn, hnd with
      | [(o1, i), (o2, j)], .cons m1 _ _ (.cons m2 _ _ .nil), hnd =>
        have hij : i ≠ j := by simpa using hnd
        exact st_par2 G0.calm G0.nd m1 m2 (by rw [S.sc]; exact isLocal_ok c2) (by rw [S.sc]; exact isLocal_ok c3) hs hij (sw2_some (isFunc_blk S c1) (locK_of S c2) (locK_of S c3) c4 c5 c6 c7 c8) (sw_tup (.Tuple [a, b] k2 pt2) [.Name x px, .Name y py] k pt pos.line X.env)
    · rename_i x px y py z pz a b c _
      simp only [Bool.and_eq_true, Bool.not_eq_true', bne_iff_ne] at h4
      obtain ⟨c1, c2, c3, c4, c5, c6, c7, c8, c9, c10, c11, c12⟩ := h4
      match l, hn, hnd with
      | [(o1, i), (o2, j), (o3, q)], .cons m1 _ _ (.cons m2 _ _ (.cons m3 _ _ .nil)), hnd =>
        have hh : (i ≠ j ∧ i ≠ q) ∧ j ≠ q := by simpa using hnd
        exact st_par3 G0.calm G0.nd m1 m2 m3 (by rw [S.sc]; exact isLocal_ok c2) (by rw [S.sc]; exact isLocal_ok c3) (by rw [S.sc]; exact isLocal_ok c4) hs hh.1.1 hh.1.2 hh.2 (sw3_some (isFunc_blk S c1) (locK_of S c2) (locK_of S c3) (locK_of S c4) c5 c6 c7 c8 c9 c10 c11 c12) (sw_tup (.Tuple [a, b, c] k2 pt2) [.Name x px, .Name y py, .Name z pz] k pt pos.line X.env)
    · cases h4
  · have hw : swappedStores [.Tuple ts k pt] (.Tuple vs k2 pt2) X.env = pure none := by
      unfold parNo at h4
      simp only [Bool.or_eq_true, Bool.and_eq_true, decide_eq_true_eq] at h4
      rcases h4 with ⟨q1, q2⟩ | q | q
      · exact sw_many q1 q2
      · obtain ⟨e, he, q⟩ := List.any_eq_true.mp q
        unfold notLoc at q
        split at q
        · rename_i x px
          exact sw_none_at he (locK_not S (by simpa using q))
        · cases q
      · exact sw_fold q
    exact st_parT G0.calm G0.nd hn hs h2 hw h3
theorem st_never {X : Cx} {Wx : WX} {pr : Nat → Bool} {s : Stmt} : St X g Wx pr s (fun _ => .bad) := ⟨fun _ _ _ _ _ _ z => z.elim fun _ z => z.elim fun _ z => z.elim fun _ z => z.2.elim⟩
mutual
theorem chkC_ok : ∀ (c : CS) {Γ : Ct} {X : Cx} {s : Stmt} {Wx : WX} {pr : Nat → Bool}, Gd X g P n T → Sc X Γ → Takes X Wx → Sx X → chkC T P c Γ s = true → St X g Wx pr s (ex P.gam (callF P n) pr c)
  | .expr c, Γ, X, s, Wx, pr, G0, S, tk, hp, h => by
    unfold chkC at h
    split at h
    · obtain ⟨h1, h2⟩ := Bool.and_eq_true_iff.mp h
      rw [ex]; exact st_expr (chkE_ok c G0 S tk h2) (sw_none h1 _ _ _)
    · cases h
  | .asg own i c, Γ, X, s, Wx, pr, G0, S, tk, hp, h => by
    unfold chkC at h
    split at h
    · rename_i x px e pos
      simp only [Bool.and_eq_true, decide_eq_true_eq, Bool.or_eq_true] at h
      obtain ⟨⟨⟨⟨h1, h2⟩, h3⟩, h4⟩, h5⟩ := h
      have hN : X.N[i]? = some x := by rw [S.N]; exact h1
      have hx : L2.Loc X.env.scope x := by rw [S.sc]; exact locB_ok h2
      have hf : X.fn x = true ∨ X.env.scope.names.lookup x = some .local := by
        rcases h3 with h3 | h3
        · exact .inl (by rw [S.fn]; exact h3)
        · exact .inr (by rw [S.sc]; exact isLocal_ok h3)
      rw [ex]
      rcases h5 with (h5 | h5) | h5
      · exact st_asg G0.nd hN hx (chkE_ok c G0 S tk h4) (sw_none h5 _ _ _) hf
      · exact st_asg G0.nd hN hx (chkE_ok c G0 S tk h4) (sw_cell (by rw [S.sc]; exact isFunc_ok h5.2) (by rw [S.sc]; exact isCell_ok h5.1)) hf
      · obtain ⟨h5, h6⟩ := h5
        cases c with
        | lc ow a tg k ia ifs =>
          cases own with
          | true => exact st_asgLc (lc_set G0 S tk h4 h1 h5) rfl
          | false => exact st_asgLcF (lc_set G0 S tk h4 h1 h5) rfl rfl
        | _ => cases h6
    · cases h
  | .asgT t c, Γ, X, s, Wx, pr, G0, S, tk, hp, h => by
    unfold chkC at h
    split at h
    · rename_i es k p e pos
      simp only [Bool.and_eq_true] at h
      obtain ⟨⟨h1, h2⟩, h3⟩ := h
      rw [ex]
      exact st_asgT G0.nd G0.calm (chkTg_ok S t h1) (chkE_ok c G0 S tk h3) (sw_tup e es k p pos.line X.env) (by cases e <;> first | rfl | cases h2)
    · cases h
  | .seti i k c, Γ, X, s, Wx, pr, G0, S, tk, hp, h => by
    unfold chkC at h
    split at h
    · rename_i x px ke p2 e pos
      simp only [Bool.and_eq_true, decide_eq_true_eq] at h
      obtain ⟨⟨⟨⟨⟨h1, h2⟩, h3⟩, h4⟩, h5⟩, h6⟩ := h
      obtain ⟨n1, n2, n3⟩ := plainNm_ok h3
      have hu := G0.units
      rw [ex]
      exact st_seti (by omega) (pe_var (by rw [S.N]; exact h1) (by rw [S.sc]; exact visB_ok h2) n1 n3) (chkE_ok k G0 S tk h5) (chkE_ok c G0 S tk h6) (sw_sub e (.Name x px) ke p2 pos.line X.env) (by cases e <;> rfl) h4
    · cases h
  | .app i none c, Γ, X, s, Wx, pr, G0, S, tk, hp, h => by
    unfold chkC at h
    split at h
    · rename_i x px m apos e cpos pos
      simp only [Bool.and_eq_true, decide_eq_true_eq] at h
      obtain ⟨⟨⟨⟨⟨h1, h2⟩, h3⟩, h4⟩, h5⟩, h6⟩ := h
      obtain ⟨n1, n2, n3⟩ := plainNm_ok h4
      cases eq_of_beq h1
      rw [ex]
      exact st_app (pe_var (by rw [S.N]; exact h2) (by rw [S.sc]; exact visB_ok h3) n1 n3) (chkE_ok c G0 S tk h6) h5 (sw_none rfl _ _ _)
    · cases h
  | .iff c a b, Γ, X, s, Wx, pr, G0, S, tk, hp, h => by
    unfold chkC at h
    split at h
    · simp only [Bool.and_eq_true] at h
      obtain ⟨⟨h1, h2⟩, h3⟩ := h
      rw [ex]; exact st_if (chkE_ok c G0 S tk h1) (chkCs_ok a G0 S tk hp h2) (chkCs_ok b G0 S tk hp h3)
    · cases h
  | .forr tg k ia a, Γ, X, s, Wx, pr, G0, S, tk, hp, h => by
    unfold chkC at h
    split at h
    · rename_i t it x pos
      simp only [Bool.and_eq_true] at h
      obtain ⟨⟨⟨h1, h2⟩, h3⟩, h4⟩ := h
      split at h3
      · rename_i xs q
        rw [← S.sc] at q
        rw [ex]
        exact st_for (fb := fun pr' => exs P.gam (callF P n) pr' a) tk hp.own G0.nd G0.calm (it_ok G0 q (chkL_ok ia G0 S tk h3)) (chkTg_ok S tg h2) (fun Wx' pr' tk' => chkCs_ok a G0 S tk' hp h4) (notSet_ok h1 _)
      · cases h3
    · cases h
  | .ret c, Γ, X, s, Wx, pr, G0, S, tk, hp, h => by
    unfold chkC at h
    split at h
    · rw [ex]; exact st_ret (chkE_ok c G0 S tk h)
    · cases h
  | .retN, Γ, X, s, Wx, pr, G0, S, tk, hp, h => by
    unfold chkC at h
    split at h
    · rw [ex]; exact st_retN
    · cases h
  | .pass, Γ, X, s, Wx, pr, G0, S, tk, hp, h => by
    unfold chkC at h
    split at h
    · rw [ex]; exact st_pass
    · cases h
  | .brk, Γ, X, s, Wx, pr, G0, S, tk, hp, h => by
    unfold chkC at h
    split at h
    · rw [ex]; exact st_brk
    · cases h
  | .cnt, Γ, X, s, Wx, pr, G0, S, tk, hp, h => by
    unfold chkC at h
    split at h
    · rw [ex]; exact st_cnt
    · cases h
  | .never, Γ, X, s, Wx, pr, G0, S, tk, hp, h => by
    rw [ex]; exact st_never
  | .setf own i c f e, Γ, X, s, Wx, pr, G0, S, tk, hp, h => by
    unfold chkC at h
    split at h
    · rename_i x px f' p2 v pos
      simp only [Bool.and_eq_true, decide_eq_true_eq] at h
      obtain ⟨h0, h1, h2, h3, h4, h5⟩ := h
      obtain ⟨n1, n2, n3⟩ := plainNm_ok h3
      cases eq_of_beq h0
      rw [ex]
      exact st_setf (pe_var (by rw [S.N]; exact h1) (by rw [S.sc]; exact visB_ok h2) n1 n3) (G0.noat c f h4) (chkE_ok e G0 S tk h5) (by cases v <;> rfl)
    · cases h
  | .par l es, Γ, X, s, Wx, pr, G0, S, tk, hp, h => by
    unfold chkC at h
    split at h
    · rename_i ts k pt vs k2 pt2 pos
      simp only [Bool.and_eq_true, decide_eq_true_eq] at h
      obtain ⟨h1, h2, h3, h4, h5, h6⟩ := h
      rw [ex]
      exact par_ok G0 S h1 h2 h3 h4 h5 (chkL_ok es G0 S tk h6)
    · cases h
  | .rais c f e, Γ, X, s, Wx, pr, G0, S, tk, hp, h => by
    unfold chkC at h
    split at h
    · rename_i x p v pos pos'
      simp only [Bool.and_eq_true, decide_eq_true_eq] at h
      obtain ⟨h1, h2, h3, h4, h5⟩ := h
      obtain ⟨n1, n2, n3⟩ := plainNm_ok h4
      rw [ex]
      exact st_rais G0.calm (G0.err c f h2) tk (G0.room.mono (by omega)) (glB_ok (by rw [S.sc]; exact h3)) (G0.cls _ c h1) n1 (chkE_ok e G0 S tk h5)
    · cases h
  | .tryy a hs, Γ, X, s, Wx, pr, G0, S, tk, hp, h => by
    unfold chkC at h
    split at h
    · rename_i body h0 hds pos
      obtain ⟨h1, h2⟩ := Bool.and_eq_true_iff.mp h
      have := st_try (Γ := P.gam) (C := callF P n) (fb := exs P.gam (callF P n) pr a) (pos := pos) hp.stk hp.frm G0.nd tk G0.xi0 G0.exm (fun W pn xe tk' hp' => chkCs_ok a (pr := pr) (G0.tr pn xe) (S.tr pn xe) tk' ⟨hp', hp.stk, hp.frm⟩ h1) (chkH_ok G0 S hs h2)
      rw [ex]
      exact this
    · cases h
  | .aug i o c, Γ, X, s, Wx, pr, G0, S, tk, hp, h => by
    unfold chkC at h
    split at h
    · rename_i x px op e pos
      simp only [Bool.and_eq_true, Bool.or_eq_true, decide_eq_true_eq] at h
      obtain ⟨h0, h1, h2, h3, h4⟩ := h
      rw [ex]
      have hi : X.N[i]? = some x := by rw [S.N]; exact h1
      have hx : Loc X.env.scope x := by rw [S.sc]; exact locB_ok h2
      have hf : X.fn x = true ∨ X.env.scope.names.lookup x = some .local := h3.imp (fun z => by rw [S.fn]; exact z) fun z => by rw [S.sc]; exact isLocal_ok z
      unfold augB at h0
      split at h0
      · split at h0
        · exact st_aug G0.nd hi hx (chkE_ok c G0 S tk h4) hf ip_add aug_add
        · cases h0
      · split at h0
        · exact st_aug G0.nd hi hx (chkE_ok c G0 S tk h4) hf ip_sub aug_sub
        · cases h0
      · cases h0
    · cases h
  | .augf i f o c, Γ, X, s, Wx, pr, G0, S, tk, hp, h => by
    unfold chkC at h
    split at h
    · rename_i x px f' fp op e pos
      simp only [Bool.and_eq_true, decide_eq_true_eq] at h
      obtain ⟨h0, h00, h1, h2, h3, h4⟩ := h
      obtain ⟨n1, n2, n3⟩ := plainNm_ok h3
      cases eq_of_beq h00
      rw [ex]
      have ho : PE X (.Name x px) (tVar i) := pe_var (by rw [S.N]; exact h1) (by rw [S.sc]; exact visB_ok h2) n1 n3
      unfold augB at h0
      split at h0
      · split at h0
        · exact st_augf ho (chkE_ok c G0 S tk h4) in_add aug_add
        · cases h0
      · split at h0
        · exact st_augf ho (chkE_ok c G0 S tk h4) in_sub aug_sub
        · cases h0
      · cases h0
    · cases h
  | .app i (some f) c, Γ, X, s, Wx, pr, G0, S, tk, hp, h => by
    unfold chkC at h
    split at h
    · rename_i x px f' fp m apos e cpos pos
      simp only [Bool.and_eq_true, decide_eq_true_eq] at h
      obtain ⟨h0, h00, h1, h2, h3, h4, h5⟩ := h
      obtain ⟨n1, n2, n3⟩ := plainNm_ok h3
      cases eq_of_beq h0
      cases eq_of_beq h00
      rw [ex]
      obtain ⟨k1, k2, _⟩ := chkP_ok (g := g) S c h5
      refine st_appF (pe_var (by rw [S.N]; exact h1) (by rw [S.sc]; exact visB_ok h2) n1 n3) k1 k2 h4 (sw_none rfl _ _ _) ?_
      rw [k2]
      rfl
    · cases h
  | .ext i none c, Γ, X, s, Wx, pr, G0, S, tk, hp, h => by
    unfold chkC at h
    split at h
    · rename_i x px m apos e cpos pos
      simp only [Bool.and_eq_true, decide_eq_true_eq] at h
      obtain ⟨⟨⟨⟨⟨h1, h2⟩, h3⟩, h4⟩, h5⟩, h6⟩ := h
      obtain ⟨n1, n2, n3⟩ := plainNm_ok h4
      cases eq_of_beq h1
      rw [ex]
      exact st_ext (pe_var (by rw [S.N]; exact h2) (by rw [S.sc]; exact visB_ok h3) n1 n3) (chkE_ok c G0 S tk h6) h5 (sw_none rfl _ _ _)
    · cases h
  | .ext _ (some _) _, Γ, X, s, Wx, pr, G0, S, tk, hp, h => absurd (show false = true from h) Bool.false_ne_true
  | .upd _ _, Γ, X, s, Wx, pr, G0, S, tk, hp, h => absurd (show false = true from h) Bool.false_ne_true
  | .whl c a, Γ, X, s, Wx, pr, G0, S, tk, hp, h => by
    unfold chkC at h
    split at h
    · obtain ⟨h1, h2⟩ := Bool.and_eq_true_iff.mp h
      rw [ex]
      exact st_whl hp.own (chkE_ok c G0 S tk h1) (chkCs_ok a (pr := pr) G0 S tk hp h2) _
    · cases h
theorem chkCs_ok : ∀ (cs : List CS) {Γ : Ct} {X : Cx} {ss : List Stmt} {Wx : WX} {pr : Nat → Bool}, Gd X g P n T → Sc X Γ → Takes X Wx → Sx X → chkCs T P cs Γ ss = true → Sts X g Wx pr ss (exs P.gam (callF P n) pr cs)
  | [], Γ, X, ss, Wx, pr, G0, S, tk, hp, h => by
    unfold chkCs at h
    cases ss with
    | nil => rw [exs]; exact sts_nil
    | cons _ _ => cases h
  | c :: cs, Γ, X, ss, Wx, pr, G0, S, tk, hp, h => by
    unfold chkCs at h
    cases ss with
    | nil => cases h
    | cons s ss =>
      obtain ⟨h1, h2⟩ := Bool.and_eq_true_iff.mp h
      have := sts_cons (chkC_ok c (pr := pr) G0 S tk hp h1) (chkCs_ok cs (pr := pr) G0 S tk hp h2)
      rw [exs]
      exact this
end
end
end Rf

namespace Rf
open PySem L2 PyProof.Rows

mutual
def chkG (T : Tb) (P : Prg) : GS → Ct → Stmt → Bool
  | .pl c, Γ, s => chkC T P c Γ s
  | .yld c, Γ, s => match s with
    | .Expr (.Yield (some e) _) _ => chkE T P c Γ e
    | _ => false
  | .forr tg c a, Γ, s => match s with
    | .For t it x [] _ => notSet it && (chkTg Γ tg t && (chkE T P c Γ it && chkGs T P a Γ x))
    | _ => false
def chkGs (T : Tb) (P : Prg) : List GS → Ct → List Stmt → Bool
  | [], _, ss => ss.isEmpty
  | c :: cs, Γ, ss => match ss with
    | s :: ss => chkG T P c Γ s && chkGs T P cs Γ ss
    | [] => false
end
section
variable {X : Cx} {g : G} {P : Prg} {n : Nat} {T : Tb} {Γ : Ct} {Wx : WX}
mutual
theorem chkG_ok (G0 : Gd X g P n T) (S : Sc X Γ) (tk : Takes X Wx) (hp : Sx X) (hco : X.env.scope.isCoroutine = false) (hi : interactive X.env = false) : ∀ (c : GS) {s : Stmt}, chkG T P c Γ s = true → L2.GS X s (tG X.K g (exG P.gam (callF P n) c))
  | .pl c, s, h => by
    unfold chkG at h
    have := gs_plT (chkC_ok c (pr := fun _ => false) G0 S tk hp h)
    rw [exG]
    exact this
  | .yld c, s, h => by
    unfold chkG at h
    split at h
    · have := fun yp pos => gs_yldT (yp := yp) (pos := pos) (chkE_ok c G0 S tk h) hco hi
      rw [exG]
      exact this _ _
    · cases h
  | .forr tg c a, s, h => by
    unfold chkG at h
    split at h
    · rename_i t it x pos
      simp only [Bool.and_eq_true] at h
      obtain ⟨h1, h2, h3, h4⟩ := h
      have := gs_forT (pos := pos) hp.own G0.nd G0.calm (chkE_ok c G0 S tk h3) (chkTg_ok S tg h2) (chkGs_ok G0 S tk hp hco hi a h4) (notSet_ok h1 _)
      rw [exG]
      exact this
    · cases h
theorem chkGs_ok (G0 : Gd X g P n T) (S : Sc X Γ) (tk : Takes X Wx) (hp : Sx X) (hco : X.env.scope.isCoroutine = false) (hi : interactive X.env = false) : ∀ (cs : List GS) {ss : List Stmt}, chkGs T P cs Γ ss = true → L2.GSs X ss (tG X.K g (exGs P.gam (callF P n) cs))
  | [], ss, h => by
    unfold chkGs at h
    cases ss with
    | nil => rw [exGs]; exact gss_nilT
    | cons _ _ => cases h
  | c :: cs, ss, h => by
    unfold chkGs at h
    cases ss with
    | nil => cases h
    | cons s ss =>
      obtain ⟨h1, h2⟩ := Bool.and_eq_true_iff.mp h
      have := gss_consT (chkG_ok G0 S tk hp hco hi c h1) (chkGs_ok G0 S tk hp hco hi cs h2)
      rw [exGs]
      exact this
end
end
/-- the scope of a generator def, checked -/
def scG (N P : List Str) (sc : Scope) : Bool :=
  isFunc sc && (!sc.isCoroutine && (sc.isGenerator && (decide N.Nodup && (decide (N.take P.length = P) && (P.all (fun x => decide (sc.names.lookup x = some .local) || decide (sc.names.lookup x = some .cell)) && sc.names.all fun y => !decide (y.2 = .free))))))
theorem gScope_by {N P : List Str} {sc : Scope} (h : scG N P sc = true) : GScope N P sc := by
  unfold scG at h
  simp only [Bool.and_eq_true, Bool.not_eq_true', decide_eq_true_eq, List.all_eq_true, Bool.or_eq_true, decide_eq_false_iff_not] at h
  obtain ⟨h1, h2, h3, h4, h5, h6, h7⟩ := h
  exact ⟨isFunc_ok h1, h2, h3, h4, h5, h6, h7⟩
theorem binds_plain {K : PySem.W.Frag} {name qual : Str} {params : Arguments} {body : List Stmt} {scope : Scope} {kV doc pm cdv ct : Value} {an : Option Addr} {ps : List Str} (e4 : PlainPar params ps) :
    Binds K (PySem.W.fnOf name qual params body scope .none kV doc pm an cdv ct) ps [] := fun s us _ hl => by
  have hl : us.length = ps.length := by simpa using hl
  have := bind_all (x := name) (qual := qual) (body := body) (scope := scope) (kV := kV) (doc := doc) (pm := pm) (an := an) (cdv := cdv) (ct := ct) (us := us) (its := []) (as := us) (kw := []) (ps := ps) (s := s) (dV := .none) e4 (.inl ⟨rfl, rfl⟩) (Nat.zero_le _) (by unfold kwOk; simp) (by
    have harr : ∀ {qs : List Str} {dv : List (Option Value)} {vs : List Value}, qs.length = vs.length → arr ([] : List (Str × Value)) qs dv vs = some vs := by
      intro qs
      induction qs with
      | nil => intro dv vs h; cases vs with
        | nil => rfl
        | cons _ _ => simp at h
      | cons p qs ih => intro dv vs h; cases vs with
        | nil => simp at h
        | cons v vs => simp only [arr, ih (dv := dv.tail) (vs := vs) (by simpa using h)]; rfl
    exact harr hl.symm)
  rw [List.append_nil]
  exact this
end Rf

namespace Rf
open PySem L2 PyProof.Rows

section
variable {K : PySem.W.Frag} {g : G} {S H S' H' : Hp} {ft ft' : Ft} {env env' : Env} {σ σ' : L2.St}
theorem Rel.nones (R : Rel K g env S σ H ft) (k : Nat) : Rel K g (env ++ List.replicate k none) S (σ ++ List.replicate k none) H ft := by
  refine ⟨R.sub, by simp [R.len], fun i w e => ?_, fun i h => ?_, R.nd, R.dj, R.out⟩
  · by_cases hi : i < env.length
    · rw [List.getElem?_append_left hi] at e
      obtain ⟨v, e1, r⟩ := R.slot i w e
      exact ⟨v, by rw [List.getElem?_append_left (by have := R.len; omega)]; exact e1, r⟩
    · rw [List.getElem?_append_right (by omega), List.getElem?_replicate] at e
      split at e <;> cases e
  · refine R.off i fun w e => h w ?_
    have hi : i < env.length := (List.getElem?_eq_some_iff.mp e).1
    rw [List.getElem?_append_left hi]; exact e
theorem outs_len (mu : List Bool) : ∀ (n : Nat) (env : Env), (outsOf mu n env).length = n := by
  intro n
  induction n generalizing mu with
  | zero => intro env; rfl
  | succ n ih => intro env; cases env <;> simp [outsOf, ih]
theorem outs_get : ∀ {n : Nat} {mu : List Bool} {env : Env} {j : Nat} {w : W}, (outsOf mu n env)[j]? = some (some w) → j < n ∧ prOf mu j = true ∧ env[j]? = some (some w)
  | 0, mu, env, j, w, h => by simp [outsOf] at h
  | n + 1, mu, env, j, w, h => by
    cases env with
    | nil =>
      unfold outsOf at h
      cases j with
      | zero => simp at h
      | succ j =>
        obtain ⟨h1, h2, h3⟩ := outs_get (n := n) (by simpa using h)
        simp at h3
    | cons o env =>
      unfold outsOf at h
      cases j with
      | zero =>
        simp only [List.getElem?_cons_zero, Option.some.injEq] at h
        cases hm : mu.headD false with
        | false => rw [hm] at h; cases h
        | true =>
          rw [hm] at h
          refine ⟨Nat.zero_lt_succ _, ?_, by simpa using h⟩
          cases mu with
          | nil => cases hm
          | cons b mu => simpa [prOf] using hm
      | succ j =>
        obtain ⟨h1, h2, h3⟩ := outs_get (n := n) (by simpa using h)
        refine ⟨by omega, ?_, by simpa using h3⟩
        cases mu with
        | nil => simp [prOf] at h2
        | cons b mu => simpa [prOf] using h2
/-- what a def gives back of its parameters -/
theorem outs_rel {mu : List Bool} {vs : List V} {N : List Str} (R : Rel K g env S σ H ft) (k : Kp (prOf mu) (L2.start N vs) σ) : ∃ ft', Rel K g (outsOf mu vs.length env) S (vs.map some) H ft' ∧ ∀ i a, a ∈ ft' i → a ∈ ft i := by
  refine ⟨fun j => if ((outsOf mu vs.length env)[j]?.join).isSome = true then ft j else [], ⟨R.sub, by rw [outs_len]; simp, fun j w e => ?_, fun j h => ?_, fun j => ?_, fun i j a n h1 h2 => ?_, fun i a h => ?_⟩, fun i a h => ?_⟩
  · obtain ⟨h1, h2, h3⟩ := outs_get e
    obtain ⟨v, e1, r⟩ := R.slot j w h3
    have hk := k j h2
    rw [e1] at hk
    unfold L2.start at hk
    rw [List.getElem?_append_left (by simpa using h1)] at hk
    exact ⟨v, hk.symm, by rw [if_pos (by rw [e]; rfl)]; exact r⟩
  · rw [if_neg]
    intro hs
    cases e : (outsOf mu vs.length env)[j]? with
    | none => rw [e] at hs; cases hs
    | some o => cases o with
      | none => rw [e] at hs; cases hs
      | some w => exact h w e
  · skip
    split
    · exact R.nd j
    · exact List.nodup_nil
  · skip
    split at h1
    · split at h2
      · exact R.dj i j a n h1 h2
      · cases h2
    · cases h1
  · skip
    split at h
    · exact R.out i a h
    · cases h
  · have h : a ∈ (if ((outsOf mu vs.length env)[i]?.join).isSome = true then ft i else []) := h
    split at h
    · exact h
    · cases h
end

structure CD where
  name : Str
  flds : List Str := []
  mts : List (Str × Nat) := []
  ini : Option Nat := none
  gms : List (Str × Nat) := []
  err : Option (Str × Nat × Str × Nat) := none      -- the field, the base's kind, the base's name, where __init__ stands
def mkP (fns : List FI) (cds : List CD) (fuel : Nat) (gens : List GI := []) (off : Nat := 0) : Prg where
  fn := fun i => fns[i]?
  meth := fun c m => (cds[c]?).bind fun q => q.mts.lookup m
  ini := fun c => (cds[c]?).bind fun q => q.ini
  exm := fun c k => (cds[c]?).bind fun a => (cds[k]?).bind fun b => if a.err.isSome && b.err.isSome then some (c == k) else none
  exf := fun c => (cds[c]?).bind fun q => q.err.map (·.1)
  gn := fun i => if off ≤ i then gens[i - off]? else none
  gm := fun c m => (cds[c]?).bind fun q => q.gms.lookup m
  fuel := fuel
/-- a def of the text, seen -/
structure DefAt (K : PySem.W.Frag) (g : G) (T : Tb) (P : Prg) (i : Nat) (fi : FI) (st : Stmt) (N : List Str) : Prop where
  lk : ∃ (x qual : Str) (oc : Value) (od : Option Addr) (dV kV doc pm : Value) (an : Option Addr) (cdv ct : Value) (osl : Array (Option Value)) (its : List Value) (vits : List V),
    K.lookup (g.fa i) = some ⟨oc, od, .func (PySem.W.fnOf x qual (defArgs st) (defBody st) (defScope st) dV kV doc pm an cdv ct), osl⟩ ∧ PySem.W.codeIn K cdv qual = true ∧
    (∀ s : Shared, K.In s.heap → DefV s dV its) ∧ Vals vits its ∧ its.length ≤ fi.sig.ps.length ∧ DfR K g fi.sig.df (List.replicate (fi.sig.ps.length - its.length) none ++ vits.map some)
  kp : PySem.W.keepIn K (.ref (g.fa i)) = true
  sc : FnScope N fi.sig.ps (defScope st)
  par : PlainPar (defArgs st) fi.sig.ps
  ns : fi.ns = N.length
  chk : chkCs T P fi.body ⟨N, defScope st, fun _ => true⟩ (defBody st) = true
/-- a generator def of the text, seen -/
structure GenAt (K : PySem.W.Frag) (g : G) (T : Tb) (P : Prg) (i : Nat) (gi : GI) (st : Stmt) (N : List Str) : Prop where
  at_ : P.gn i = some gi ∧ P.fn i = none
  lk : ∃ (x qual : Str) (oc : Value) (od : Option Addr) (kV doc pm : Value) (an : Option Addr) (cdv ct : Value) (osl : Array (Option Value)),
    K.lookup (g.fa i) = some ⟨oc, od, .func (PySem.W.fnOf x qual (defArgs st) (defBody st) (defScope st) .none kV doc pm an cdv ct), osl⟩ ∧ PySem.W.codeIn K cdv qual = true
  sc : GScope N gi.sig.ps (defScope st)
  par : PlainPar (defArgs st) gi.sig.ps
  ns : gi.ns = N.length
  chk : chkGs T P gi.body ⟨N, defScope st, fun _ => true⟩ (defBody st) = true
/-- an own error of the text, seen -/
structure ErrAt (K : PySem.W.Frag) (g : G) (mg : Str → Option Value) (c : Nat) (f : Str) : Prop where
  ex : ∃ (k : Nat) (fI : Addr) (name qual b : Str) (params : Arguments) (body : List Stmt) (scope : Scope) (kV doc pm cdv ct oc : Value) (an od : Option Addr) (osl : Array (Option Value)) (ps : List Str),
    K.lookup fI = some ⟨oc, od, .func (PySem.W.fnOf name qual params body scope .none kV doc pm an cdv ct), osl⟩ ∧ PySem.W.codeIn K cdv qual = true ∧ FnScope ps ps scope ∧ PlainPar params ps ∧ xiB b f ps scope body = true ∧ XBs K mg b k ∧
    Xc K (g.ca c) k f ∧ PySem.W.findIn K (.ref (g.ca c)) "__init__" = some (some (.ref fI)) ∧ PySem.W.typeIn K (.ref fI) = some (.type "function")
/-- what the module's names are -/
structure Mg (K : PySem.W.Frag) (g : G) (T : Tb) (P : Prg) (mg : Str → Option Value) : Prop where
  fns : ∀ x i, T.fns.lookup x = some i → mg x = some (.ref (g.fa i))
  cls : ∀ x c, T.cls.lookup x = some c → mg x = some (.ref (g.ca c))
  blts : ∀ x, T.blts.contains x = true → mg x = none
  cns : ∀ x d, T.cns.lookup x = some d → ∃ u v, mg x = some u ∧ RelV v u ∧ ∀ S : Hp, RD K g S d v
  ity : InsT K g T.cs
  itk : ∀ t, isOwnTy t = false → ∀ c ∈ T.cs, PySem.W.kitOne K (.ref (g.ca c)) (.type (tyName t)) = some false
  ito : ∀ c ∈ T.cs, (∀ t ∈ eqTys, PySem.W.kitOne K (.type t) (.ref (g.ca c)) = some false) ∧ ∀ c' ∈ T.cs, PySem.W.kitOne K (.ref (g.ca c')) (.ref (g.ca c)) = some (c == c')
  xi0 : g.xi = none
  me : ∀ c m f, P.meth c m = some f → (∃ fi, P.fn f = some fi) ∧ Meth K (g.ca c) m (g.fa f)
  eq : ∀ c f, P.meth c "__eq__" = some f → EqOk K g P c ∧ ∀ fi, P.fn f = some fi → fi.sig.ps.length = 2
  ct : ∀ c f, P.meth c "__contains__" = some f → ∀ fi, P.fn f = some fi → fi.sig.ps.length = 2
  gi : ∀ c f, P.meth c "__getitem__" = some f → ∀ fi, P.fn f = some fi → fi.sig.ps.length = 2
  ln : ∀ c f, P.meth c "__len__" = some f → ∀ fi, P.fn f = some fi → fi.sig.ps.length = 1
  mks : ∀ c i, P.ini c = some i → (∃ fi, P.fn i = some fi) ∧ Mk K (g.ca c) (g.fa i) ∧ Cls K (g.ca c)
  noat : ∀ c f, T.flds.contains (c, f) = true → NoAttr K (g.ca c) f
  err : ∀ c f, P.exf c = some f → ErrAt K g mg c f
  exm : ∀ c k b, P.exm c k = some b → PySem.W.exmOne K (.ref (g.ca c)) (.ref (g.ca k)) = some b
  defs : ∀ i fi, P.fn i = some fi → ∃ st N, DefAt K g T P i fi st N
  gens : ∀ c m f, P.gm c m = some f → (∃ gi st N, GenAt K g T P f gi st N) ∧ Meth K (g.ca c) m (g.fa f)
theorem DefAt.fi {K : PySem.W.Frag} {g : G} {T : Tb} {P : Prg} {i : Nat} {fi : FI} {st : Stmt} {N : List Str} (D : DefAt K g T P i fi st N) : PySem.W.fnIn K (g.fa i) = true := by
  obtain ⟨x, qual, oc, od, dV, kV, doc, pm, an, cdv, ct, osl, its, vits, l1, _⟩ := D.lk
  unfold PySem.W.fnIn
  rw [l1]
theorem ErrAt.ok {X : Cx} {g : G} {c : Nat} {f : Str} (E : ErrAt X.K g X.mg c f) : ErrOk X g c f := by
  obtain ⟨k, fI, name, qual, b, params, body, scope, kV, doc, pm, cdv, ct, oc, an, od, osl, ps, e1, e2, e3, e4, e5, e6, e7, e8, e9⟩ := E.ex
  refine ⟨k, fI, _, ps, e7, e8, e9, xi_fn e1 e2 e3 e5 e6, fun s us _ hl => ?_⟩
  have hl : us.length = ps.length := by simpa using hl
  have := bind_all (x := name) (qual := qual) (body := body) (scope := scope) (kV := kV) (doc := doc) (pm := pm) (an := an) (cdv := cdv) (ct := ct) (us := us) (its := []) (as := us) (kw := []) (ps := ps) (s := s) (dV := .none) e4 (.inl ⟨rfl, rfl⟩) (Nat.zero_le _) (by unfold kwOk; simp) (by
    have harr : ∀ {qs : List Str} {dv : List (Option Value)} {vs : List Value}, qs.length = vs.length → arr ([] : List (Str × Value)) qs dv vs = some vs := by
      intro qs
      induction qs with
      | nil => intro dv vs h; cases vs with
        | nil => rfl
        | cons _ _ => simp at h
      | cons p qs ih => intro dv vs h; cases vs with
        | nil => simp at h
        | cons v vs => simp only [arr, ih (dv := dv.tail) (vs := vs) (by simpa using h)]; rfl
    exact harr hl.symm)
  rw [List.append_nil]
  exact this
section
variable {K : PySem.W.Frag} {g : G} {T : Tb} {P : Prg} {mg : Str → Option Value} {Pg : Program} {w : World} {base : Heap}
/-- every def keeps its promise at level n -/
def FAll (Pg : Program) (w : World) (K : PySem.W.Frag) (g : G) (P : Prg) (mg : Str → Option Value) (base : Heap) (n : Nat) : Prop :=
  ∀ (i : Nat) (fi : FI), P.fn i = some fi → ∃ fd dv, FnG Pg w K mg base (CX Pg w) (4 * n) (g.fa i) fd fi.sig.ps (spF K g P n i) ∧ Bnd K g fd fi.sig dv ∧ ∃ oc od osl, K.lookup (g.fa i) = some ⟨oc, od, .func fd, osl⟩
def GAll (Pg : Program) (w : World) (K : PySem.W.Frag) (g : G) (T : Tb) (P : Prg) (mg : Str → Option Value) (base : Heap) (n : Nat) : Prop :=
  ∀ (i : Nat) (gi : GI) (st : Stmt) (N : List Str), GenAt K g T P i gi st N → ∃ fd, GnG Pg w K mg base (4 * n) (g.fa i) fd gi.sig.ps (spG K g P n i) ∧ Binds K fd gi.sig.ps []
theorem spG_len {n i : Nat} {gi : GI} (h : P.gn i = some gi ∧ P.fn i = none) : ∀ vs H Q, spG K g P n i vs H Q → vs.length = gi.sig.ps.length := fun vs H Q ⟨ws, S, ft, R, l, outs, e, _⟩ => by
  have hl : ws.length = vs.length := by simpa using R.len
  cases n with
  | zero => simp [callF] at e
  | succ n =>
    simp only [callF, h.2, h.1, runG] at e
    split at e
    · rename_i c; rw [← hl]; exact c.1
    · cases e
theorem gd_of {X : Cx} {n : Nat} (M : Mg X.K g T P X.mg) (hc : X.calm = true) (hn : X.N.Nodup) (hr : Rm (4 * n + 3) X.A) (ihF : FAll X.prog X.w X.K g P X.mg X.base n) (ihG : GAll X.prog X.w X.K g T P X.mg X.base n) : Gd X g P n T := by
  have fok : ∀ j fj, P.fn j = some fj → DefOk X g P n j fj := fun j fj ej =>
    ⟨ej, (ihF j fj ej).imp fun fd ⟨dv, a, b, _⟩ => ⟨dv, a, b⟩, (M.defs j fj ej).elim fun _ ⟨_, d⟩ => d.kp, (M.defs j fj ej).elim fun _ ⟨_, d⟩ => d.fi⟩
  exact ⟨hc, hn, hr, fok, M.fns, M.cls, M.blts, M.cns, M.ity, M.itk, M.ito, M.xi0, ⟨fun c m f e => let ⟨⟨fj, ej⟩, q⟩ := M.me c m f e; ⟨fj, fok f fj ej, q⟩, M.eq, M.ct, M.gi, M.ln⟩,
        fun c i e => let ⟨⟨fj, ej⟩, q⟩ := M.mks c i e; ⟨fj, fok i fj ej, q⟩, M.noat, fun c f e => (M.err c f e).ok, M.exm, fun c m f e => let ⟨⟨gj, st, N, q⟩, r⟩ := M.gens c m f e; ⟨gj, ⟨q.at_, ihG f gj st N q⟩, r⟩⟩
theorem gen_step (M : Mg K g T P mg) {n : Nat} (ihF : FAll Pg w K g P mg base n) (ihG : GAll Pg w K g T P mg base n) : GAll Pg w K g T P mg base (n + 1) := by
  intro i gi st N D
  obtain ⟨x, qual, oc, od, kV, doc, pm, an, cdv, ct, osl, l1, l2⟩ := D.lk
  refine ⟨_, gng_of (k := 4 * n + 3) l1 l2 D.sc (spG_len D.at_) (fun A outer s H vs Q pn hr h => ?_), binds_plain D.par⟩
  have G0 : Gd (gcxOf Pg w K mg base N qual (defScope st) (g.fa i) cdv A outer s H NX pn) g P n T := gd_of (X := gcxOf Pg w K mg base N qual (defScope st) (g.fa i) cdv A outer s H NX pn) M rfl D.sc.nd hr ihF ihG
  have S0 : Sc (gcxOf Pg w K mg base N qual (defScope st) (g.fa i) cdv A outer s H NX pn) ⟨N, defScope st, fun _ => true⟩ := ⟨rfl, rfl, fun _ => rfl⟩
  refine ⟨_, chkGs_ok G0 S0 takes_gcx ⟨owns_gcx, rfl, rfl⟩ D.sc.co (by show ((defScope st).kind == ScopeKind.module && _) = false; rw [D.sc.kind]; rfl) gi.body D.chk, ?_⟩
  obtain ⟨ws, S, ft, R, l, outs, e, q⟩ := h
  have hl : ws.length = vs.length := by simpa using R.len
  simp only [callF, D.at_.2, D.at_.1, runG] at e
  by_cases c : ws.length = gi.sig.ps.length ∧ ws.length ≤ gi.ns
  case neg => rw [if_neg c] at e; cases e
  rw [if_pos c] at e
  have R0 : Rel K g (ws.map some ++ List.replicate (gi.ns - ws.length) none) S (L2.start N vs) H ft := by
    have := R.nones (gi.ns - ws.length)
    unfold L2.start
    rw [← D.ns, ← hl]
    exact this
  refine ⟨_, S, ft, [], R0, RDs.nil, ?_⟩
  cases e2 : exGs P.gam (callF P n) gi.body (ws.map some ++ List.replicate (gi.ns - ws.length) none) [] with
  | none => rw [e2] at e; cases e
  | some r =>
    rw [e2] at e
    cases e
    exact fun ys σ' S' H' ft' R' st' rd => q ys S' H' _ R'.sub st' rd
theorem fn_step (M : Mg K g T P mg) {n : Nat} (ihF : FAll Pg w K g P mg base n) (ihG : GAll Pg w K g T P mg base n) : FAll Pg w K g P mg base (n + 1) := by
    intro i fi hf
    obtain ⟨st, N, D⟩ := M.defs i fi hf
    obtain ⟨x, qual, oc, od, dV, kV, doc, pm, an, cdv, ct, osl, its, vits, l1, l2, l3, l4, l5, l6⟩ := D.lk
    refine ⟨_, _, fng_of (k := 4 * n + 3) l1 l2 D.sc (spF_len hf) (fun A outer s H vs Q E hr h => ?_), ⟨⟨x, qual, defArgs st, defBody st, defScope st, dV, kV, doc, pm, an, cdv, ct, its, vits, rfl, D.par, l3, l4, l5, rfl⟩, l6⟩, ⟨oc, od, osl, l1⟩⟩
    have G0 : Gd (cxOf (CX Pg w) Pg w K mg base N qual (defScope st) (g.fa i) cdv A outer s H E) g P n T := gd_of (X := cxOf (CX Pg w) Pg w K mg base N qual (defScope st) (g.fa i) cdv A outer s H E) M rfl D.sc.nd hr ihF ihG
    have S0 : Sc (cxOf (CX Pg w) Pg w K mg base N qual (defScope st) (g.fa i) cdv A outer s H E) ⟨N, defScope st, fun _ => true⟩ := ⟨rfl, rfl, fun _ => rfl⟩
    have tk : Takes (cxOf (CX Pg w) Pg w K mg base N qual (defScope st) (g.fa i) cdv A outer s H E) (fun cls d _ H => E cls d H) := takes_of rfl rfl rfl rfl
    refine ⟨_, chkCs_ok (pr := prOf fi.sig.mu) fi.body G0 S0 tk ⟨passes_of rfl, rfl, rfl⟩ D.chk, ?_⟩
    obtain ⟨ws, S, ft, R, m⟩ := h
    have hl : ws.length = vs.length := by simpa using R.len
    simp only [callF, hf] at m
    by_cases c : ws.length = fi.sig.ps.length ∧ ws.length ≤ fi.ns
    case neg => rw [if_neg c] at m; exact m.elim
    rw [if_pos c] at m
    have R0 : Rel K g (ws.map some ++ List.replicate (fi.ns - ws.length) none) S (L2.start N vs) H ft := by
      have := R.nones (fi.ns - ws.length)
      unfold L2.start
      rw [← D.ns, ← hl]
      exact this
    refine tS_iff.mpr ⟨_, S, ft, R0, ?_⟩
    cases e : exs P.gam (callF P n) (prOf fi.sig.mu) fi.body (ws.map some ++ List.replicate (fi.ns - ws.length) none) with
    | nx env =>
      rw [e] at m
      intro σ' S' H' ft' R' st' k
      obtain ⟨ft2, R2, h2⟩ := outs_rel R' k
      rw [← hl] at R2
      obtain ⟨ft3, R3, h3⟩ := R2.pushSh (d := .non) (v := .non) rfl
      exact m .non S' H' ft3 R3 (st'.post fun a ha => let ⟨j, hj⟩ := h3 a ha; ⟨j, h2 j a hj⟩)
    | rt w' env =>
      rw [e] at m
      intro v σ' S' H' ft' R' st' k
      obtain ⟨u, eu, rw'⟩ := R'.last
      cases eu
      obtain ⟨ft2, R2, h2⟩ := outs_rel R'.drop k
      rw [← hl] at R2
      refine m v S' H' _ (R2.push rw' (R'.nd _) (fun j a ha hb => ?_) fun a ha => R'.out _ a ha) (st'.post fun a ⟨j, hj⟩ => ?_)
      · have := h2 j a hb
        unfold Ft.off at this
        split at this
        · cases this
        · rename_i q
          exact R'.dj env.length j a (Ne.symm q) ha this
      · by_cases q : j = (outsOf fi.sig.mu ws.length env).length
        · subst q; rw [Ft.put_self] at hj; exact ⟨_, hj⟩
        · rw [Ft.put_ne q] at hj; exact ⟨j, Ft.off_sub (h2 j a hj)⟩
    | exc x0 env =>
      rw [e] at m
      intro cls dx σ' S' H' ft' R' st' k rx
      obtain ⟨ft2, R2, h2⟩ := outs_rel R' k
      rw [← hl] at R2
      exact m cls dx S' H' ft2 R2 (st'.post fun a ⟨j, hj⟩ => ⟨j, h2 j a hj⟩) rx
    | bk env => rw [e] at m; exact m.elim
    | ct env => rw [e] at m; exact m.elim
    | bad => rw [e] at m; exact m.elim
theorem all_ok (M : Mg K g T P mg) : ∀ n, FAll Pg w K g P mg base n ∧ GAll Pg w K g T P mg base n
  | 0 => by
    constructor
    · intro i fi hf
      obtain ⟨st, N, D⟩ := M.defs i fi hf
      obtain ⟨x, qual, oc, od, dV, kV, doc, pm, an, cdv, ct, osl, its, vits, l1, l2, l3, l4, l5, l6⟩ := D.lk
      refine ⟨_, _, ⟨spF_len hf, fun A outer s H args us vs Q E hr e0 hb r h => ?_⟩, ⟨⟨x, qual, defArgs st, defBody st, defScope st, dV, kV, doc, pm, an, cdv, ct, its, vits, rfl, D.par, l3, l4, l5, rfl⟩, l6⟩, ⟨oc, od, osl, l1⟩⟩
      obtain ⟨ws, S, ft, R, m⟩ := h
      exact m.elim
    · intro i gi st N D
      obtain ⟨x, qual, oc, od, kV, doc, pm, an, cdv, ct, osl, l1, l2⟩ := D.lk
      refine ⟨PySem.W.fnOf x qual (defArgs st) (defBody st) (defScope st) .none kV doc pm an cdv ct, ⟨spG_len D.at_, fun A outer s H args us vs Q hr e0 hb r h => ?_⟩, binds_plain D.par⟩
      obtain ⟨ws, S, ft, R, l, outs, e, q⟩ := h
      cases e
  | n + 1 => ⟨fn_step M (all_ok M n).1 (all_ok M n).2, gen_step M (all_ok M n).1 (all_ok M n).2⟩
theorem fn_all (M : Mg K g T P mg) (n i : Nat) (fi : FI) (h : P.fn i = some fi) : ∃ fd dv, FnG Pg w K mg base (CX Pg w) (4 * n) (g.fa i) fd fi.sig.ps (spF K g P n i) ∧ Bnd K g fd fi.sig dv ∧ ∃ oc od osl, K.lookup (g.fa i) = some ⟨oc, od, .func fd, osl⟩ := (all_ok M n).1 i fi h
end
end Rf

namespace Rf
open PySem L2 PyProof.Rows
/-- a plain tree as a value of the text -/
def dv : D → He.Dv
  | .bl b => .bl b
  | .int i => .int i
  | .str s => .str s
  | _ => .non
def dvOk : D → Bool
  | .non => true
  | .bl _ => true
  | .int _ => true
  | .str _ => true
  | _ => false
section
variable {K : PySem.W.Frag} {g : G} {h : Heap} {mg : Str → Option Value}
theorem dv_ok {S : Hp} {d : D} (h : dvOk d = true) : RD K g S d ((dv d).v K) := by
  cases d <;> first | (cases h; done) | (unfold RD; rfl)
theorem dvs_ok {S : Hp} : ∀ {ds : List D}, ds.all dvOk = true → RDs K g S ds ((ds.map dv).map (He.Dv.v K))
  | [], _ => by unfold RDs; rfl
  | d :: ds, h => by
    obtain ⟨h1, h2⟩ := Bool.and_eq_true_iff.mp (show (dvOk d && ds.all dvOk) = true from h)
    exact .cons (dv_ok h1) (dvs_ok h2)
/-- defaults as the text has them: known ones, others -/
def DfM : List (Option D) → List He.Dv → Prop
  | [], [] => True
  | some d :: r, v :: s => v = dv d ∧ dvOk d = true ∧ DfM r s
  | none :: r, _ :: s => DfM r s
  | _, _ => False
theorem DfM.len : ∀ {ds : List (Option D)} {vs : List He.Dv}, DfM ds vs → ds.length = vs.length
  | [], [], _ => rfl
  | [], _ :: _, h => h.elim
  | some _ :: _, [], h => h.elim
  | none :: _, [], h => h.elim
  | some d :: r, v :: s, h => by simp [DfM.len (show DfM r s from h.2.2)]
  | none :: r, v :: s, h => by simp [DfM.len (show DfM r s from h)]
theorem dfr_some : ∀ {ds : List (Option D)} {vs : List He.Dv}, DfM ds vs → DfR K g ds ((vs.map (He.Dv.v K)).map some)
  | [], [], _ => .nil
  | [], _ :: _, h => h.elim
  | some _ :: _, [], h => h.elim
  | none :: _, [], h => h.elim
  | some d :: r, v :: s, h => by
    obtain ⟨rfl, h1, h2⟩ := h
    exact .some (fun S => dv_ok h1) (dfr_some h2)
  | none :: r, v :: s, h => .none (dfr_some (show DfM r s from h))
theorem dfr_of (n : Nat) {ds : List (Option D)} {vs : List He.Dv} (h : DfM ds vs) : DfR K g (List.replicate n none ++ ds) (List.replicate n none ++ (vs.map (He.Dv.v K)).map some) := by
  induction n with
  | zero => exact dfr_some h
  | succ n ih => exact .none ih
/-- the address of a default that is an object of its own -/
def dfAd (p : Str × Option Str) (j : Nat) (K : PySem.W.Frag) : Addr := match K.lookup (He.fAd K p) with
  | some ⟨_, _, .func fd, _⟩ => match fd.defaults with
    | .ref T => match K.lookup T with
      | some ⟨_, _, .seq its _, _⟩ => match its[j]? with
        | some (.ref a) => a
        | _ => 0
      | _ => 0
    | _ => 0
  | _ => 0

/-- a constant of the module -/
def cnB (K : PySem.W.Frag) (x : Str) : D → Bool
  | .kt l => He.eqO (PySem.W.nsIn K mainGlobals x) (some (some (.ref (He.ga K x)))) && (He.tupB K x (l.map dv) && l.all dvOk)
  | d => dvOk d && (match PySem.W.nsIn K mainGlobals x with
    | some (some u) => He.relB ((dv d).v K) u
    | _ => false)
theorem cnB_plain {x : Str} {d : D} (X : K.In h) (G0 : h.Ns mainGlobals mg) (c : (dvOk d && (match PySem.W.nsIn K mainGlobals x with
    | some (some u) => He.relB ((dv d).v K) u
    | _ => false)) = true) : ∃ u v, mg x = some u ∧ RelV v u ∧ ∀ S : Hp, RD K g S d v := by
  obtain ⟨h1, h2⟩ := Bool.and_eq_true_iff.mp c
  cases e : PySem.W.nsIn K mainGlobals x with
  | none => rw [e] at h2; cases h2
  | some o => cases o with
    | none => rw [e] at h2; cases h2
    | some u => rw [e] at h2; exact ⟨u, _, PySem.W.mg_of X G0 e, He.relB_ok h2, fun S => dv_ok h1⟩
theorem cnB_ok {x : Str} {d : D} (X : K.In h) (G0 : h.Ns mainGlobals mg) (c : cnB K x d = true) : ∃ u v, mg x = some u ∧ RelV v u ∧ ∀ S : Hp, RD K g S d v := by
  cases d with
  | kt l =>
    obtain ⟨h1, h2⟩ := Bool.and_eq_true_iff.mp (show (He.eqO (PySem.W.nsIn K mainGlobals x) (some (some (.ref (He.ga K x)))) && (He.tupB K x (l.map dv) && l.all dvOk)) = true from c)
    obtain ⟨h3, h4⟩ := Bool.and_eq_true_iff.mp h2
    refine ⟨_, .ref (He.ga K x), PySem.W.mg_of X G0 (He.eqO_ok h1), rfl, fun S => ?_⟩
    unfold RD
    exact ⟨_, _, rfl, He.tupB_ok h3 S, dvs_ok h4⟩
  | non => exact cnB_plain X G0 c
  | bl b => exact cnB_plain X G0 c
  | int b => exact cnB_plain X G0 c
  | str b => exact cnB_plain X G0 c
  | _ => cases c

/-- where the defs and the classes stand -/
def gAt (fn : List He.DefD) (cds : List CD) (K : PySem.W.Frag) : G where
  fa := fun i => match fn[i]? with
    | some d => He.fAd K d.at_
    | none => 0
  ca := fun c => match cds[c]? with
    | some q => He.ga K q.name
    | none => 0
/-- the base of an own error -/
def xbB (K : PySem.W.Frag) (b : Str) (k : Nat) : Bool :=
  match PySem.W.nsIn K mainGlobals b with
  | some (some (.ref Cb)) => decide (PySem.W.specialIn K (.ref Cb) "__getattribute__" = some (some (.builtin "type.__getattribute__"))) && (PySem.W.readsIn K Cb (.type "type") &&
    (match PySem.W.findCls K (.ref Cb) (.type "type") "__init__" with
      | some (.val v) => decide (v = .builtin (xbIni k))
      | _ => false))
  | some none => decide (bootBuiltins b = some (.type (xbN k))) &&
    (match PySem.W.findCls K (.type (xbN k)) (.type "type") "__init__" with
      | some (.val v) => decide (v = .builtin (xbIni k))
      | _ => false)
  | _ => false
theorem cls_val {o : Option PySem.W.CFound} {u : Value} (h : (match o with
      | some (.val v) => decide (v = u)
      | _ => false) = true) : o = some (.val u) := by
  split at h
  · rw [of_decide_eq_true h]
  · cases h
theorem xbB_ok {b : Str} {k : Nat} (X : K.In h) (G0 : h.Ns mainGlobals mg) (c : xbB K b k = true) : XBs K mg b k := by
  unfold xbB at c
  split at c
  · rename_i Cb e
    simp only [Bool.and_eq_true, decide_eq_true_eq] at c
    obtain ⟨c1, c2, c3⟩ := c
    exact ⟨.inl ⟨Cb, PySem.W.mg_of X G0 e, c1, c2, cls_val c3⟩⟩
  · rename_i e
    simp only [Bool.and_eq_true, decide_eq_true_eq] at c
    exact ⟨.inr ⟨PySem.W.mg_none_of X G0 e, c.1, cls_val c.2⟩⟩
  · cases c
def methB (K : PySem.W.Frag) (C : Addr) (m : Str) (f : Addr) : Bool := He.eqO (PySem.W.findIn K (.ref C) m) (some (some (.ref f))) && (PySem.W.isFn K (.ref f) && PySem.W.keepIn K (.ref f))
def clsFB (K : PySem.W.Frag) (C : Addr) : Bool := PySem.W.plainGet K C Str.empty && (PySem.W.hasDictIn K C && (PySem.W.plainOver K C && He.eqO (PySem.W.findIn K (.ref C) "__setattr__") (some (some (.builtin "object.__setattr__")))))
def mkB (K : PySem.W.Frag) (C : Addr) (f : Addr) : Bool := PySem.W.makesIn K C && (He.eqO (PySem.W.findIn K (.ref C) "__init__") (some (some (.ref f))) && (PySem.W.isFn K (.ref f) && PySem.W.keepIn K (.ref C)))
/-- what is asked of a class with an own == -/
def eqB (K : PySem.W.Frag) (g : G) (cds : List CD) (C : Addr) : Bool :=
  eqTys.all (fun t => PySem.W.notFirst K C (.type t)) && ((List.range cds.length).all (fun c => match cds[c]? with
      | some q => !(q.mts.lookup ("__eq__" : Str)).isSome || PySem.W.notFirst K C (.ref (g.ca c))
      | none => true) &&
    (decide (PySem.W.findIn K (.ref C) "__ne__" = some (some (.builtin "object.__ne__"))) && decide (PySem.W.subIn K (.ref C) (.type "object") = some true)))
/-- one class -/
def cdB (K : PySem.W.Frag) (g : G) (fn : List He.DefD) (cds : List CD) (q : CD) : Bool :=
  (q.mts.all (fun p => methB K (He.ga K q.name) p.1 (g.fa p.2)) && q.gms.all (fun p => methB K (He.ga K q.name) p.1 (g.fa p.2))) &&
  ((!(q.mts.lookup ("__eq__" : Str)).isSome || eqB K g cds (He.ga K q.name)) &&
  ((match q.ini with
    | some i => mkB K (He.ga K q.name) (g.fa i) && clsFB K (He.ga K q.name)
    | none => true) &&
  (match q.err with
    | some (f, k, b, j) => (match fn[j]? with
      | some d => xcB K (He.ga K q.name) k f && (He.eqO (PySem.W.findIn K (.ref (He.ga K q.name)) "__init__") (some (some (.ref (He.fAd K d.at_)))) && (decide (PySem.W.typeIn K (.ref (He.fAd K d.at_)) = some (.type "function")) && xbB K b k))
      | none => false)
    | none => true)))
def fasB (T : Tb) (fn : List He.DefD) (cds : List CD) (K : PySem.W.Frag) : Bool :=
  T.fns.all (fun p => He.eqO (PySem.W.nsIn K mainGlobals p.1) (some (some (.ref ((gAt fn cds K).fa p.2))))) &&
  (T.cls.all (fun p => He.eqO (PySem.W.nsIn K mainGlobals p.1) (some (some (.ref ((gAt fn cds K).ca p.2))))) &&
  (T.blts.all (fun x => He.eqO (PySem.W.nsIn K mainGlobals x) (some none)) &&
  (T.cns.all (fun p => cnB K p.1 p.2) &&
  (decide (PySem.W.specialIn K (.builtin "object.__class__") "__get__" = some (some (.builtin "getset_descriptor.__get__"))) &&
  (decide (PySem.W.takesIn K (.builtin "object.__class__") = some true) &&
  (T.cs.all (fun c => decide (PySem.W.findIn K (.ref ((gAt fn cds K).ca c)) "__class__" = some (some (.builtin "object.__class__"))) && (decide (PySem.W.mroIn K ((gAt fn cds K).ca c) (.type "object") = some true) &&
      (["int", "bool", "str", "list", "tuple", "dict"].all (fun t => decide (PySem.W.kitOne K (.ref ((gAt fn cds K).ca c)) (.type t) = some false)) &&
        (eqTys.all (fun t => decide (PySem.W.kitOne K (.type t) (.ref ((gAt fn cds K).ca c)) = some false)) &&
          T.cs.all (fun c' => decide (PySem.W.kitOne K (.ref ((gAt fn cds K).ca c')) (.ref ((gAt fn cds K).ca c)) = some (c == c'))))))) &&
  (T.flds.all (fun p => He.eqO (PySem.W.findIn K (.ref ((gAt fn cds K).ca p.1)) p.2) (some none)) &&
  (cds.all (fun q => cdB K (gAt fn cds K) fn cds q) &&
  (List.range cds.length).all (fun c => (List.range cds.length).all fun k => match (mkP [] cds 0).exm c k with
    | some b => decide (PySem.W.exmOne K (.ref ((gAt fn cds K).ca c)) (.ref ((gAt fn cds K).ca k)) = some b)
    | none => true)))))))))
def obsR (fb : PySem.W.Frag → Bool) (fn : List He.DefD) (K : PySem.W.Frag) : He.AlD := (fb K && fn.all fun d => d.ok K, fn.map fun d => He.fnW K d.at_)
def SaysR (fb : PySem.W.Frag → Bool) (fn : List He.DefD) (K : PySem.W.Frag) : Prop := obsR fb fn K = He.valD fn
/-- addresses not yet seen (m: the seen ones' bits) -/
def addB : List Addr → Nat → List Addr → List Addr × Nat
  | [], m, acc => (acc, m)
  | a :: as, m, acc => if m.testBit a then addB as m acc else addB as (m ||| (1 <<< a)) (a :: acc)
def nextB (g : Addr → Option Obj) : List Addr → List Addr
  | [] => []
  | a :: as => (match g a with
    | some o => He.refsD o
    | none => []) ++ nextB g as
/-- what the module's names lead to, n steps far -/
def asB (g : Addr → Option Obj) : Nat → List Addr → Nat → List Addr
  | 0, fr, _ => fr
  | n + 1, fr, m => match addB (nextB g fr) m [] with
    | (as, m') => fr ++ asB g n as m'
def asT (n : Nat) (g : Addr → Option Obj) : List Addr := cStatics :: asB g n [mainGlobals] (1 <<< mainGlobals)
def obsRG (n : Nat) (fb : PySem.W.Frag → Bool) (fn : List He.DefD) (g : Addr → Option Obj) : He.AlD := obsR fb fn (He.frG g (asT n g))
/-- what is looked at of the heap -/
def frT (n : Nat) (s : PySem.W.SharedT) : PySem.W.Frag := He.frG (HandSHeadRun.getT s) (asT n (HandSHeadRun.getT s))
def hookR (n : Nat) (fb : PySem.W.Frag → Bool) (fn : List He.DefD) : PySem.W.Hook where
  α := He.AlD
  obs := fun s => obsRG n fb fn s.heap.get?
  val := fun _ => He.valD fn
  says := fun _ h => ∃ K : PySem.W.Frag, K.In h ∧ SaysR fb fn K
  of := fun _ _ e => ⟨_, He.frG_in, e⟩
  keeps := fun _ _ _ ⟨K, hK, c⟩ k => ⟨K, PySem.W.Frag.In.keeps hK k, c⟩
theorem obsRG_eq {n : Nat} {fb : PySem.W.Frag → Bool} {fn : List He.DefD} {g : Addr → Option Obj} {s : Shared} (h : ∀ a, g a = s.heap.get? a) : obsRG n fb fn g = (hookR n fb fn).obs s := by
  have e : g = s.heap.get? := funext h
  rw [e] <;> rfl
variable {fb : PySem.W.Frag → Bool} {fn : List He.DefD}
theorem SaysR.facts (c : SaysR fb fn K) : fb K = true := (Bool.and_eq_true_iff.mp (show (fb K && fn.all fun d => d.ok K) = true from congrArg (fun z : He.AlD => z.1) c)).1
theorem SaysR.def_ (c : SaysR fb fn K) {i : Nat} {d : He.DefD} (h : fn[i]? = some d) : ∃ fd, FunD K d.name d.qual d.params d.body d.scope (d.dvs K) (d.kws K) (He.fAd K d.at_) fd := by
  have c2 := (Bool.and_eq_true_iff.mp (show (fb K && fn.all fun d => d.ok K) = true from congrArg (fun z : He.AlD => z.1) c)).2
  have e : fn.map (fun d => He.fnW K d.at_) = fn.map He.DefD.val := congrArg (fun z : He.AlD => z.2) c
  have e2 : (fn.map fun d => He.fnW K d.at_)[i]? = (fn.map He.DefD.val)[i]? := by rw [e]
  rw [List.getElem?_map, List.getElem?_map, h] at e2
  exact He.DefD.funD (Option.some.inj e2) (List.all_eq_true.mp c2 d (List.mem_of_getElem? h))

theorem mem_look {α β : Type} [BEq α] [LawfulBEq α] {x : α} {y : β} : ∀ {l : List (α × β)}, l.lookup x = some y → (x, y) ∈ l
  | [], h => by cases h
  | (a, b) :: l, h => by
    rw [List.lookup_cons] at h
    split at h
    · rename_i q
      cases h
      rw [eq_of_beq q]; exact List.mem_cons_self
    · exact List.mem_cons_of_mem _ (mem_look h)

/-- the text of a def, seen -/
structure DText (T : Tb) (P : Prg) (fi : FI) (d : He.DefD) (st : Stmt) (N : List Str) : Prop where
  pa : d.params = defArgs st
  bo : d.body = defBody st
  so : d.scope = defScope st
  kw : d.kwd = []
  df : ∃ ds : List (Option D), DfM ds d.dfl ∧ ds.length ≤ fi.sig.ps.length ∧ fi.sig.df = List.replicate (fi.sig.ps.length - ds.length) none ++ ds
  sc : FnScope N fi.sig.ps (defScope st)
  par : PlainPar (defArgs st) fi.sig.ps
  ns : fi.ns = N.length
  chk : chkCs T P fi.body ⟨N, defScope st, fun _ => true⟩ (defBody st) = true
/-- the text of a generator def, seen -/
structure GText (T : Tb) (P : Prg) (gi : GI) (d : He.DefD) (st : Stmt) (N : List Str) : Prop where
  pa : d.params = defArgs st
  bo : d.body = defBody st
  so : d.scope = defScope st
  kw : d.kwd = []
  df : d.dfl = []
  sc : GScope N gi.sig.ps (defScope st)
  par : PlainPar (defArgs st) gi.sig.ps
  ns : gi.ns = N.length
  chk : chkGs T P gi.body ⟨N, defScope st, fun _ => true⟩ (defBody st) = true
/-- the text of an own error's __init__, seen -/
structure XText (d : He.DefD) (b f : Str) : Prop where
  ex : ∃ ps : List Str, d.dfl = [] ∧ FnScope ps ps d.scope ∧ PlainPar d.params ps ∧ xiB b f ps d.scope d.body = true
/-- what the classes' tables must say, whatever the heap is -/
def cdsB (fns : List FI) (q : CD) : Bool :=
  q.mts.all (fun p => match fns[p.2]? with
    | some fi => (!(p.1 == "__eq__") || fi.sig.ps.length == 2) && ((!(p.1 == "__contains__") || fi.sig.ps.length == 2) && ((!(p.1 == "__getitem__") || fi.sig.ps.length == 2) && (!(p.1 == "__len__") || fi.sig.ps.length == 1)))
    | none => false) &&
  (match q.ini with
    | some i => (fns[i]?).isSome
    | none => true)
def cdsG (P : Prg) (q : CD) : Bool := q.gms.all fun p => (P.gn p.2).isSome && (P.fn p.2).isNone
theorem meth_at {fns : List FI} {cds : List CD} {k off c f : Nat} {gens : List GI} {m : Str} (e : (mkP fns cds k gens off).meth c m = some f) : ∃ q, cds[c]? = some q ∧ q.mts.lookup m = some f := Option.bind_eq_some_iff.mp e
theorem mg_says {T : Tb} {cds : List CD} {fns : List FI} {gens : List GI} {k off : Nat} (X : K.In h) (G0 : h.Ns mainGlobals mg) (c : SaysR (fasB T fn cds) fn K) (hcd : cds.all (cdsB fns) = true) (hcg : cds.all (cdsG (mkP fns cds k gens off)) = true)
    (hx : ∀ q ∈ cds, ∀ f k b j d, q.err = some (f, k, b, j) → fn[j]? = some d → XText d b f)
    (hd : ∀ (i : Nat) (fi : FI), fns[i]? = some fi → ∃ d st N, fn[i]? = some d ∧ DText T (mkP fns cds k gens off) fi d st N)
    (hgn : ∀ (i : Nat) (gi : GI), (mkP fns cds k gens off).gn i = some gi → ∃ d st N, fn[i]? = some d ∧ GText T (mkP fns cds k gens off) gi d st N) : Mg K (gAt fn cds K) T (mkP fns cds k gens off) mg := by
  have c' := c
  have f0 := c.facts
  unfold fasB at f0
  obtain ⟨f1, f0⟩ := Bool.and_eq_true_iff.mp f0
  obtain ⟨f2, f0⟩ := Bool.and_eq_true_iff.mp f0
  obtain ⟨f3, f0⟩ := Bool.and_eq_true_iff.mp f0
  obtain ⟨f4, f0⟩ := Bool.and_eq_true_iff.mp f0
  obtain ⟨f5, f0⟩ := Bool.and_eq_true_iff.mp f0
  obtain ⟨f6, f0⟩ := Bool.and_eq_true_iff.mp f0
  obtain ⟨f7, f0⟩ := Bool.and_eq_true_iff.mp f0
  obtain ⟨f8, f0⟩ := Bool.and_eq_true_iff.mp f0
  obtain ⟨f9, f10⟩ := Bool.and_eq_true_iff.mp f0
  have ins : ∀ c ∈ T.cs, PySem.W.findIn K (.ref ((gAt fn cds K).ca c)) "__class__" = some (some (.builtin "object.__class__")) ∧ PySem.W.mroIn K ((gAt fn cds K).ca c) (.type "object") = some true ∧
      (∀ t ∈ ["int", "bool", "str", "list", "tuple", "dict"], PySem.W.kitOne K (.ref ((gAt fn cds K).ca c)) (.type t) = some false) ∧ (∀ t ∈ eqTys, PySem.W.kitOne K (.type t) (.ref ((gAt fn cds K).ca c)) = some false) ∧
      ∀ c' ∈ T.cs, PySem.W.kitOne K (.ref ((gAt fn cds K).ca c')) (.ref ((gAt fn cds K).ca c)) = some (c == c') := fun c hc => by
    have z := List.all_eq_true.mp f7 c hc
    simp only [Bool.and_eq_true, decide_eq_true_eq] at z
    obtain ⟨z1, z2, z3, z4, z5⟩ := z
    exact ⟨z1, z2, fun t ht => of_decide_eq_true (List.all_eq_true.mp z3 t ht), fun t ht => of_decide_eq_true (List.all_eq_true.mp z4 t ht), fun c' h' => of_decide_eq_true (List.all_eq_true.mp z5 c' h')⟩
  have cd : ∀ {c : Nat} {q : CD}, cds[c]? = some q → (gAt fn cds K).ca c = He.ga K q.name ∧ cdB K (gAt fn cds K) fn cds q = true ∧ cdsB fns q = true ∧ q ∈ cds := fun {c q} e => by
    have hm := List.mem_of_getElem? e
    refine ⟨?_, List.all_eq_true.mp f9 q hm, List.all_eq_true.mp hcd q hm, hm⟩
    show (match cds[c]? with
      | some q => He.ga K q.name
      | none => 0) = _
    rw [e]
  have mts : ∀ {c f : Nat} {m : Str}, (mkP fns cds k gens off).meth c m = some f → ∃ q fi, cds[c]? = some q ∧ (gAt fn cds K).ca c = He.ga K q.name ∧ fns[f]? = some fi ∧ Meth K (He.ga K q.name) m ((gAt fn cds K).fa f) ∧
      (m = "__eq__" → fi.sig.ps.length = 2 ∧ eqB K (gAt fn cds K) cds (He.ga K q.name) = true) ∧ (m = "__contains__" → fi.sig.ps.length = 2) ∧ (m = "__getitem__" → fi.sig.ps.length = 2) ∧ (m = "__len__" → fi.sig.ps.length = 1) := fun {c f m} e => by
    obtain ⟨q, e1, e2⟩ := meth_at e
    obtain ⟨c1, c2, c3, c4⟩ := cd e1
    unfold cdB at c2
    unfold cdsB at c3
    obtain ⟨d01, d2⟩ := Bool.and_eq_true_iff.mp c2
    obtain ⟨d1, _⟩ := Bool.and_eq_true_iff.mp d01
    obtain ⟨d3, d4⟩ := Bool.and_eq_true_iff.mp d2
    obtain ⟨s1, s2⟩ := Bool.and_eq_true_iff.mp c3
    have hm := mem_look e2
    have m1 := List.all_eq_true.mp d1 _ hm
    have m2 := List.all_eq_true.mp s1 _ hm
    unfold methB at m1
    simp only [Bool.and_eq_true] at m1
    obtain ⟨a1, a2, a3⟩ := m1
    cases ef : fns[f]? with
    | none => simp only [ef] at m2; cases m2
    | some fi =>
      simp only [ef, Bool.and_eq_true, Bool.or_eq_true, Bool.not_eq_true', beq_eq_false_iff_ne, beq_iff_eq] at m2
      obtain ⟨b1, b2, b3, b4⟩ := m2
      refine ⟨q, fi, e1, c1, rfl, ⟨He.eqO_ok a1, a2, a3⟩, fun z => ⟨b1.resolve_left fun y => y z, ?_⟩, fun z => b2.resolve_left fun y => y z, fun z => b3.resolve_left fun y => y z, fun z => b4.resolve_left fun y => y z⟩
      subst z
      rw [e2] at d3
      simpa using d3
  refine ⟨fun x i e => PySem.W.mg_of X G0 (He.eqO_ok (List.all_eq_true.mp f1 _ (mem_look e))), fun x i e => PySem.W.mg_of X G0 (He.eqO_ok (List.all_eq_true.mp f2 _ (mem_look e))), fun x e => PySem.W.mg_none_of X G0 (He.eqO_ok (List.all_eq_true.mp f3 _ (List.contains_iff_mem.mp e))),
    fun x d e => cnB_ok X G0 (List.all_eq_true.mp f4 _ (mem_look e)), ⟨fun c hc => (ins c hc).1, of_decide_eq_true f5, of_decide_eq_true f6, fun c hc => (ins c hc).2.1⟩, fun t ht c hc => ?_, fun c hc => ⟨(ins c hc).2.2.2.1, (ins c hc).2.2.2.2⟩, rfl,
    fun c m f e => ?_, fun c f e => ?_, fun c f e => ?_, fun c f e => ?_, fun c f e => ?_, fun c i e => ?_, fun c f e => ?_, fun ci f e => ?_, fun c j b e => ?_, fun i fi e => ?_, fun c m f e => ?_⟩
  · refine (ins c hc).2.2.1 _ ?_
    cases t <;> first | (cases ht; done) | decide
  · obtain ⟨q, fi, e1, e2, e3, e4, _⟩ := mts e
    exact ⟨⟨fi, e3⟩, by rw [e2]; exact e4⟩
  · obtain ⟨q, fi, e1, e2, e3, e4, e5, _⟩ := mts e
    obtain ⟨a1, a2⟩ := e5 rfl
    refine ⟨?_, fun fj ej => by rw [show fns[f]? = some fj from ej] at e3; cases e3; exact a1⟩
    unfold eqB at a2
    simp only [Bool.and_eq_true, decide_eq_true_eq] at a2
    obtain ⟨b1, b2, b3, b4⟩ := a2
    refine ⟨fun t ht => by rw [e2]; exact List.all_eq_true.mp b1 t ht, fun c' f' e' => ?_, by rw [e2]; exact b3, by rw [e2]; exact b4⟩
    obtain ⟨q', k1, k2⟩ := meth_at e'
    have lt : c' < cds.length := (List.getElem?_eq_some_iff.mp k1).1
    have z := List.all_eq_true.mp b2 c' (List.mem_range.mpr lt)
    rw [k1] at z
    simp only [k2, Option.isSome_some, Bool.not_true, Bool.false_or] at z
    rw [e2]; exact z
  · obtain ⟨q, fi, e1, e2, e3, e4, e5, e6, e7, e8⟩ := mts e
    exact fun fj ej => by rw [show fns[f]? = some fj from ej] at e3; cases e3; exact e6 rfl
  · obtain ⟨q, fi, e1, e2, e3, e4, e5, e6, e7, e8⟩ := mts e
    exact fun fj ej => by rw [show fns[f]? = some fj from ej] at e3; cases e3; exact e7 rfl
  · obtain ⟨q, fi, e1, e2, e3, e4, e5, e6, e7, e8⟩ := mts e
    exact fun fj ej => by rw [show fns[f]? = some fj from ej] at e3; cases e3; exact e8 rfl
  · obtain ⟨q, e1, e2⟩ := Option.bind_eq_some_iff.mp (show (cds[c]?).bind (fun q => q.ini) = some i from e)
    obtain ⟨c1, c2, c3, c4⟩ := cd e1
    unfold cdB at c2
    unfold cdsB at c3
    obtain ⟨_, d2⟩ := Bool.and_eq_true_iff.mp c2
    obtain ⟨_, d4⟩ := Bool.and_eq_true_iff.mp d2
    obtain ⟨d5, _⟩ := Bool.and_eq_true_iff.mp d4
    obtain ⟨_, s2⟩ := Bool.and_eq_true_iff.mp c3
    rw [e2] at d5 s2
    simp only [mkB, clsFB, Bool.and_eq_true] at d5
    obtain ⟨⟨k1, k2, k3, k4⟩, k5, k6, k7, k8⟩ := d5
    exact ⟨Option.isSome_iff_exists.mp s2, by rw [c1]; exact ⟨k1, He.eqO_ok k2, k3, k4⟩, by rw [c1]; exact ⟨k5, k6, k7, He.eqO_ok k8⟩⟩
  · exact He.eqO_ok (List.all_eq_true.mp f8 _ (List.contains_iff_mem.mp e))
  · obtain ⟨q, e1, e2⟩ := Option.bind_eq_some_iff.mp (show (cds[ci]?).bind (fun q => q.err.map (·.1)) = some f from e)
    obtain ⟨⟨f', k', b, j⟩, e3, e4⟩ := Option.map_eq_some_iff.mp e2
    have e4 : f' = f := e4
    subst e4
    obtain ⟨c1, c2, c3, c4⟩ := cd e1
    unfold cdB at c2
    obtain ⟨_, d2⟩ := Bool.and_eq_true_iff.mp c2
    obtain ⟨_, d4⟩ := Bool.and_eq_true_iff.mp d2
    obtain ⟨_, d6⟩ := Bool.and_eq_true_iff.mp d4
    rw [e3] at d6
    simp only at d6
    cases ed : fn[j]? with
    | none => rw [ed] at d6; cases d6
    | some d =>
      rw [ed] at d6
      simp only [Bool.and_eq_true, decide_eq_true_eq] at d6
      obtain ⟨g1, g2, g3, g4⟩ := d6
      obtain ⟨ps, x1, x2, x3, x4⟩ := (hx q c4 f' k' b j d e3 ed).ex
      obtain ⟨fd, F⟩ := c.def_ ed
      obtain ⟨oc, od, dV, kV, doc, pm, an, cdv, ct, osl, y1, y2, y3, y4, y5⟩ := F.ex
      have hv : d.dvs K = [] := by unfold He.DefD.dvs; rw [x1]; rfl
      rw [y1] at y2
      have hdv : dV = .none := by
        rcases y4 with ⟨_, q2⟩ | ⟨q1, _⟩
        · exact q2
        · exact absurd hv q1
      subst hdv
      exact ⟨k', _, _, _, b, _, _, _, _, _, _, _, _, _, _, _, _, ps, y2, y3, x2, x3, x4, xbB_ok X G0 g4, by rw [c1]; exact xcB_ok g1, by rw [c1]; exact He.eqO_ok g2, g3⟩
  · have e' : (mkP [] cds 0).exm c j = some b := e
    obtain ⟨q, k1, e2⟩ := Option.bind_eq_some_iff.mp e
    obtain ⟨q', k2, _⟩ := Option.bind_eq_some_iff.mp e2
    have z := List.all_eq_true.mp (List.all_eq_true.mp f10 c (List.mem_range.mpr (List.getElem?_eq_some_iff.mp k1).1)) j (List.mem_range.mpr (List.getElem?_eq_some_iff.mp k2).1)
    rw [e'] at z
    exact of_decide_eq_true z
  · obtain ⟨d, st, N, ed, D⟩ := hd i fi e
    obtain ⟨fd, F⟩ := c.def_ ed
    refine ⟨st, N, ?_⟩
    obtain ⟨oc, od, dV, kV, doc, pm, an, cdv, ct, osl, e1, e2, e3, e4, e5⟩ := F.ex
    have ga : (gAt fn cds K).fa i = He.fAd K d.at_ := by
      show (match fn[i]? with
        | some d => He.fAd K d.at_
        | none => 0) = _
      rw [ed]
    obtain ⟨ds, d1, d3, d4⟩ := D.df
    rw [D.pa, D.bo, D.so] at e1
    rw [e1] at e2
    refine ⟨?_, by rw [ga]; exact F.kp, D.sc, D.par, D.ns, D.chk⟩
    rw [ga]
    rcases e4 with ⟨q1, q2⟩ | ⟨q1, T0, o, its, n, q2, q3, q4, q5⟩
    · have hn : d.dfl = [] := by simpa [He.DefD.dvs] using q1
      have hn2 : ds = [] := by have := d1.len; rw [hn] at this; exact List.length_eq_zero_iff.mp this
      subst hn2
      exact ⟨_, _, _, _, _, _, _, _, _, _, _, _, [], [], e2, e3, fun s _ => .inl ⟨rfl, q2⟩, .nil, Nat.zero_le _, by rw [d4]; exact dfr_of _ (vs := []) trivial⟩
    · have hl : its.length = ds.length := by
        have := q5.length
        have l2 := d1.len
        simp [He.DefD.dvs] at this
        omega
      refine ⟨_, _, _, _, _, _, _, _, _, _, _, _, its, d.dvs K, e2, e3, fun s hK => .inr ⟨T0, o, n, q2, hK _ _ q3, q4⟩, q5, by rw [hl]; exact d3, ?_⟩
      rw [d4, hl]
      exact dfr_of _ d1
  · obtain ⟨q, e1, e2⟩ := Option.bind_eq_some_iff.mp (show (cds[c]?).bind (fun q => q.gms.lookup m) = some f from e)
    obtain ⟨c1, c2, c3, c4⟩ := cd e1
    unfold cdB at c2
    have c2 := (Bool.and_eq_true_iff.mp (Bool.and_eq_true_iff.mp c2).1).2
    have hm := mem_look e2
    have m1 := List.all_eq_true.mp c2 _ hm
    have m2 := List.all_eq_true.mp (List.all_eq_true.mp hcg q c4) _ hm
    unfold methB at m1
    simp only [Bool.and_eq_true] at m1 m2
    obtain ⟨a1, a2, a3⟩ := m1
    obtain ⟨b1, b2⟩ := m2
    obtain ⟨gi, eg⟩ := Option.isSome_iff_exists.mp b1
    obtain ⟨d, st, N, ed, D⟩ := hgn f gi eg
    refine ⟨⟨gi, st, N, ⟨eg, Option.isNone_iff_eq_none.mp b2⟩, ?_, D.sc, D.par, D.ns, D.chk⟩, by rw [c1]; exact ⟨He.eqO_ok a1, a2, a3⟩⟩
    obtain ⟨fd, F⟩ := c'.def_ ed
    have ga : (gAt fn cds K).fa f = He.fAd K d.at_ := by
      show (match fn[f]? with
        | some d => He.fAd K d.at_
        | none => 0) = _
      rw [ed]
    obtain ⟨oc, od, dV, kV, doc, pm, an, cdv, ct, osl, y1, y2, y3, y4, y5⟩ := F.ex
    have hv : d.dvs K = [] := by unfold He.DefD.dvs; rw [D.df]; rfl
    have hdv : dV = .none := by
      rcases y4 with ⟨_, q2⟩ | ⟨q1, _⟩
      · exact q2
      · exact absurd hv q1
    subst hdv
    rw [D.pa, D.bo, D.so] at y1
    rw [y1] at y2
    rw [ga]
    exact ⟨_, _, _, _, _, _, _, _, _, _, _, y2, y3⟩
end
section
variable {K : PySem.W.Frag} {g : G} {P : Prg}
/-- the law's own call -/
theorem law_sp {n i : Nat} {ns : List Int} {outs : Env} (h : callF P n i [.sh (.scr ns)] = .ok (.sh (.bl true)) outs) {H : Hp} {a : Addr} (hS : SqL K H a (ns.map V.int)) :
    spF K g P n i [.ref a] H (fun v _ => v = .bl true) fun _ _ _ => False := by
  obtain ⟨ft, R, _⟩ := (Rel.nil (K := K) (g := g) (S := H) (H := H) fun _ _ e => e).pushSh (d := .scr ns) (v := .ref a) (by unfold RD; exact ⟨a, rfl, hS⟩)
  refine ⟨[.sh (.scr ns)], H, ft, R, ?_⟩
  rw [h]
  intro v S' H' ft' R' st'
  obtain ⟨u, eu, r⟩ := R'.last
  cases eu
  obtain ⟨_, r2⟩ := r
  unfold RD at r2
  exact r2
/-- the law's def, as the top has it -/
theorem law_fn {fn : List He.DefD} {fb : PySem.W.Frag → Bool} {T : Tb} {mg : Str → Option Value} {Pg : Program} {w : World} (M : Mg K g T P mg) (c : SaysR fb fn K) {n i : Nat} {fi : FI} {d : He.DefD} {x u : Str} {st : Stmt} {N : List Str}
    (hf : P.fn i = some fi) (hd : fn[i]? = some d) (hg : g.fa i = He.fAd K d.at_) (D : DText T P fi d st N) (hps : fi.sig.ps = [u]) (hdf : d.dfl = [])
    (hbind : ∀ (kV doc pm : Value) (an : Option Addr) (cdv ct v : Value), bindArgs (PySem.W.fnOf d.name d.qual d.params d.body d.scope .none kV doc pm an cdv ct) ⟨[v], []⟩ = pure [(u, v)]) :
    ∃ fd : FuncData, (∀ (s : Shared) (v : Value), BindsTo s fd ⟨[v], []⟩ [(u, v)]) ∧ ∀ base : Heap, K.In base → base.Ns mainGlobals mg → FnG Pg w K mg base (CX Pg w) (4 * n) (g.fa i) fd [u] (spF K g P n i) := by
  obtain ⟨fd, F⟩ := c.def_ hd
  obtain ⟨oc, od, dV, kV, doc, pm, an, cdv, ct, osl, e1, e2, e3, e4, e5⟩ := F.ex
  refine ⟨fd, fun s v => ?_, fun base _ _ => ?_⟩
  · have hv : d.dvs K = [] := by unfold He.DefD.dvs; rw [hdf]; rfl
    rcases e4 with ⟨_, q2⟩ | ⟨q1, _⟩
    · rw [e1, q2]; exact .of_eq (hbind ..)
    · exact absurd hv q1
  · obtain ⟨fd', dv', F1, _, oc', od', osl', lk⟩ := fn_all (Pg := Pg) (w := w) (base := base) M n i fi hf
    rw [hg, e2] at lk
    cases lk
    rw [← hps]; exact F1
/-- the law's call, from its def's promise where no repr is under way -/
theorem head_call {Pg : Program} {w : World} {mg mb : Str → Option Value} {CXw : CXT} {k : Nat} {fa a : Addr} {fd : FuncData} {x : Str} {sp : Sp} {s1 : Shared} {vs : List Value} {ns : List Int}
    (KX : K.In s1.heap) (hns : s1.heap.Ns mainGlobals mg) (hb : s1.heap.Ns builtinsNs mb) (hbb : ∀ x : Str, x ≠ "__name__" → mb x = bootBuiltins x) (hlim : s1.heap.NoLimit) (hg : s1.gens = #[])
    (ha : s1.heap.get? a = some { cls := .type "list", data := .seq vs.toArray }) (hi : IntsAre vs ns) (hl : ns.length ≤ sizeLine) (hr : Rm k callerA)
    (F : ∀ base : Heap, K.In base → base.Ns mainGlobals mg → FnG Pg w K mg base CXw k fa fd [x] sp) (hbind : ∀ (s : Shared) (u : Value), BindsTo s fd ⟨[u], []⟩ [(x, u)])
    (hsp : ∀ H : Hp, Only H → SqL K H a (ns.map V.int) → sp [.ref a] H (fun v _ => v = .bl true) fun _ _ _ => False)
    (hCX : ∀ H e s', CXw [] H s1 (fun _ _ _ => False) e s' → False) :
    codeAny (model Pg w) callerA (.call (.ref fa) ⟨[.ref a], []⟩) (fun r s' => r = .ok (.ret (.bool true)) ∧ OldK s1.heap s'.heap ∧ s'.os = s1.os ∧ AllBare s'.gens) s1 := by
  have nums := vals_ints hi
  -- what may be tracked is the script alone
  have run : ∀ H : Hp, (∀ b, H b ≠ none → b = a ∧ K.lookup a = none ∧ H b = some (.frz { cls := .type "list", data := .seq vs.toArray } (.lst (ns.map V.int)))) → SqL K H a (ns.map V.int) → HOk Pg w H s1.heap →
      codeAny (model Pg w) callerA (.call (.ref fa) ⟨[.ref a], []⟩) (fun r s' => r = .ok (.ret (.bool true)) ∧ OldK s1.heap s'.heap ∧ s'.os = s1.os ∧ AllBare s'.gens) s1 := fun H one seq hok => by
    have untr : ∀ {b : Addr} {o : Obj}, s1.heap.get? b = some o → (b = a → K.lookup a ≠ none ∨ ∃ es n, o.data = .dict es n) → H b = none := fun {b o} e z => by
      refine Classical.byContradiction fun q => ?_
      obtain ⟨e1, e2, _⟩ := one b q
      rcases z e1 with z | ⟨es, n, z⟩
      · exact z e2
      · rw [e1, ha] at e
        cases e
        have z' : Data.seq vs.toArray _ = Data.dict es n := z
        cases z'
    have keepNs : ∀ {b : Addr} {m : Str → Option Value}, s1.heap.Ns b m → (hidT s1.heap H).Ns b m := fun ⟨o, es, n, e, d, r⟩ => ⟨o, es, n, hidT_get e (untr e fun _ => .inr ⟨es, n, d⟩), d, r⟩
    have KB : K.In (hidT s1.heap H) := fun b o e => hidT_get (KX b o e) (untr (KX b o e) fun z => .inl (by rw [← z, e]; simp))
    obtain ⟨lm, l1, l2⟩ := hlim
    have env : Env0 Pg w K mg (hidT s1.heap H) callerA [] s1 H := ⟨rfl, ⟨KB, keepNs hns, ⟨mb, keepNs hb, hbb⟩, ⟨lm, keepNs l1, l2⟩⟩, fun b o e => of_hidT e, Nat.le_of_eq (hidT_size _ _), trivial, fun b z => (by cases z), hok, .of_eq hg⟩
    have only : Only H := fun b => by
      by_cases q : H b = none
      · exact .inl q
      · exact .inr ⟨_, _, (one b q).2.2⟩
    refine codeAny_mono ((F _ KB (keepNs hns)).run callerA [] s1 H ⟨[.ref a], []⟩ [.ref a] [.ref a] _ _ hr env (hbind s1 (.ref a)) (.cons (show L2.RelV (.ref a) (.ref a) from rfl) .nil) (hsp H only seq)) fun r s' q => ?_
    match r, q with
    | .error e, q => exact (hCX H e s' q).elim
    | .ok .next, q => exact q.elim
    | .ok .brk, q => exact q.elim
    | .ok .cont, q => exact q.elim
    | .ok (.ret u), ⟨v, H', os, bare, un, hok', rv, ev⟩ =>
      subst ev
      obtain rfl : u = Value.bool true := rv
      refine ⟨rfl, OldK.of_keep fun b o e => ?_, os, bare⟩
      by_cases q : H b = none
      · exact un.keep b o e q (fun z => by cases z) (fun z => by cases z)
      · obtain ⟨_, _, z⟩ := one b q
        obtain ⟨e1, _⟩ := hok b _ z
        obtain ⟨e2, _⟩ := hok' b _ (un.frzs b _ _ z)
        rw [e] at e1; cases e1
        exact e2
  have hz : (ns.map V.int).length ≤ sizeLine := by rw [List.length_map]; exact hl
  cases hk : K.lookup a with
  | some o =>
    have e := KX a o hk
    rw [ha] at e
    cases e
    exact run (fun _ => none) (fun b q => absurd rfl q) (.inr ⟨_, vs.toArray, _, hk, rfl, rfl, rfl, by rw [List.size_toArray, hi.length]; exact hl, by simpa using nums⟩) (fun b u z => by cases (show (none : Option HO) = some u from z))
  | none =>
    have at_a : (fun b => if b = a then some (HO.frz { cls := .type "list", data := .seq vs.toArray } (.lst (ns.map V.int))) else none) a = some (HO.frz { cls := .type "list", data := .seq vs.toArray } (.lst (ns.map V.int))) := if_pos rfl
    refine run (fun b => if b = a then some (.frz { cls := .type "list", data := .seq vs.toArray } (.lst (ns.map V.int))) else none) (fun b q => ?_) (.inl (.inr ⟨_, at_a⟩)) fun b u z => ?_
    · by_cases hb : b = a
      · exact ⟨hb, hk, if_pos hb⟩
      · exact absurd (if_neg hb) q
    · by_cases hb : b = a
      · subst hb
        cases (if_pos rfl).symm.trans z
        exact ⟨ha, hz, vs, _, nums, ha⟩
      · cases (if_neg hb).symm.trans z
theorem walk_ofEB {l : PySem.W.OpenLaw} {n k : Nat} {q : Program} {loose : List Str} {XP : (Str → Option Value) → Heap → Prop} {YP : World → Heap → Prop} {d : DefRec} {CX : World → CXT} {x : Str}
    (hn : l.most = some n) (hn2 : n ≤ sizeLine) (hdf : d.params.defaults = []) (hr : Rm k callerA)
    (F : ∀ (w : World) (mg : Str → Option Value) (fa : Addr) (h : Heap), YP w h → h.Ns mainGlobals mg → mg d.name = some (.ref fa) →
      ∃ (K : PySem.W.Frag) (fd : FuncData) (sp : Sp), K.In h ∧ (∀ (s : Shared) (u : Value), BindsTo s fd ⟨[u], []⟩ [(x, u)]) ∧
        (∀ (H : Hp) (a : Addr) (ns : List Int), ns.length ≤ n → (∀ z ∈ ns, Builtin.Int.intBits z ≤ 1048576) → Only H → SqL K H a (ns.map V.int) → sp [.ref a] H (fun v _ => v = .bl true) fun _ _ _ => False) ∧
        ∀ base : Heap, K.In base → base.Ns mainGlobals mg → FnG l.prog w K mg base (CX w) k fa fd [x] sp)
    (hCX : ∀ (w : World) (H : Hp) (s : Shared) (e : Value) (s' : Shared), CX w [] H s (fun _ _ _ => False) e s' → False) :
    PySem.W.WalkO q loose XP YP l.row.toRowW d [] (fun f vs => PySem.call f vs) := by
  refine Att.attach_callB hn hdf fun w s₀ s₁ mg mb fa o pm cd doc a vs ns G Y ho hd hcd hmg hobj hints hlen hbits hg => ?_
  obtain ⟨K, fd, sp, KX, hb, hsp, hF⟩ := F w mg fa _ Y G.T.g hmg
  exact head_call KX G.T.g G.T.b G.T.builtins G.T.nolimit hg hobj hints (Nat.le_trans hlen hn2) hr hF hb (fun H hO hS => hsp H a ns hlen hbits hO hS) fun H e s' => hCX w H s₁ e s'
end
end Rf

namespace Rf
namespace k29
open PySem L2 PyProof.Rows
def top (i : Nat) : Stmt := PySem.Challenge.pw_mendedpasts_k29_known_changes.main.body.getD i (.Pass ⟨0, 0, 0, 0⟩)
abbrev i_is_integer : Nat := 0
abbrev i_is_between : Nat := 1
abbrev i_is_kind : Nat := 2
abbrev i_is_moment : Nat := 3
abbrev i_is_thing : Nat := 4
abbrev i_has_word : Nat := 5
abbrev i_is_deed : Nat := 6
abbrev i_thing_of : Nat := 7
abbrev i_by_moments : Nat := 8
abbrev i_check_kind : Nat := 9
abbrev i_put_behind : Nat := 10
abbrev i_next_of : Nat := 11
abbrev i_taken_behind : Nat := 12
abbrev i_checked_beginning : Nat := 13
abbrev i_checked_deeds : Nat := 14
abbrev i_Past___init__ : Nat := 15
abbrev i_Past___len__ : Nat := 16
abbrev i_Past___contains__ : Nat := 17
abbrev i_Past___getitem__ : Nat := 18
abbrev i_Past___eq__ : Nat := 19
abbrev i_Past_deeds_told : Nat := 20
abbrev i_Past_things : Nat := 21
abbrev i_Past_has : Nat := 22
abbrev i_Past_held : Nat := 23
abbrev i_Past_answers : Nat := 24
abbrev i_Past_answer : Nat := 25
abbrev i_check_past : Nat := 26
abbrev i_is_change : Nat := 27
abbrev i_moment_changed : Nat := 28
abbrev i_reason_against : Nat := 29
abbrev i_why_not : Nat := 30
abbrev i_check_change : Nat := 31
abbrev i_gives_more : Nat := 32
abbrev i_first_spot : Nat := 33
abbrev i_more_behind : Nat := 34
abbrev i_less_behind : Nat := 35
abbrev i_turns_of : Nat := 36
abbrev i_Wander___init__ : Nat := 37
abbrev i_Wander_go_on : Nat := 38
abbrev i_Wander___len__ : Nat := 39
abbrev i_Wander___eq__ : Nat := 40
abbrev i_Wander_spot_at : Nat := 41
abbrev i_Wander_extra : Nat := 42
abbrev i_Wander_held : Nat := 43
abbrev i_Wander_answer : Nat := 44
abbrev i_chain : Nat := 45
abbrev i_left : Nat := 46
abbrev i_healed_at : Nat := 47
abbrev i_check_least : Nat := 48
abbrev i_greatest_behind : Nat := 49
abbrev i_stays_from : Nat := 50
abbrev i_least_held : Nat := 51
abbrev i_least_left : Nat := 52
abbrev i_check_least_change : Nat := 53
abbrev i_end_behind : Nat := 54
abbrev i_check_thing : Nat := 55
abbrev i_stretch_for : Nat := 56
abbrev i_bounds : Nat := 57
abbrev i_check_value : Nat := 58
abbrev i_worth_of : Nat := 59
abbrev i_sums : Nat := 60
abbrev i_number_up_to : Nat := 61
abbrev i_count : Nat := 62
abbrev i__law_right : Nat := 63
abbrev i__law_five : Nat := 64
abbrev i_law : Nat := 65
abbrev i_Past_rows : Nat := 74
abbrev c_Past : Nat := 0
abbrev c_Wander : Nat := 1
abbrev c_BadKind : Nat := 2
abbrev c_BadBeginning : Nat := 3
abbrev c_BadDeed : Nat := 4
abbrev c_BadMoment : Nat := 5
abbrev c_BadThing : Nat := 6
abbrev c_BadChange : Nat := 7
abbrev c_BadPart : Nat := 8
abbrev c_TooMany : Nat := 9
abbrev tcs : List Nat := [c_Past, c_Wander]
abbrev st_is_integer : Stmt := top 4
def b_is_integer : List CS := [(.ret (.and [(.op (.inst tcs [.int]) [(.var 0)]), (.not (.op (.inst tcs [.bool]) [(.var 0)]))]))]
def f_is_integer : FI := ⟨⟨["value"], [none], [false]⟩, 1, b_is_integer⟩
abbrev st_is_between : Stmt := top 5
def b_is_between : List CS := [(.ret (.and [(.call i_is_integer [(.var 0)] [] []), (.chain .le .le (.var 1) (.var 0) (.var 2))]))]
def f_is_between : FI := ⟨⟨["value", "least", "most"], [none, none, none], [false, false, false]⟩, 3, b_is_between⟩
abbrev st_is_kind : Stmt := top 6
def b_is_kind : List CS := [(.ret (.and [(.op (.inst tcs [.str]) [(.var 0)]), (.op .isin [(.var 0), (.cst (.kt [(.str "least"), (.str "line"), (.str "pile")]))])]))]
def f_is_kind : FI := ⟨⟨["value"], [none], [false]⟩, 1, b_is_kind⟩
abbrev st_is_moment : Stmt := top 7
def b_is_moment : List CS := [(.ret (.call i_is_between [(.var 0), (.cst (.int 1)), (.cst (.int 9999))] [] []))]
def f_is_moment : FI := ⟨⟨["value"], [none], [false]⟩, 1, b_is_moment⟩
abbrev st_is_thing : Stmt := top 8
def b_is_thing : List CS := [(.ret (.call i_is_between [(.var 0), (.cst (.int 1)), (.cst (.int 9999))] [] []))]
def f_is_thing : FI := ⟨⟨["value"], [none], [false]⟩, 1, b_is_thing⟩
abbrev st_has_word : Stmt := top 9
def b_has_word : List CS := [(.ret (.and [(.op (.inst tcs [.tuple]) [(.var 0)]), (.op .eq [(.op .len [(.var 0)]), (.var 3)]), (.op (.inst tcs [.str]) [(.op .idx [(.var 0), (.var 1)])]), (.op .eq [(.op .idx [(.var 0), (.var 1)]), (.var 2)])]))]
def f_has_word : FI := ⟨⟨["value", "place", "word", "many"], [none, none, none, none], [false, false, false, false]⟩, 4, b_has_word⟩
abbrev st_is_deed : Stmt := top 10
def b_is_deed : List CS := [(.iff (.call i_has_word [(.var 0), (.cst (.int 1)), (.cst (.str "put")), (.cst (.int 3))] [] []) [(.ret (.and [(.call i_is_moment [(.op .idx [(.var 0), (.cst (.int 0))])] [] []), (.call i_is_thing [(.op .idx [(.var 0), (.cst (.int 2))])] [] [])]))] []), (.ret (.and [(.call i_has_word [(.var 0), (.cst (.int 1)), (.cst (.str "take")), (.cst (.int 2))] [] []), (.call i_is_moment [(.op .idx [(.var 0), (.cst (.int 0))])] [] [])]))]
def f_is_deed : FI := ⟨⟨["value"], [none], [false]⟩, 1, b_is_deed⟩
abbrev st_thing_of : Stmt := top 11
def b_thing_of : List CS := [(.ret (.ite (.op .eq [(.op .idx [(.var 0), (.cst (.int 1))]), (.cst (.str "put"))]) (.op .idx [(.var 0), (.cst (.int 2))]) (.cst .non)))]
def f_thing_of : FI := ⟨⟨["deed"], [none], [false]⟩, 1, b_thing_of⟩
abbrev st_by_moments : Stmt := top 12
def b_by_moments : List CS := [(.asg false 1 (.dc [2] (.op .idx [(.var 2), (.cst (.int 0))]) (.var 2) (.name 2) .val [(.var 0)] [])), (.ret (.lc [3] (.op .idx [(.var 1), (.var 3)]) (.name 3) .val [(.op .sorted [(.lc [3] (.op .int [(.var 3)]) (.name 3) .val [(.var 1)] [])])] []))]
def f_by_moments : FI := ⟨⟨["deeds"], [none], [false]⟩, 4, b_by_moments⟩
abbrev st_check_kind : Stmt := top 24
def b_check_kind : List CS := [(.iff (.not (.call i_is_kind [(.var 0)] [] [])) [(.rais c_BadKind "kind" (.var 0))] [])]
def f_check_kind : FI := ⟨⟨["kind"], [none], [false]⟩, 1, b_check_kind⟩
abbrev st_put_behind : Stmt := top 25
def b_put_behind : List CS := [(.expr (.call i_check_kind [(.var 0)] [] [])), (.iff (.op .ne [(.var 0), (.cst (.str "least"))]) [(.ret (.tup [(.star (.var 1)), (.var 2)]))] []), (.asg false 3 (.lc [4] (.var 4) (.name 4) .val [(.var 1)] [(.op .lt [(.var 4), (.var 2)])])), (.ret (.tup [(.star (.var 3)), (.var 2), (.star (.slc (.var 1) [(.op .len [(.var 3)])] []))]))]
def f_put_behind : FI := ⟨⟨["kind", "within", "thing"], [none, none, none], [false, false, false]⟩, 5, b_put_behind⟩
abbrev st_next_of : Stmt := top 26
def b_next_of : List CS := [(.expr (.call i_check_kind [(.var 0)] [] [])), (.iff (.op .eq [(.var 1), (.tup [])]) [(.ret (.cst .non))] []), (.ret (.ite (.op .eq [(.var 0), (.cst (.str "pile"))]) (.op .idx [(.var 1), (.op .neg [(.cst (.int 1))])]) (.op .idx [(.var 1), (.cst (.int 0))])))]
def f_next_of : FI := ⟨⟨["kind", "within"], [none, none], [false, false]⟩, 2, b_next_of⟩
abbrev st_taken_behind : Stmt := top 27
def b_taken_behind : List CS := [(.asg false 2 (.call i_next_of [(.var 0), (.var 1)] [] [])), (.iff (.op .«is» [(.var 2), (.cst .non)]) [(.ret (.tup [(.cst .non), (.var 1)]))] []), (.ret (.tup [(.var 2), (.ite (.op .eq [(.var 0), (.cst (.str "pile"))]) (.slc (.var 1) [] [(.op .neg [(.cst (.int 1))])]) (.slc (.var 1) [(.cst (.int 1))] []))]))]
def f_taken_behind : FI := ⟨⟨["kind", "within"], [none, none], [false, false]⟩, 3, b_taken_behind⟩
abbrev st_checked_beginning : Stmt := top 31
def b_checked_beginning : List CS := [(.iff (.not (.op (.inst tcs [.list, .tuple]) [(.var 1)])) [(.rais c_BadBeginning "index" (.cst .non))] []), (.asg true 2 (.dct false [] [])), (.forr (.tup [(.name 3), (.name 4)]) .enum [(.var 1)] [(.iff (.or [(.not (.call i_is_thing [(.var 4)] [] [])), (.op .isin [(.var 4), (.var 2)])]) [(.rais c_BadBeginning "index" (.var 3))] []), (.seti 2 (.var 4) (.cst (.bl true)))]), (.iff (.op .gt [(.op .len [(.var 1)]), (.cst (.int 400))]) [(.rais c_TooMany "limit" (.cst (.int 400)))] []), (.ret (.ite (.op .eq [(.var 0), (.cst (.str "least"))]) (.op .tuple [(.op .sorted [(.lc [4] (.op .int [(.var 4)]) (.name 4) .val [(.var 1)] [])])]) (.op .tuple [(.var 1)])))]
def f_checked_beginning : FI := ⟨⟨["kind", "beginning"], [none, none], [false, false]⟩, 5, b_checked_beginning⟩
abbrev st_checked_deeds : Stmt := top 32
def b_checked_deeds : List CS := [(.iff (.not (.op (.inst tcs [.list, .tuple]) [(.var 1)])) [(.rais c_BadDeed "index" (.cst .non))] []), (.par [(true, 3), (true, 4)] [(.dct false [] []), (.dct false [] [])]), (.forr (.name 2) .val [(.var 0)] [(.seti 3 (.var 2) (.cst (.bl true)))]), (.forr (.tup [(.name 5), (.name 6)]) .enum [(.var 1)] [(.iff (.or [(.not (.call i_is_deed [(.var 6)] [] [])), (.op .isin [(.op .idx [(.var 6), (.cst (.int 0))]), (.var 4)]), (.op .isin [(.call i_thing_of [(.var 6)] [] []), (.var 3)])]) [(.rais c_BadDeed "index" (.var 5))] []), (.seti 4 (.op .idx [(.var 6), (.cst (.int 0))]) (.var 6)), (.iff (.op .isnot [(.call i_thing_of [(.var 6)] [] []), (.cst .non)]) [(.seti 3 (.call i_thing_of [(.var 6)] [] []) (.cst (.bl true)))] [])]), (.iff (.op .gt [(.op .len [(.var 1)]), (.cst (.int 200))]) [(.rais c_TooMany "limit" (.cst (.int 200)))] []), (.ret (.dc [6] (.op .idx [(.var 6), (.cst (.int 0))]) (.var 6) (.name 6) .val [(.call i_by_moments [(.var 1)] [] [])] []))]
def f_checked_deeds : FI := ⟨⟨["beginning", "deeds"], [none, none], [false, false]⟩, 7, b_checked_deeds⟩
abbrev st_Past___init__ : Stmt := (C8.clsBody (top 33)).getD 0 (.Pass ⟨0, 0, 0, 0⟩)
def b_Past___init__ : List CS := [(.expr (.call i_check_kind [(.var 1)] [] [])), (.setf false 0 c_Past "kind" (.var 1)), (.setf false 0 c_Past "beginning" (.call i_checked_beginning [(.var 1), (.var 2)] [] [])), (.setf false 0 c_Past "by_moment" (.call i_checked_deeds [(.fld (.var 0) "beginning"), (.var 3)] [] []))]
def f_Past___init__ : FI := ⟨⟨["self", "kind", "beginning", "deeds"], [none, none, none, none], [true, false, false, false]⟩, 4, b_Past___init__⟩
abbrev st_Past___len__ : Stmt := (C8.clsBody (top 33)).getD 2 (.Pass ⟨0, 0, 0, 0⟩)
def b_Past___len__ : List CS := [(.ret (.op .len [(.fld (.var 0) "by_moment")]))]
def f_Past___len__ : FI := ⟨⟨["self"], [none], [false]⟩, 1, b_Past___len__⟩
abbrev st_Past___contains__ : Stmt := (C8.clsBody (top 33)).getD 3 (.Pass ⟨0, 0, 0, 0⟩)
def b_Past___contains__ : List CS := [(.ret (.and [(.call i_is_between [(.var 1), (.cst (.int 1)), (.cst (.int 9999))] [] []), (.op .isin [(.var 1), (.fld (.var 0) "by_moment")])]))]
def f_Past___contains__ : FI := ⟨⟨["self", "moment"], [none, none], [false, false]⟩, 2, b_Past___contains__⟩
abbrev st_Past___getitem__ : Stmt := (C8.clsBody (top 33)).getD 4 (.Pass ⟨0, 0, 0, 0⟩)
def b_Past___getitem__ : List CS := [(.iff (.or [(.not (.call i_is_between [(.var 1), (.cst (.int 1)), (.cst (.int 9999))] [] [])), (.op .notin [(.var 1), (.fld (.var 0) "by_moment")])]) [(.rais c_BadMoment "moment" (.var 1))] []), (.ret (.op .idx [(.fld (.var 0) "by_moment"), (.var 1)]))]
def f_Past___getitem__ : FI := ⟨⟨["self", "moment"], [none, none], [false, false]⟩, 2, b_Past___getitem__⟩
abbrev st_Past___eq__ : Stmt := (C8.clsBody (top 33)).getD 5 (.Pass ⟨0, 0, 0, 0⟩)
def b_Past___eq__ : List CS := [(.iff (.or [(.not (.op (.inst tcs [.own c_Past]) [(.var 1)])), (.op .ne [(.fld (.var 0) "kind"), (.fld (.var 1) "kind")])]) [(.ret (.cst (.bl false)))] []), (.ret (.and [(.op .eq [(.fld (.var 0) "beginning"), (.fld (.var 1) "beginning")]), (.op .eq [(.fld (.var 0) "by_moment"), (.fld (.var 1) "by_moment")])]))]
def f_Past___eq__ : FI := ⟨⟨["self", "other"], [none, none], [false, false]⟩, 2, b_Past___eq__⟩
abbrev st_Past_deeds_told : Stmt := (C8.clsBody (top 33)).getD 6 (.Pass ⟨0, 0, 0, 0⟩)
def b_Past_deeds_told : List CS := [(.ret (.lc [1] (.op .idx [(.fld (.var 0) "by_moment"), (.var 1)]) (.name 1) .val [(.fld (.var 0) "by_moment")] []))]
def f_Past_deeds_told : FI := ⟨⟨["self"], [none], [false]⟩, 2, b_Past_deeds_told⟩
abbrev st_Past_things : Stmt := (C8.clsBody (top 33)).getD 8 (.Pass ⟨0, 0, 0, 0⟩)
def b_Past_things : List CS := [(.asg false 1 (.lc [2] (.call i_thing_of [(.var 2)] [] []) (.name 2) .val [(.meth "deeds_told" (.var 0) [] [] [])] [(.op .isnot [(.call i_thing_of [(.var 2)] [] []), (.cst .non)])])), (.ret (.op .sorted [(.lc [3] (.op .int [(.var 3)]) (.name 3) .val [(.lst [(.star (.fld (.var 0) "beginning")), (.star (.var 1))])] [])]))]
def f_Past_things : FI := ⟨⟨["self"], [none], [false]⟩, 4, b_Past_things⟩
abbrev st_Past_has : Stmt := (C8.clsBody (top 33)).getD 9 (.Pass ⟨0, 0, 0, 0⟩)
def b_Past_has : List CS := [(.ret (.and [(.call i_is_thing [(.var 1)] [] []), (.op .isin [(.var 1), (.meth "things" (.var 0) [] [] [])])]))]
def f_Past_has : FI := ⟨⟨["self", "thing"], [none, none], [false, false]⟩, 2, b_Past_has⟩
abbrev st_Past_held : Stmt := (C8.clsBody (top 33)).getD 11 (.Pass ⟨0, 0, 0, 0⟩)
def b_Past_held : List CS := [(.iff (.not (.call i_is_between [(.var 1), (.cst (.int 0)), (.cst (.int 9999))] [] [])) [(.rais c_BadMoment "moment" (.var 1))] []), (.asg false 2 (.fld (.var 0) "beginning")), (.forr (.tup [(.name 3), (.name 4), (.name 5)]) .val [(.gen "rows" (.var 0))] [(.iff (.op .le [(.op .idx [(.var 3), (.cst (.int 0))]), (.var 1)]) [(.asg false 2 (.var 5))] [])]), (.ret (.var 2))]
def f_Past_held : FI := ⟨⟨["self", "moment"], [none, some (.int 9999)], [false, false]⟩, 6, b_Past_held⟩
abbrev st_Past_answers : Stmt := (C8.clsBody (top 33)).getD 12 (.Pass ⟨0, 0, 0, 0⟩)
def b_Past_answers : List CS := [(.ret (.lc [1, 2, 3] (.tup [(.op .idx [(.var 1), (.cst (.int 0))]), (.var 2)]) (.tup [(.name 1), (.name 2), (.name 3)]) .val [(.gen "rows" (.var 0))] [(.op .eq [(.op .idx [(.var 1), (.cst (.int 1))]), (.cst (.str "take"))])]))]
def f_Past_answers : FI := ⟨⟨["self"], [none], [false]⟩, 4, b_Past_answers⟩
abbrev st_Past_answer : Stmt := (C8.clsBody (top 33)).getD 13 (.Pass ⟨0, 0, 0, 0⟩)
def b_Past_answer : List CS := [(.iff (.or [(.op .notin [(.var 1), (.var 0)]), (.op .ne [(.op .idx [(.op .idx [(.var 0), (.var 1)]), (.cst (.int 1))]), (.cst (.str "take"))])]) [(.rais c_BadMoment "moment" (.var 1))] []), (.forr (.tup [(.name 2), (.name 3)]) .val [(.meth "answers" (.var 0) [] [] [])] [(.iff (.op .eq [(.var 2), (.var 1)]) [(.ret (.var 3))] [])]), (.ret (.cst .non))]
def f_Past_answer : FI := ⟨⟨["self", "moment"], [none, none], [false, false]⟩, 4, b_Past_answer⟩
abbrev st_check_past : Stmt := top 35
def b_check_past : List CS := [(.iff (.not (.op (.inst tcs [.own c_Past]) [(.var 0)])) [(.rais c_BadPart "part" (.cst (.str "past")))] [])]
def f_check_past : FI := ⟨⟨["past"], [none], [false]⟩, 1, b_check_past⟩
abbrev st_is_change : Stmt := top 36
def b_is_change : List CS := [(.iff (.call i_has_word [(.var 0), (.cst (.int 0)), (.cst (.str "put in")), (.cst (.int 2))] [] []) [(.ret (.call i_is_deed [(.op .idx [(.var 0), (.cst (.int 1))])] [] []))] []), (.ret (.and [(.call i_has_word [(.var 0), (.cst (.int 0)), (.cst (.str "strike")), (.cst (.int 2))] [] []), (.call i_is_moment [(.op .idx [(.var 0), (.cst (.int 1))])] [] [])]))]
def f_is_change : FI := ⟨⟨["value"], [none], [false]⟩, 1, b_is_change⟩
abbrev st_moment_changed : Stmt := top 37
def b_moment_changed : List CS := [(.ret (.ite (.op .eq [(.op .idx [(.var 0), (.cst (.int 0))]), (.cst (.str "put in"))]) (.op .idx [(.op .idx [(.var 0), (.cst (.int 1))]), (.cst (.int 0))]) (.op .idx [(.var 0), (.cst (.int 1))])))]
def f_moment_changed : FI := ⟨⟨["change"], [none], [false]⟩, 1, b_moment_changed⟩
abbrev st_reason_against : Stmt := top 38
def b_reason_against : List CS := [(.iff (.op .eq [(.op .idx [(.var 1), (.cst (.int 0))]), (.cst (.str "strike"))]) [(.ret (.ite (.op .isin [(.op .idx [(.var 1), (.cst (.int 1))]), (.var 0)]) (.cst .non) (.cst (.str "moment"))))] []), (.iff (.op .isin [(.op .idx [(.op .idx [(.var 1), (.cst (.int 1))]), (.cst (.int 0))]), (.var 0)]) [(.ret (.cst (.str "moment")))] []), (.iff (.and [(.op .isnot [(.call i_thing_of [(.op .idx [(.var 1), (.cst (.int 1))])] [] []), (.cst .non)]), (.meth "has" (.var 0) [(.call i_thing_of [(.op .idx [(.var 1), (.cst (.int 1))])] [] [])] [] [])]) [(.ret (.cst (.str "thing")))] []), (.ret (.ite (.op .ge [(.op .len [(.var 0)]), (.cst (.int 200))]) (.cst (.str "many")) (.cst .non)))]
def f_reason_against : FI := ⟨⟨["past", "change"], [none, none], [false, false]⟩, 2, b_reason_against⟩
abbrev st_why_not : Stmt := top 39
def b_why_not : List CS := [(.expr (.call i_check_past [(.var 0)] [] [])), (.iff (.not (.call i_is_change [(.var 1)] [] [])) [(.rais c_BadChange "change" (.var 1))] []), (.ret (.call i_reason_against [(.var 0), (.var 1)] [] []))]
def f_why_not : FI := ⟨⟨["past", "change"], [none, none], [false, false]⟩, 2, b_why_not⟩
abbrev st_check_change : Stmt := top 40
def b_check_change : List CS := [(.iff (.op .isnot [(.call i_why_not [(.var 0), (.var 1)] [] []), (.cst .non)]) [(.rais c_BadChange "change" (.var 1))] [])]
def f_check_change : FI := ⟨⟨["past", "change"], [none, none], [false, false]⟩, 2, b_check_change⟩
abbrev st_gives_more : Stmt := top 42
def b_gives_more : List CS := [(.iff (.op .eq [(.op .idx [(.var 1), (.cst (.int 0))]), (.cst (.str "put in"))]) [(.ret (.op .eq [(.op .idx [(.op .idx [(.var 1), (.cst (.int 1))]), (.cst (.int 1))]), (.cst (.str "put"))]))] []), (.ret (.op .eq [(.op .idx [(.op .idx [(.var 0), (.op .idx [(.var 1), (.cst (.int 1))])]), (.cst (.int 1))]), (.cst (.str "take"))]))]
def f_gives_more : FI := ⟨⟨["past", "change"], [none, none], [false, false]⟩, 2, b_gives_more⟩
abbrev st_first_spot : Stmt := top 43
def b_first_spot : List CS := [(.asg false 2 (.call i_moment_changed [(.var 1)] [] [])), (.iff (.op .eq [(.op .idx [(.var 1), (.cst (.int 0))]), (.cst (.str "strike"))]) [(.asg false 3 (.op .idx [(.var 0), (.var 2)])), (.ret (.tup [(.ite (.op .eq [(.op .idx [(.var 3), (.cst (.int 1))]), (.cst (.str "take"))]) (.meth "answer" (.var 0) [(.var 2)] [] []) (.op .idx [(.var 3), (.cst (.int 2))])), (.cst (.int 0))]))] []), (.iff (.op .eq [(.op .idx [(.op .idx [(.var 1), (.cst (.int 1))]), (.cst (.int 1))]), (.cst (.str "take"))]) [(.ret (.tup [(.call i_next_of [(.fld (.var 0) "kind"), (.meth "held" (.var 0) [(.var 2)] [] [])] [] []), (.cst (.int 0))]))] []), (.ret (.tup [(.op .idx [(.op .idx [(.var 1), (.cst (.int 1))]), (.cst (.int 2))]), (.ite (.op .eq [(.fld (.var 0) "kind"), (.cst (.str "line"))]) (.op .len [(.meth "held" (.var 0) [(.var 2)] [] [])]) (.cst (.int 0)))]))]
def f_first_spot : FI := ⟨⟨["past", "change"], [none, none], [false, false]⟩, 4, b_first_spot⟩
abbrev st_more_behind : Stmt := top 44
def b_more_behind : List CS := [(.asgT (.tup [(.name 4), (.name 5)]) (.var 1)), (.iff (.op .eq [(.op .idx [(.var 2), (.cst (.int 1))]), (.cst (.str "put"))]) [(.ret (.tup [(.var 4), (.op .add [(.var 5), (.op .int [(.op .eq [(.var 0), (.cst (.str "pile"))])])])]))] []), (.iff (.op .«is» [(.var 3), (.cst .non)]) [(.ret (.tup [(.cst .non), (.cst (.int 0))]))] []), (.iff (.op .eq [(.var 0), (.cst (.str "least"))]) [(.ret (.tup [(.op .max2 [(.op .int [(.var 4)]), (.op .int [(.var 3)])]), (.cst (.int 0))]))] []), (.ret (.ite (.op .gt [(.var 5), (.cst (.int 0))]) (.tup [(.var 4), (.op .sub [(.var 5), (.cst (.int 1))])]) (.tup [(.var 3), (.cst (.int 0))])))]
def f_more_behind : FI := ⟨⟨["kind", "spot", "deed", "answer"], [none, none, none, none], [false, false, false, false]⟩, 6, b_more_behind⟩
abbrev st_less_behind : Stmt := top 45
def b_less_behind : List CS := [(.iff (.or [(.op .eq [(.op .idx [(.var 2), (.cst (.int 1))]), (.cst (.str "put"))]), (.op .ne [(.var 3), (.op .idx [(.var 1), (.cst (.int 0))])])]) [(.ret (.var 1))] []), (.ret (.tup [(.call i_next_of [(.var 0), (.var 4)] [] []), (.cst (.int 0))]))]
def f_less_behind : FI := ⟨⟨["kind", "spot", "deed", "answer", "within"], [none, none, none, none, none], [false, false, false, false, false]⟩, 5, b_less_behind⟩
abbrev st_turns_of : Stmt := top 46
def b_turns_of : List CS := [(.par [(false, 1), (true, 2)] [(.cst .non), (.lst [])]), (.forr (.tup [(.name 3), (.name 4)]) .val [(.var 0)] [(.iff (.op .ne [(.op .idx [(.var 4), (.cst (.int 0))]), (.var 1)]) [(.app 2 none (.tup [(.var 3), (.op .idx [(.var 4), (.cst (.int 0))])]))] []), (.asg false 1 (.op .idx [(.var 4), (.cst (.int 0))]))]), (.ret (.var 2))]
def f_turns_of : FI := ⟨⟨["spots"], [none], [false]⟩, 5, b_turns_of⟩
abbrev st_Wander___init__ : Stmt := (C8.clsBody (top 47)).getD 0 (.Pass ⟨0, 0, 0, 0⟩)
def b_Wander___init__ : List CS := [(.expr (.call i_check_change [(.var 1), (.var 2)] [] [])), (.setf false 0 c_Wander "old" (.var 1)), (.setf false 0 c_Wander "told" (.var 2)), (.setf false 0 c_Wander "is_one_more" (.call i_gives_more [(.var 1), (.var 2)] [] [])), (.setf true 0 c_Wander "spots" (.lst [(.tup [(.call i_moment_changed [(.var 2)] [] []), (.call i_first_spot [(.var 1), (.var 2)] [] [])])])), (.setf true 0 c_Wander "links" (.lst [])), (.forr (.tup [(.name 3), (.name 4), (.name 5)]) .val [(.gen "rows" (.var 1))] [(.iff (.and [(.op .gt [(.op .idx [(.var 3), (.cst (.int 0))]), (.pure (.op .idx [(.op .idx [(.fld (.var 0) "spots"), (.cst (.int 0))]), (.cst (.int 0))]))]), (.op .isnot [(.pure (.op .idx [(.op .idx [(.op .idx [(.fld (.var 0) "spots"), (.cst (.int (-1)))]), (.cst (.int 1))]), (.cst (.int 0))])), (.cst .non)])]) [(.expr (.meth "go_on" (.var 0) [(.var 3), (.var 4), (.var 5)] [] []))] [])]), (.setf false 0 c_Wander "turns" (.call i_turns_of [(.fld (.var 0) "spots")] [] []))]
def f_Wander___init__ : FI := ⟨⟨["self", "past", "change"], [none, none, none], [true, false, false]⟩, 6, b_Wander___init__⟩
abbrev st_Wander_go_on : Stmt := (C8.clsBody (top 47)).getD 1 (.Pass ⟨0, 0, 0, 0⟩)
def b_Wander_go_on : List CS := [(.par [(false, 4), (false, 5)] [(.pure (.op .idx [(.op .idx [(.fld (.var 0) "spots"), (.cst (.int (-1)))]), (.cst (.int 1))])), (.fld (.fld (.var 0) "old") "kind")]), (.iff (.fld (.var 0) "is_one_more") [(.asg false 6 (.call i_more_behind [(.var 5), (.var 4), (.var 1), (.var 2)] [] []))] [(.asg false 6 (.call i_less_behind [(.var 5), (.var 4), (.var 1), (.var 2), (.var 3)] [] []))]), (.iff (.op .ne [(.op .idx [(.var 6), (.cst (.int 0))]), (.op .idx [(.var 4), (.cst (.int 0))])]) [(.app 0 (some "links") (.tup [(.op .idx [(.var 1), (.cst (.int 0))]), (.var 2), (.ite (.fld (.var 0) "is_one_more") (.op .idx [(.var 4), (.cst (.int 0))]) (.op .idx [(.var 6), (.cst (.int 0))]))]))] []), (.app 0 (some "spots") (.tup [(.op .idx [(.var 1), (.cst (.int 0))]), (.var 6)]))]
def f_Wander_go_on : FI := ⟨⟨["self", "deed", "answer", "within"], [none, none, none, none], [true, false, false, false]⟩, 7, b_Wander_go_on⟩
abbrev st_Wander___len__ : Stmt := (C8.clsBody (top 47)).getD 2 (.Pass ⟨0, 0, 0, 0⟩)
def b_Wander___len__ : List CS := [(.ret (.op .len [(.fld (.var 0) "turns")]))]
def f_Wander___len__ : FI := ⟨⟨["self"], [none], [false]⟩, 1, b_Wander___len__⟩
abbrev st_Wander___eq__ : Stmt := (C8.clsBody (top 47)).getD 3 (.Pass ⟨0, 0, 0, 0⟩)
def b_Wander___eq__ : List CS := [(.ret (.and [(.op (.inst tcs [.own c_Wander]) [(.var 1)]), (.op .eq [(.fld (.var 0) "old"), (.fld (.var 1) "old")]), (.op .eq [(.fld (.var 0) "told"), (.fld (.var 1) "told")])]))]
def f_Wander___eq__ : FI := ⟨⟨["self", "other"], [none, none], [false, false]⟩, 2, b_Wander___eq__⟩
abbrev st_Wander_spot_at : Stmt := (C8.clsBody (top 47)).getD 4 (.Pass ⟨0, 0, 0, 0⟩)
def b_Wander_spot_at : List CS := [(.iff (.not (.call i_is_between [(.var 1), (.cst (.int 0)), (.cst (.int 9999))] [] [])) [(.rais c_BadMoment "moment" (.var 1))] []), (.asg false 2 (.tup [(.cst .non), (.cst (.int 0))])), (.forr (.tup [(.name 3), (.name 4)]) .val [(.fld (.var 0) "spots")] [(.asg false 2 (.ite (.op .le [(.var 3), (.var 1)]) (.var 4) (.var 2)))]), (.ret (.var 2))]
def f_Wander_spot_at : FI := ⟨⟨["self", "moment"], [none, none], [false, false]⟩, 5, b_Wander_spot_at⟩
abbrev st_Wander_extra : Stmt := (C8.clsBody (top 47)).getD 5 (.Pass ⟨0, 0, 0, 0⟩)
def b_Wander_extra : List CS := [(.asg false 2 (.op .idx [(.meth "spot_at" (.var 0) [(.var 1)] [] []), (.cst (.int 0))])), (.iff (.op .«is» [(.var 2), (.cst .non)]) [(.ret (.cst .non))] []), (.ret (.tup [(.ite (.fld (.var 0) "is_one_more") (.cst (.str "more")) (.cst (.str "less"))), (.var 2)]))]
def f_Wander_extra : FI := ⟨⟨["self", "moment"], [none, some (.int 9999)], [false, false]⟩, 3, b_Wander_extra⟩
abbrev st_Wander_held : Stmt := (C8.clsBody (top 47)).getD 6 (.Pass ⟨0, 0, 0, 0⟩)
def b_Wander_held : List CS := [(.asgT (.tup [(.name 4), (.name 5)]) (.meth "spot_at" (.var 0) [(.var 1)] [] [])), (.asg false 2 (.meth "held" (.fld (.var 0) "old") [(.var 1)] [] [])), (.iff (.op .«is» [(.var 4), (.cst .non)]) [(.ret (.var 2))] []), (.iff (.not (.fld (.var 0) "is_one_more")) [(.ret (.op .tuple [(.lc [6] (.var 6) (.name 6) .val [(.var 2)] [(.op .ne [(.var 6), (.var 4)])])]))] []), (.iff (.op .eq [(.fld (.fld (.var 0) "old") "kind"), (.cst (.str "least"))]) [(.ret (.call i_put_behind [(.cst (.str "least")), (.var 2), (.var 4)] [] []))] []), (.asg false 3 (.ite (.op .eq [(.fld (.fld (.var 0) "old") "kind"), (.cst (.str "line"))]) (.var 5) (.op .sub [(.op .len [(.var 2)]), (.var 5)]))), (.ret (.tup [(.star (.slc (.var 2) [] [(.var 3)])), (.var 4), (.star (.slc (.var 2) [(.var 3)] []))]))]
def f_Wander_held : FI := ⟨⟨["self", "moment"], [none, some (.int 9999)], [false, false]⟩, 7, b_Wander_held⟩
abbrev st_Wander_answer : Stmt := (C8.clsBody (top 47)).getD 7 (.Pass ⟨0, 0, 0, 0⟩)
def b_Wander_answer : List CS := [(.iff (.and [(.call i_is_between [(.var 1), (.cst (.int 1)), (.cst (.int 9999))] [] []), (.op .eq [(.var 1), (.pure (.op .idx [(.op .idx [(.fld (.var 0) "spots"), (.cst (.int 0))]), (.cst (.int 0))]))])]) [(.iff (.or [(.op .eq [(.op .idx [(.fld (.var 0) "told"), (.cst (.int 0))]), (.cst (.str "strike"))]), (.op .eq [(.op .idx [(.op .idx [(.fld (.var 0) "told"), (.cst (.int 1))]), (.cst (.int 1))]), (.cst (.str "put"))])]) [(.rais c_BadMoment "moment" (.var 1))] []), (.ret (.pure (.op .idx [(.op .idx [(.op .idx [(.fld (.var 0) "spots"), (.cst (.int 0))]), (.cst (.int 1))]), (.cst (.int 0))])))] []), (.asg false 2 (.meth "answer" (.fld (.var 0) "old") [(.var 1)] [] [])), (.forr (.tup [(.name 3), (.name 4), (.name 5)]) .val [(.fld (.var 0) "links")] [(.asg false 2 (.ite (.op .eq [(.var 3), (.var 1)]) (.var 5) (.var 2)))]), (.ret (.var 2))]
def f_Wander_answer : FI := ⟨⟨["self", "moment"], [none, none], [false, false]⟩, 6, b_Wander_answer⟩
abbrev st_chain : Stmt := top 48
def b_chain : List CS := [(.ret (.op .list [(.fld (.mk c_Wander [(.var 0), (.var 1)] [] []) "links")]))]
def f_chain : FI := ⟨⟨["past", "change"], [none, none], [false, false]⟩, 2, b_chain⟩
abbrev st_left : Stmt := top 49
def b_left : List CS := [(.ret (.meth "extra" (.mk c_Wander [(.var 0), (.var 1)] [] []) [] [] []))]
def f_left : FI := ⟨⟨["past", "change"], [none, none], [false, false]⟩, 2, b_left⟩
abbrev st_healed_at : Stmt := top 50
def b_healed_at : List CS := [(.asg false 2 (.op .idx [(.fld (.mk c_Wander [(.var 0), (.var 1)] [] []) "spots"), (.op .neg [(.cst (.int 1))])])), (.ret (.ite (.op .«is» [(.op .idx [(.op .idx [(.var 2), (.cst (.int 1))]), (.cst (.int 0))]), (.cst .non)]) (.op .idx [(.var 2), (.cst (.int 0))]) (.cst .non)))]
def f_healed_at : FI := ⟨⟨["past", "change"], [none, none], [false, false]⟩, 3, b_healed_at⟩
abbrev st_check_least : Stmt := top 52
def b_check_least : List CS := [(.expr (.call i_check_past [(.var 0)] [] [])), (.iff (.op .ne [(.fld (.var 0) "kind"), (.cst (.str "least"))]) [(.rais c_BadKind "kind" (.fld (.var 0) "kind"))] [])]
def f_check_least : FI := ⟨⟨["past"], [none], [false]⟩, 1, b_check_least⟩
abbrev st_greatest_behind : Stmt := top 53
def b_greatest_behind : List CS := [(.iff (.op .«is» [(.var 1), (.cst .non)]) [(.ret (.cst .non))] []), (.asg false 3 (.var 1)), (.forr (.tup [(.name 4), (.name 5)]) .val [(.meth "answers" (.var 0) [] [] [])] [(.iff (.op .gt [(.var 4), (.var 2)]) [(.iff (.op .«is» [(.var 5), (.cst .non)]) [(.ret (.cst .non))] []), (.asg false 3 (.op .max2 [(.op .int [(.var 3)]), (.op .int [(.var 5)])]))] [])]), (.ret (.var 3))]
def f_greatest_behind : FI := ⟨⟨["past", "first", "moment"], [none, none, none], [false, false, false]⟩, 6, b_greatest_behind⟩
abbrev st_stays_from : Stmt := top 54
def b_stays_from : List CS := [(.asg false 2 (.dc [6] (.var 6) (.cst (.bl true)) (.name 6) .val [(.meth "held" (.var 0) [] [] [])] [])), (.asg true 3 (.lst [(.tup [(.var 1), (.meth "held" (.var 0) [(.var 1)] [] [])])])), (.ext 3 none (.lc [5, 7, 8] (.tup [(.op .idx [(.var 7), (.cst (.int 0))]), (.var 5)]) (.tup [(.name 7), (.name 8), (.name 5)]) .val [(.gen "rows" (.var 0))] [(.op .gt [(.op .idx [(.var 7), (.cst (.int 0))]), (.var 1)])])), (.forr (.tup [(.name 4), (.name 5)]) .val [(.var 3)] [(.iff (.op .all [(.lc [6] (.op .isin [(.var 6), (.var 2)]) (.name 6) .val [(.var 5)] [])]) [(.ret (.var 4))] [])]), (.ret (.var 1))]
def f_stays_from : FI := ⟨⟨["past", "moment"], [none, none], [false, false]⟩, 9, b_stays_from⟩
abbrev st_least_held : Stmt := top 55
def b_least_held : List CS := [(.asg false 2 (.meth "held" (.var 0) [(.var 1)] [] [])), (.ret (.ite (.op .ne [(.var 2), (.tup [])]) (.op .idx [(.var 2), (.cst (.int 0))]) (.cst .non)))]
def f_least_held : FI := ⟨⟨["past", "moment"], [none, none], [false, false]⟩, 3, b_least_held⟩
abbrev st_least_left : Stmt := top 56
def b_least_left : List CS := [(.asg false 2 (.call i_moment_changed [(.var 1)] [] [])), (.iff (.call i_gives_more [(.var 0), (.var 1)] [] []) [(.asg false 4 (.ite (.op .eq [(.op .idx [(.var 1), (.cst (.int 0))]), (.cst (.str "put in"))]) (.call i_thing_of [(.op .idx [(.var 1), (.cst (.int 1))])] [] []) (.meth "answer" (.var 0) [(.var 2)] [] []))), (.asg false 3 (.call i_greatest_behind [(.var 0), (.var 4), (.var 2)] [] [])), (.ret (.ite (.op .«is» [(.var 3), (.cst .non)]) (.cst .non) (.tup [(.cst (.str "more")), (.var 3)])))] []), (.iff (.and [(.op .eq [(.op .idx [(.var 1), (.cst (.int 0))]), (.cst (.str "strike"))]), (.op .isin [(.call i_thing_of [(.op .idx [(.var 0), (.var 2)])] [] []), (.meth "held" (.var 0) [] [] [])])]) [(.ret (.tup [(.cst (.str "less")), (.call i_thing_of [(.op .idx [(.var 0), (.var 2)])] [] [])]))] []), (.asg false 3 (.call i_least_held [(.var 0), (.call i_stays_from [(.var 0), (.var 2)] [] [])] [] [])), (.ret (.ite (.op .«is» [(.var 3), (.cst .non)]) (.cst .non) (.tup [(.cst (.str "less")), (.var 3)])))]
def f_least_left : FI := ⟨⟨["past", "change"], [none, none], [false, false]⟩, 5, b_least_left⟩
abbrev st_check_least_change : Stmt := top 57
def b_check_least_change : List CS := [(.expr (.call i_check_least [(.var 0)] [] [])), (.expr (.call i_check_change [(.var 0), (.var 1)] [] []))]
def f_check_least_change : FI := ⟨⟨["past", "change"], [none, none], [false, false]⟩, 2, b_check_least_change⟩
abbrev st_end_behind : Stmt := top 58
def b_end_behind : List CS := [(.expr (.call i_check_least_change [(.var 0), (.var 1)] [] [])), (.asg false 2 (.call i_least_left [(.var 0), (.var 1)] [] [])), (.iff (.op .«is» [(.var 2), (.cst .non)]) [(.ret (.meth "held" (.var 0) [] [] []))] []), (.iff (.op .eq [(.op .idx [(.var 2), (.cst (.int 0))]), (.cst (.str "more"))]) [(.ret (.call i_put_behind [(.cst (.str "least")), (.meth "held" (.var 0) [] [] []), (.op .idx [(.var 2), (.cst (.int 1))])] [] []))] []), (.ret (.op .tuple [(.lc [3] (.var 3) (.name 3) .val [(.meth "held" (.var 0) [] [] [])] [(.op .ne [(.var 3), (.op .idx [(.var 2), (.cst (.int 1))])])])]))]
def f_end_behind : FI := ⟨⟨["past", "change"], [none, none], [false, false]⟩, 4, b_end_behind⟩
abbrev st_check_thing : Stmt := top 60
def b_check_thing : List CS := [(.iff (.not (.call i_is_thing [(.var 0)] [] [])) [(.rais c_BadThing "thing" (.var 0))] [])]
def f_check_thing : FI := ⟨⟨["thing"], [none], [false]⟩, 1, b_check_thing⟩
abbrev st_stretch_for : Stmt := top 61
def b_stretch_for : List CS := [(.par [(false, 2), (false, 3)] [(.cst (.int 0)), (.cst .non)]), (.forr (.tup [(.name 4), (.name 5)]) .val [(.meth "answers" (.var 0) [] [] [])] [(.iff (.op .eq [(.var 5), (.var 1)]) [(.asg false 3 (.var 4))] []), (.iff (.or [(.op .«is» [(.var 5), (.cst .non)]), (.op .gt [(.var 5), (.var 1)])]) [(.asg false 2 (.var 4))] [])]), (.ret (.ite (.or [(.op .«is» [(.var 3), (.cst .non)]), (.op .ge [(.var 2), (.var 3)])]) (.cst .non) (.tup [(.var 2), (.var 3)])))]
def f_stretch_for : FI := ⟨⟨["past", "thing"], [none, none], [false, false]⟩, 6, b_stretch_for⟩
abbrev st_bounds : Stmt := top 62
def b_bounds : List CS := [(.expr (.call i_check_least [(.var 0)] [] [])), (.expr (.call i_check_thing [(.var 1)] [] [])), (.ret (.call i_stretch_for [(.var 0), (.var 1)] [] []))]
def f_bounds : FI := ⟨⟨["past", "thing"], [none, none], [false, false]⟩, 2, b_bounds⟩
abbrev st_check_value : Stmt := top 64
def b_check_value : List CS := [(.expr (.call i_check_least [(.var 0)] [] [])), (.iff (.or [(.not (.call i_is_integer [(.var 1)] [] [])), (.op .lt [(.var 1), (.cst (.int 0))])]) [(.rais c_BadThing "thing" (.var 1))] [])]
def f_check_value : FI := ⟨⟨["past", "value"], [none, none], [false, false]⟩, 2, b_check_value⟩
abbrev st_worth_of : Stmt := top 65
def b_worth_of : List CS := [(.iff (.op .eq [(.op .idx [(.var 0), (.cst (.int 1))]), (.cst (.str "take"))]) [(.ret (.op .neg [(.cst (.int 1))]))] []), (.ret (.op .int [(.op .le [(.call i_thing_of [(.var 0)] [] []), (.var 1)])]))]
def f_worth_of : FI := ⟨⟨["deed", "value"], [none, none], [false, false]⟩, 2, b_worth_of⟩
abbrev st_sums : Stmt := top 66
def b_sums : List CS := [(.par [(false, 3), (true, 4)] [(.cst (.int 0)), (.lst [])]), (.forr (.name 2) .val [(.op .rev [(.meth "deeds_told" (.var 0) [] [] [])])] [(.app 4 none (.tup [(.op .idx [(.var 2), (.cst (.int 0))]), (.var 3)])), (.aug 3 .add (.call i_worth_of [(.var 2), (.var 1)] [] []))]), (.app 4 none (.tup [(.cst (.int 0)), (.op .add [(.var 3), (.op .len [(.lc [5] (.var 5) (.name 5) .val [(.fld (.var 0) "beginning")] [(.op .le [(.var 5), (.var 1)])])])])])), (.ret (.op .rev [(.var 4)]))]
def f_sums : FI := ⟨⟨["past", "value"], [none, none], [false, false]⟩, 6, b_sums⟩
abbrev st_number_up_to : Stmt := top 67
def b_number_up_to : List CS := [(.ret (.op .maxL [(.op .add [(.lst [(.cst (.int 0))]), (.lc [2, 3] (.op .int [(.var 3)]) (.tup [(.name 2), (.name 3)]) .val [(.call i_sums [(.var 0), (.var 1)] [] [])] [])])]))]
def f_number_up_to : FI := ⟨⟨["past", "value"], [none, none], [false, false]⟩, 4, b_number_up_to⟩
abbrev st_count : Stmt := top 68
def b_count : List CS := [(.expr (.call i_check_value [(.var 0), (.var 1)] [] [])), (.ret (.call i_number_up_to [(.var 0), (.var 1)] [] []))]
def f_count : FI := ⟨⟨["past", "value"], [none, none], [false, false]⟩, 2, b_count⟩
abbrev st__law_right : Stmt := top 70
def b__law_right : List CS := [(.iff (.or [(.op .ne [(.call i_chain [(.var 0), (.var 1)] [] []), (.var 2)]), (.op .ne [(.call i_left [(.var 0), (.var 1)] [] []), (.var 3)])]) [(.ret (.cst (.bl false)))] []), (.ret (.op .eq [(.meth "held" (.mk c_Wander [(.var 0), (.var 1)] [] []) [] [] []), (.var 4)]))]
def f__law_right : FI := ⟨⟨["_law_past", "_law_edit", "_law_links", "_law_extra", "_law_end"], [none, none, none, none, none], [false, false, false, false, false]⟩, 5, b__law_right⟩
abbrev st__law_five : Stmt := top 71
def b__law_five : List CS := [(.ret (.mk c_Past [(.var 0), (.tup []), (.lst [(.tup [(.cst (.int 10)), (.cst (.str "put")), (.cst (.int 5))]), (.tup [(.cst (.int 20)), (.cst (.str "put")), (.cst (.int 3))]), (.tup [(.cst (.int 30)), (.cst (.str "take"))]), (.tup [(.cst (.int 40)), (.cst (.str "put")), (.cst (.int 4))]), (.tup [(.cst (.int 50)), (.cst (.str "take"))])])] [] []))]
def f__law_five : FI := ⟨⟨["_law_sort"], [none], [false]⟩, 1, b__law_five⟩
abbrev st_law : Stmt := top 72
def b_law : List CS := [(.par [(false, 4), (false, 5)] [(.tup [(.cst (.str "put in")), (.tup [(.cst (.int 15)), (.cst (.str "put")), (.cst (.int 1))])]), (.tup [(.cst (.str "put in")), (.tup [(.cst (.int 25)), (.cst (.str "take"))])])]), (.asg false 1 (.lst [(.tup [(.cst (.str "least")), (.lst [(.tup [(.cst (.int 30)), (.cst (.int 3))]), (.tup [(.cst (.int 50)), (.cst (.int 4))])]), (.tup [(.cst (.int 5))])]), (.tup [(.cst (.str "line")), (.lst [(.tup [(.cst (.int 30)), (.cst (.int 5))]), (.tup [(.cst (.int 50)), (.cst (.int 3))])]), (.tup [(.cst (.int 4))])]), (.tup [(.cst (.str "pile")), (.lst [(.tup [(.cst (.int 30)), (.cst (.int 3))]), (.tup [(.cst (.int 50)), (.cst (.int 4))])]), (.tup [(.cst (.int 5))])])])), (.forr (.tup [(.name 6), (.name 7), (.name 8)]) .val [(.var 1)] [(.iff (.or [(.op .ne [(.meth "answers" (.call i__law_five [(.var 6)] [] []) [] [] []), (.var 7)]), (.op .ne [(.meth "held" (.call i__law_five [(.var 6)] [] []) [] [] []), (.var 8)])]) [(.ret (.cst (.bl false)))] [])]), (.asg false 2 (.call i__law_five [(.cst (.str "least"))] [] [])), (.iff (.not (.call i__law_right [(.var 2), (.var 4), (.lst [(.tup [(.cst (.int 30)), (.cst (.int 3)), (.cst (.int 1))]), (.tup [(.cst (.int 50)), (.cst (.int 4)), (.cst (.int 3))])]), (.tup [(.cst (.str "more")), (.cst (.int 4))]), (.tup [(.cst (.int 4)), (.cst (.int 5))])] [] [])) [(.ret (.cst (.bl false)))] []), (.iff (.or [(.not (.call i__law_right [(.var 2), (.var 5), (.lst [(.tup [(.cst (.int 30)), (.cst (.int 3)), (.cst (.int 5))])]), (.tup [(.cst (.str "less")), (.cst (.int 5))]), (.tup [])] [] [])), (.op .ne [(.call i_end_behind [(.var 2), (.var 5)] [] []), (.tup [])])]) [(.ret (.cst (.bl false)))] []), (.iff (.not (.call i__law_right [(.call i__law_five [(.cst (.str "line"))] [] []), (.var 4), (.lst [(.tup [(.cst (.int 50)), (.cst (.int 3)), (.cst (.int 1))])]), (.tup [(.cst (.str "more")), (.cst (.int 3))]), (.tup [(.cst (.int 3)), (.cst (.int 4))])] [] [])) [(.ret (.cst (.bl false)))] []), (.iff (.not (.call i__law_right [(.call i__law_five [(.cst (.str "pile"))] [] []), (.var 4), (.lst []), (.tup [(.cst (.str "more")), (.cst (.int 1))]), (.tup [(.cst (.int 5)), (.cst (.int 1))])] [] [])) [(.ret (.cst (.bl false)))] []), (.asg false 3 (.mk c_Past [(.cst (.str "least")), (.tup []), (.lst [(.tup [(.cst (.int 10)), (.cst (.str "take"))])])] [] [])), (.iff (.not (.call i__law_right [(.var 3), (.tup [(.cst (.str "put in")), (.tup [(.cst (.int 5)), (.cst (.str "put")), (.cst (.int 2))])]), (.lst [(.tup [(.cst (.int 10)), (.cst .non), (.cst (.int 2))])]), (.cst .non), (.tup [])] [] [])) [(.ret (.cst (.bl false)))] []), (.iff (.or [(.op .ne [(.call i_healed_at [(.var 3), (.tup [(.cst (.str "put in")), (.tup [(.cst (.int 5)), (.cst (.str "put")), (.cst (.int 2))])])] [] []), (.cst (.int 10))]), (.op .ne [(.call i_healed_at [(.var 3), (.tup [(.cst (.str "strike")), (.cst (.int 10))])] [] []), (.cst (.int 10))])]) [(.ret (.cst (.bl false)))] []), (.iff (.op .ne [(.lst [(.call i_count [(.var 2), (.cst (.int 4))] [] []), (.call i_count [(.var 2), (.cst (.int 5))] [] []), (.call i_count [(.var 2), (.cst (.int 9999))] [] [])]), (.lst [(.cst (.int 0)), (.cst (.int 1)), (.cst (.int 1))])]) [(.ret (.cst (.bl false)))] []), (.ret (.op .eq [(.lst [(.call i_bounds [(.var 2), (.cst (.int 4))] [] []), (.call i_bounds [(.var 2), (.cst (.int 3))] [] []), (.call i_bounds [(.var 2), (.cst (.int 5))] [] [])]), (.lst [(.tup [(.cst (.int 0)), (.cst (.int 50))]), (.cst .non), (.cst .non)])]))]
def f_law : FI := ⟨⟨["_law_script"], [none], [false]⟩, 9, b_law⟩
abbrev st_Past_rows : Stmt := (C8.clsBody (top 33)).getD 10 (.Pass ⟨0, 0, 0, 0⟩)
def b_Past_rows : List GS := [(.pl (.asg false 1 (.fld (.var 0) "beginning"))), (.forr (.name 2) (.meth "deeds_told" (.var 0) [] [] []) [(.pl (.asg false 3 (.cst .non))), (.pl (.iff (.op .eq [(.op .idx [(.var 2), (.cst (.int 1))]), (.cst (.str "put"))]) [(.asg false 1 (.call i_put_behind [(.fld (.var 0) "kind"), (.var 1), (.op .idx [(.var 2), (.cst (.int 2))])] [] []))] [(.asgT (.tup [(.name 3), (.name 1)]) (.call i_taken_behind [(.fld (.var 0) "kind"), (.var 1)] [] []))])), (.yld (.tup [(.var 2), (.var 3), (.var 1)]))])]
def f_Past_rows : GI := ⟨⟨["self"], [none], [false]⟩, 4, b_Past_rows⟩
def fns : List FI := [f_is_integer, f_is_between, f_is_kind, f_is_moment, f_is_thing, f_has_word, f_is_deed, f_thing_of, f_by_moments, f_check_kind, f_put_behind, f_next_of, f_taken_behind, f_checked_beginning, f_checked_deeds, f_Past___init__, f_Past___len__, f_Past___contains__, f_Past___getitem__, f_Past___eq__, f_Past_deeds_told, f_Past_things, f_Past_has, f_Past_held, f_Past_answers, f_Past_answer, f_check_past, f_is_change, f_moment_changed, f_reason_against, f_why_not, f_check_change, f_gives_more, f_first_spot, f_more_behind, f_less_behind, f_turns_of, f_Wander___init__, f_Wander_go_on, f_Wander___len__, f_Wander___eq__, f_Wander_spot_at, f_Wander_extra, f_Wander_held, f_Wander_answer, f_chain, f_left, f_healed_at, f_check_least, f_greatest_behind, f_stays_from, f_least_held, f_least_left, f_check_least_change, f_end_behind, f_check_thing, f_stretch_for, f_bounds, f_check_value, f_worth_of, f_sums, f_number_up_to, f_count, f__law_right, f__law_five, f_law]
def cds : List CD := [{ name := "Past", mts := [("__len__", i_Past___len__), ("__contains__", i_Past___contains__), ("__getitem__", i_Past___getitem__), ("__eq__", i_Past___eq__), ("deeds_told", i_Past_deeds_told), ("things", i_Past_things), ("has", i_Past_has), ("held", i_Past_held), ("answers", i_Past_answers), ("answer", i_Past_answer)], ini := some i_Past___init__, gms := [("rows", i_Past_rows)] }, { name := "Wander", mts := [("go_on", i_Wander_go_on), ("__len__", i_Wander___len__), ("__eq__", i_Wander___eq__), ("spot_at", i_Wander_spot_at), ("extra", i_Wander_extra), ("held", i_Wander_held), ("answer", i_Wander_answer)], ini := some i_Wander___init__, gms := [] }, { name := "BadKind", err := some ("kind", 0, "PastError", 66) }, { name := "BadBeginning", err := some ("index", 0, "PastError", 67) }, { name := "BadDeed", err := some ("index", 0, "PastError", 68) }, { name := "BadMoment", err := some ("moment", 0, "PastError", 69) }, { name := "BadThing", err := some ("thing", 0, "PastError", 70) }, { name := "BadChange", err := some ("change", 0, "PastError", 71) }, { name := "BadPart", err := some ("part", 0, "PastError", 72) }, { name := "TooMany", err := some ("limit", 1, "OverflowError", 73) }]
def gens : List GI := [f_Past_rows]
abbrev off : Nat := 74
def prg : Prg := mkP fns cds 300 gens off
def tbf : List (Str × Nat) := ([("is_integer", i_is_integer), ("is_between", i_is_between), ("is_kind", i_is_kind), ("is_moment", i_is_moment), ("is_thing", i_is_thing), ("has_word", i_has_word), ("is_deed", i_is_deed), ("thing_of", i_thing_of), ("by_moments", i_by_moments), ("check_kind", i_check_kind), ("put_behind", i_put_behind), ("next_of", i_next_of), ("taken_behind", i_taken_behind), ("checked_beginning", i_checked_beginning), ("checked_deeds", i_checked_deeds), ("check_past", i_check_past), ("is_change", i_is_change), ("moment_changed", i_moment_changed), ("reason_against", i_reason_against), ("why_not", i_why_not), ("check_change", i_check_change), ("gives_more", i_gives_more), ("first_spot", i_first_spot), ("more_behind", i_more_behind), ("less_behind", i_less_behind), ("turns_of", i_turns_of), ("chain", i_chain), ("left", i_left), ("healed_at", i_healed_at), ("check_least", i_check_least)] : List (Str × Nat)) ++ ([("greatest_behind", i_greatest_behind), ("stays_from", i_stays_from), ("least_held", i_least_held), ("least_left", i_least_left), ("check_least_change", i_check_least_change), ("end_behind", i_end_behind), ("check_thing", i_check_thing), ("stretch_for", i_stretch_for), ("bounds", i_bounds), ("check_value", i_check_value), ("worth_of", i_worth_of), ("sums", i_sums), ("number_up_to", i_number_up_to), ("count", i_count), ("_law_right", i__law_right), ("_law_five", i__law_five), ("law", i_law)] : List (Str × Nat))
def tb : Tb := { fns := tbf, cls := [("Past", c_Past), ("Wander", c_Wander), ("BadKind", c_BadKind), ("BadBeginning", c_BadBeginning), ("BadDeed", c_BadDeed), ("BadMoment", c_BadMoment), ("BadThing", c_BadThing), ("BadChange", c_BadChange), ("BadPart", c_BadPart), ("TooMany", c_TooMany)], blts := ["all", "bool", "enumerate", "int", "isinstance", "len", "list", "max", "sorted", "str", "tuple"], cns := [("KINDS", (.kt [(.str "least"), (.str "line"), (.str "pile")])), ("MOST_DEEDS", (.int 200)), ("MOST_MOMENT", (.int 9999)), ("MOST_THINGS", (.int 400))], cs := tcs, flds := [(c_Past, "kind"), (c_Past, "beginning"), (c_Past, "by_moment"), (c_Wander, "old"), (c_Wander, "told"), (c_Wander, "is_one_more"), (c_Wander, "spots"), (c_Wander, "links"), (c_Wander, "turns")] }
def n_is_integer : List Str := ["value"]
theorem chk_is_integer : chkCs tb prg f_is_integer.body ⟨n_is_integer, defScope st_is_integer, fun _ => true⟩ (defBody st_is_integer) = true := by decide +kernel
theorem sc_is_integer : FnScope n_is_integer f_is_integer.sig.ps (defScope st_is_integer) := C8.fnScope_by (by decide +kernel)
theorem par_is_integer : PlainPar (defArgs st_is_integer) f_is_integer.sig.ps := ⟨by decide +kernel, by decide +kernel, rfl, rfl, rfl, rfl⟩
def dd_is_integer : He.DefD := ⟨("is_integer", none), "is_integer", "is_integer", defArgs st_is_integer, defBody st_is_integer, defScope st_is_integer, [], []⟩
theorem dt_is_integer : DText tb prg f_is_integer dd_is_integer st_is_integer n_is_integer := ⟨rfl, rfl, rfl, rfl, ⟨[], trivial, by decide, rfl⟩, sc_is_integer, par_is_integer, rfl, chk_is_integer⟩
def n_is_between : List Str := ["value", "least", "most"]
theorem chk_is_between : chkCs tb prg f_is_between.body ⟨n_is_between, defScope st_is_between, fun _ => true⟩ (defBody st_is_between) = true := by decide +kernel
theorem sc_is_between : FnScope n_is_between f_is_between.sig.ps (defScope st_is_between) := C8.fnScope_by (by decide +kernel)
theorem par_is_between : PlainPar (defArgs st_is_between) f_is_between.sig.ps := ⟨by decide +kernel, by decide +kernel, rfl, rfl, rfl, rfl⟩
def dd_is_between : He.DefD := ⟨("is_between", none), "is_between", "is_between", defArgs st_is_between, defBody st_is_between, defScope st_is_between, [], []⟩
theorem dt_is_between : DText tb prg f_is_between dd_is_between st_is_between n_is_between := ⟨rfl, rfl, rfl, rfl, ⟨[], trivial, by decide, rfl⟩, sc_is_between, par_is_between, rfl, chk_is_between⟩
def n_is_kind : List Str := ["value"]
theorem chk_is_kind : chkCs tb prg f_is_kind.body ⟨n_is_kind, defScope st_is_kind, fun _ => true⟩ (defBody st_is_kind) = true := by decide +kernel
theorem sc_is_kind : FnScope n_is_kind f_is_kind.sig.ps (defScope st_is_kind) := C8.fnScope_by (by decide +kernel)
theorem par_is_kind : PlainPar (defArgs st_is_kind) f_is_kind.sig.ps := ⟨by decide +kernel, by decide +kernel, rfl, rfl, rfl, rfl⟩
def dd_is_kind : He.DefD := ⟨("is_kind", none), "is_kind", "is_kind", defArgs st_is_kind, defBody st_is_kind, defScope st_is_kind, [], []⟩
theorem dt_is_kind : DText tb prg f_is_kind dd_is_kind st_is_kind n_is_kind := ⟨rfl, rfl, rfl, rfl, ⟨[], trivial, by decide, rfl⟩, sc_is_kind, par_is_kind, rfl, chk_is_kind⟩
def n_is_moment : List Str := ["value"]
theorem chk_is_moment : chkCs tb prg f_is_moment.body ⟨n_is_moment, defScope st_is_moment, fun _ => true⟩ (defBody st_is_moment) = true := by decide +kernel
theorem sc_is_moment : FnScope n_is_moment f_is_moment.sig.ps (defScope st_is_moment) := C8.fnScope_by (by decide +kernel)
theorem par_is_moment : PlainPar (defArgs st_is_moment) f_is_moment.sig.ps := ⟨by decide +kernel, by decide +kernel, rfl, rfl, rfl, rfl⟩
def dd_is_moment : He.DefD := ⟨("is_moment", none), "is_moment", "is_moment", defArgs st_is_moment, defBody st_is_moment, defScope st_is_moment, [], []⟩
theorem dt_is_moment : DText tb prg f_is_moment dd_is_moment st_is_moment n_is_moment := ⟨rfl, rfl, rfl, rfl, ⟨[], trivial, by decide, rfl⟩, sc_is_moment, par_is_moment, rfl, chk_is_moment⟩
def n_is_thing : List Str := ["value"]
theorem chk_is_thing : chkCs tb prg f_is_thing.body ⟨n_is_thing, defScope st_is_thing, fun _ => true⟩ (defBody st_is_thing) = true := by decide +kernel
theorem sc_is_thing : FnScope n_is_thing f_is_thing.sig.ps (defScope st_is_thing) := C8.fnScope_by (by decide +kernel)
theorem par_is_thing : PlainPar (defArgs st_is_thing) f_is_thing.sig.ps := ⟨by decide +kernel, by decide +kernel, rfl, rfl, rfl, rfl⟩
def dd_is_thing : He.DefD := ⟨("is_thing", none), "is_thing", "is_thing", defArgs st_is_thing, defBody st_is_thing, defScope st_is_thing, [], []⟩
theorem dt_is_thing : DText tb prg f_is_thing dd_is_thing st_is_thing n_is_thing := ⟨rfl, rfl, rfl, rfl, ⟨[], trivial, by decide, rfl⟩, sc_is_thing, par_is_thing, rfl, chk_is_thing⟩
def n_has_word : List Str := ["value", "place", "word", "many"]
theorem chk_has_word : chkCs tb prg f_has_word.body ⟨n_has_word, defScope st_has_word, fun _ => true⟩ (defBody st_has_word) = true := by decide +kernel
theorem sc_has_word : FnScope n_has_word f_has_word.sig.ps (defScope st_has_word) := C8.fnScope_by (by decide +kernel)
theorem par_has_word : PlainPar (defArgs st_has_word) f_has_word.sig.ps := ⟨by decide +kernel, by decide +kernel, rfl, rfl, rfl, rfl⟩
def dd_has_word : He.DefD := ⟨("has_word", none), "has_word", "has_word", defArgs st_has_word, defBody st_has_word, defScope st_has_word, [], []⟩
theorem dt_has_word : DText tb prg f_has_word dd_has_word st_has_word n_has_word := ⟨rfl, rfl, rfl, rfl, ⟨[], trivial, by decide, rfl⟩, sc_has_word, par_has_word, rfl, chk_has_word⟩
def n_is_deed : List Str := ["value"]
theorem chk_is_deed : chkCs tb prg f_is_deed.body ⟨n_is_deed, defScope st_is_deed, fun _ => true⟩ (defBody st_is_deed) = true := by decide +kernel
theorem sc_is_deed : FnScope n_is_deed f_is_deed.sig.ps (defScope st_is_deed) := C8.fnScope_by (by decide +kernel)
theorem par_is_deed : PlainPar (defArgs st_is_deed) f_is_deed.sig.ps := ⟨by decide +kernel, by decide +kernel, rfl, rfl, rfl, rfl⟩
def dd_is_deed : He.DefD := ⟨("is_deed", none), "is_deed", "is_deed", defArgs st_is_deed, defBody st_is_deed, defScope st_is_deed, [], []⟩
theorem dt_is_deed : DText tb prg f_is_deed dd_is_deed st_is_deed n_is_deed := ⟨rfl, rfl, rfl, rfl, ⟨[], trivial, by decide, rfl⟩, sc_is_deed, par_is_deed, rfl, chk_is_deed⟩
def n_thing_of : List Str := ["deed"]
theorem chk_thing_of : chkCs tb prg f_thing_of.body ⟨n_thing_of, defScope st_thing_of, fun _ => true⟩ (defBody st_thing_of) = true := by decide +kernel
theorem sc_thing_of : FnScope n_thing_of f_thing_of.sig.ps (defScope st_thing_of) := C8.fnScope_by (by decide +kernel)
theorem par_thing_of : PlainPar (defArgs st_thing_of) f_thing_of.sig.ps := ⟨by decide +kernel, by decide +kernel, rfl, rfl, rfl, rfl⟩
def dd_thing_of : He.DefD := ⟨("thing_of", none), "thing_of", "thing_of", defArgs st_thing_of, defBody st_thing_of, defScope st_thing_of, [], []⟩
theorem dt_thing_of : DText tb prg f_thing_of dd_thing_of st_thing_of n_thing_of := ⟨rfl, rfl, rfl, rfl, ⟨[], trivial, by decide, rfl⟩, sc_thing_of, par_thing_of, rfl, chk_thing_of⟩
def n_by_moments : List Str := ["deeds", "known", "deed", "moment"]
theorem chk_by_moments : chkCs tb prg f_by_moments.body ⟨n_by_moments, defScope st_by_moments, fun _ => true⟩ (defBody st_by_moments) = true := by decide +kernel
theorem sc_by_moments : FnScope n_by_moments f_by_moments.sig.ps (defScope st_by_moments) := C8.fnScope_by (by decide +kernel)
theorem par_by_moments : PlainPar (defArgs st_by_moments) f_by_moments.sig.ps := ⟨by decide +kernel, by decide +kernel, rfl, rfl, rfl, rfl⟩
def dd_by_moments : He.DefD := ⟨("by_moments", none), "by_moments", "by_moments", defArgs st_by_moments, defBody st_by_moments, defScope st_by_moments, [], []⟩
theorem dt_by_moments : DText tb prg f_by_moments dd_by_moments st_by_moments n_by_moments := ⟨rfl, rfl, rfl, rfl, ⟨[], trivial, by decide, rfl⟩, sc_by_moments, par_by_moments, rfl, chk_by_moments⟩
def n_check_kind : List Str := ["kind"]
theorem chk_check_kind : chkCs tb prg f_check_kind.body ⟨n_check_kind, defScope st_check_kind, fun _ => true⟩ (defBody st_check_kind) = true := by decide +kernel
theorem sc_check_kind : FnScope n_check_kind f_check_kind.sig.ps (defScope st_check_kind) := C8.fnScope_by (by decide +kernel)
theorem par_check_kind : PlainPar (defArgs st_check_kind) f_check_kind.sig.ps := ⟨by decide +kernel, by decide +kernel, rfl, rfl, rfl, rfl⟩
def dd_check_kind : He.DefD := ⟨("check_kind", none), "check_kind", "check_kind", defArgs st_check_kind, defBody st_check_kind, defScope st_check_kind, [], []⟩
theorem dt_check_kind : DText tb prg f_check_kind dd_check_kind st_check_kind n_check_kind := ⟨rfl, rfl, rfl, rfl, ⟨[], trivial, by decide, rfl⟩, sc_check_kind, par_check_kind, rfl, chk_check_kind⟩
def n_put_behind : List Str := ["kind", "within", "thing", "lesser", "one"]
theorem chk_put_behind : chkCs tb prg f_put_behind.body ⟨n_put_behind, defScope st_put_behind, fun _ => true⟩ (defBody st_put_behind) = true := by decide +kernel
theorem sc_put_behind : FnScope n_put_behind f_put_behind.sig.ps (defScope st_put_behind) := C8.fnScope_by (by decide +kernel)
theorem par_put_behind : PlainPar (defArgs st_put_behind) f_put_behind.sig.ps := ⟨by decide +kernel, by decide +kernel, rfl, rfl, rfl, rfl⟩
def dd_put_behind : He.DefD := ⟨("put_behind", none), "put_behind", "put_behind", defArgs st_put_behind, defBody st_put_behind, defScope st_put_behind, [], []⟩
theorem dt_put_behind : DText tb prg f_put_behind dd_put_behind st_put_behind n_put_behind := ⟨rfl, rfl, rfl, rfl, ⟨[], trivial, by decide, rfl⟩, sc_put_behind, par_put_behind, rfl, chk_put_behind⟩
def n_next_of : List Str := ["kind", "within"]
theorem chk_next_of : chkCs tb prg f_next_of.body ⟨n_next_of, defScope st_next_of, fun _ => true⟩ (defBody st_next_of) = true := by decide +kernel
theorem sc_next_of : FnScope n_next_of f_next_of.sig.ps (defScope st_next_of) := C8.fnScope_by (by decide +kernel)
theorem par_next_of : PlainPar (defArgs st_next_of) f_next_of.sig.ps := ⟨by decide +kernel, by decide +kernel, rfl, rfl, rfl, rfl⟩
def dd_next_of : He.DefD := ⟨("next_of", none), "next_of", "next_of", defArgs st_next_of, defBody st_next_of, defScope st_next_of, [], []⟩
theorem dt_next_of : DText tb prg f_next_of dd_next_of st_next_of n_next_of := ⟨rfl, rfl, rfl, rfl, ⟨[], trivial, by decide, rfl⟩, sc_next_of, par_next_of, rfl, chk_next_of⟩
def n_taken_behind : List Str := ["kind", "within", "answer"]
theorem chk_taken_behind : chkCs tb prg f_taken_behind.body ⟨n_taken_behind, defScope st_taken_behind, fun _ => true⟩ (defBody st_taken_behind) = true := by decide +kernel
theorem sc_taken_behind : FnScope n_taken_behind f_taken_behind.sig.ps (defScope st_taken_behind) := C8.fnScope_by (by decide +kernel)
theorem par_taken_behind : PlainPar (defArgs st_taken_behind) f_taken_behind.sig.ps := ⟨by decide +kernel, by decide +kernel, rfl, rfl, rfl, rfl⟩
def dd_taken_behind : He.DefD := ⟨("taken_behind", none), "taken_behind", "taken_behind", defArgs st_taken_behind, defBody st_taken_behind, defScope st_taken_behind, [], []⟩
theorem dt_taken_behind : DText tb prg f_taken_behind dd_taken_behind st_taken_behind n_taken_behind := ⟨rfl, rfl, rfl, rfl, ⟨[], trivial, by decide, rfl⟩, sc_taken_behind, par_taken_behind, rfl, chk_taken_behind⟩
def n_checked_beginning : List Str := ["kind", "beginning", "known", "index", "thing"]
theorem chk_checked_beginning : chkCs tb prg f_checked_beginning.body ⟨n_checked_beginning, defScope st_checked_beginning, fun _ => true⟩ (defBody st_checked_beginning) = true := by decide +kernel
theorem sc_checked_beginning : FnScope n_checked_beginning f_checked_beginning.sig.ps (defScope st_checked_beginning) := C8.fnScope_by (by decide +kernel)
theorem par_checked_beginning : PlainPar (defArgs st_checked_beginning) f_checked_beginning.sig.ps := ⟨by decide +kernel, by decide +kernel, rfl, rfl, rfl, rfl⟩
def dd_checked_beginning : He.DefD := ⟨("checked_beginning", none), "checked_beginning", "checked_beginning", defArgs st_checked_beginning, defBody st_checked_beginning, defScope st_checked_beginning, [], []⟩
theorem dt_checked_beginning : DText tb prg f_checked_beginning dd_checked_beginning st_checked_beginning n_checked_beginning := ⟨rfl, rfl, rfl, rfl, ⟨[], trivial, by decide, rfl⟩, sc_checked_beginning, par_checked_beginning, rfl, chk_checked_beginning⟩
def n_checked_deeds : List Str := ["beginning", "deeds", "thing", "things", "known", "index", "deed"]
theorem chk_checked_deeds : chkCs tb prg f_checked_deeds.body ⟨n_checked_deeds, defScope st_checked_deeds, fun _ => true⟩ (defBody st_checked_deeds) = true := by decide +kernel
theorem sc_checked_deeds : FnScope n_checked_deeds f_checked_deeds.sig.ps (defScope st_checked_deeds) := C8.fnScope_by (by decide +kernel)
theorem par_checked_deeds : PlainPar (defArgs st_checked_deeds) f_checked_deeds.sig.ps := ⟨by decide +kernel, by decide +kernel, rfl, rfl, rfl, rfl⟩
def dd_checked_deeds : He.DefD := ⟨("checked_deeds", none), "checked_deeds", "checked_deeds", defArgs st_checked_deeds, defBody st_checked_deeds, defScope st_checked_deeds, [], []⟩
theorem dt_checked_deeds : DText tb prg f_checked_deeds dd_checked_deeds st_checked_deeds n_checked_deeds := ⟨rfl, rfl, rfl, rfl, ⟨[], trivial, by decide, rfl⟩, sc_checked_deeds, par_checked_deeds, rfl, chk_checked_deeds⟩
def n_Past___init__ : List Str := ["self", "kind", "beginning", "deeds"]
theorem chk_Past___init__ : chkCs tb prg f_Past___init__.body ⟨n_Past___init__, defScope st_Past___init__, fun _ => true⟩ (defBody st_Past___init__) = true := by decide +kernel
theorem sc_Past___init__ : FnScope n_Past___init__ f_Past___init__.sig.ps (defScope st_Past___init__) := C8.fnScope_by (by decide +kernel)
theorem par_Past___init__ : PlainPar (defArgs st_Past___init__) f_Past___init__.sig.ps := ⟨by decide +kernel, by decide +kernel, rfl, rfl, rfl, rfl⟩
def dd_Past___init__ : He.DefD := ⟨("Past", some "__init__"), "__init__", "Past.__init__", defArgs st_Past___init__, defBody st_Past___init__, defScope st_Past___init__, [.adr (dfAd ("Past", some "__init__") 0), .adr (dfAd ("Past", some "__init__") 1)], []⟩
theorem dt_Past___init__ : DText tb prg f_Past___init__ dd_Past___init__ st_Past___init__ n_Past___init__ := ⟨rfl, rfl, rfl, rfl, ⟨[none, none], trivial, by decide, rfl⟩, sc_Past___init__, par_Past___init__, rfl, chk_Past___init__⟩
def n_Past___len__ : List Str := ["self"]
theorem chk_Past___len__ : chkCs tb prg f_Past___len__.body ⟨n_Past___len__, defScope st_Past___len__, fun _ => true⟩ (defBody st_Past___len__) = true := by decide +kernel
theorem sc_Past___len__ : FnScope n_Past___len__ f_Past___len__.sig.ps (defScope st_Past___len__) := C8.fnScope_by (by decide +kernel)
theorem par_Past___len__ : PlainPar (defArgs st_Past___len__) f_Past___len__.sig.ps := ⟨by decide +kernel, by decide +kernel, rfl, rfl, rfl, rfl⟩
def dd_Past___len__ : He.DefD := ⟨("Past", some "__len__"), "__len__", "Past.__len__", defArgs st_Past___len__, defBody st_Past___len__, defScope st_Past___len__, [], []⟩
theorem dt_Past___len__ : DText tb prg f_Past___len__ dd_Past___len__ st_Past___len__ n_Past___len__ := ⟨rfl, rfl, rfl, rfl, ⟨[], trivial, by decide, rfl⟩, sc_Past___len__, par_Past___len__, rfl, chk_Past___len__⟩
def n_Past___contains__ : List Str := ["self", "moment"]
theorem chk_Past___contains__ : chkCs tb prg f_Past___contains__.body ⟨n_Past___contains__, defScope st_Past___contains__, fun _ => true⟩ (defBody st_Past___contains__) = true := by decide +kernel
theorem sc_Past___contains__ : FnScope n_Past___contains__ f_Past___contains__.sig.ps (defScope st_Past___contains__) := C8.fnScope_by (by decide +kernel)
theorem par_Past___contains__ : PlainPar (defArgs st_Past___contains__) f_Past___contains__.sig.ps := ⟨by decide +kernel, by decide +kernel, rfl, rfl, rfl, rfl⟩
def dd_Past___contains__ : He.DefD := ⟨("Past", some "__contains__"), "__contains__", "Past.__contains__", defArgs st_Past___contains__, defBody st_Past___contains__, defScope st_Past___contains__, [], []⟩
theorem dt_Past___contains__ : DText tb prg f_Past___contains__ dd_Past___contains__ st_Past___contains__ n_Past___contains__ := ⟨rfl, rfl, rfl, rfl, ⟨[], trivial, by decide, rfl⟩, sc_Past___contains__, par_Past___contains__, rfl, chk_Past___contains__⟩
def n_Past___getitem__ : List Str := ["self", "moment"]
theorem chk_Past___getitem__ : chkCs tb prg f_Past___getitem__.body ⟨n_Past___getitem__, defScope st_Past___getitem__, fun _ => true⟩ (defBody st_Past___getitem__) = true := by decide +kernel
theorem sc_Past___getitem__ : FnScope n_Past___getitem__ f_Past___getitem__.sig.ps (defScope st_Past___getitem__) := C8.fnScope_by (by decide +kernel)
theorem par_Past___getitem__ : PlainPar (defArgs st_Past___getitem__) f_Past___getitem__.sig.ps := ⟨by decide +kernel, by decide +kernel, rfl, rfl, rfl, rfl⟩
def dd_Past___getitem__ : He.DefD := ⟨("Past", some "__getitem__"), "__getitem__", "Past.__getitem__", defArgs st_Past___getitem__, defBody st_Past___getitem__, defScope st_Past___getitem__, [], []⟩
theorem dt_Past___getitem__ : DText tb prg f_Past___getitem__ dd_Past___getitem__ st_Past___getitem__ n_Past___getitem__ := ⟨rfl, rfl, rfl, rfl, ⟨[], trivial, by decide, rfl⟩, sc_Past___getitem__, par_Past___getitem__, rfl, chk_Past___getitem__⟩
def n_Past___eq__ : List Str := ["self", "other"]
theorem chk_Past___eq__ : chkCs tb prg f_Past___eq__.body ⟨n_Past___eq__, defScope st_Past___eq__, fun _ => true⟩ (defBody st_Past___eq__) = true := by decide +kernel
theorem sc_Past___eq__ : FnScope n_Past___eq__ f_Past___eq__.sig.ps (defScope st_Past___eq__) := C8.fnScope_by (by decide +kernel)
theorem par_Past___eq__ : PlainPar (defArgs st_Past___eq__) f_Past___eq__.sig.ps := ⟨by decide +kernel, by decide +kernel, rfl, rfl, rfl, rfl⟩
def dd_Past___eq__ : He.DefD := ⟨("Past", some "__eq__"), "__eq__", "Past.__eq__", defArgs st_Past___eq__, defBody st_Past___eq__, defScope st_Past___eq__, [], []⟩
theorem dt_Past___eq__ : DText tb prg f_Past___eq__ dd_Past___eq__ st_Past___eq__ n_Past___eq__ := ⟨rfl, rfl, rfl, rfl, ⟨[], trivial, by decide, rfl⟩, sc_Past___eq__, par_Past___eq__, rfl, chk_Past___eq__⟩
def n_Past_deeds_told : List Str := ["self", "moment"]
theorem chk_Past_deeds_told : chkCs tb prg f_Past_deeds_told.body ⟨n_Past_deeds_told, defScope st_Past_deeds_told, fun _ => true⟩ (defBody st_Past_deeds_told) = true := by decide +kernel
theorem sc_Past_deeds_told : FnScope n_Past_deeds_told f_Past_deeds_told.sig.ps (defScope st_Past_deeds_told) := C8.fnScope_by (by decide +kernel)
theorem par_Past_deeds_told : PlainPar (defArgs st_Past_deeds_told) f_Past_deeds_told.sig.ps := ⟨by decide +kernel, by decide +kernel, rfl, rfl, rfl, rfl⟩
def dd_Past_deeds_told : He.DefD := ⟨("Past", some "deeds_told"), "deeds_told", "Past.deeds_told", defArgs st_Past_deeds_told, defBody st_Past_deeds_told, defScope st_Past_deeds_told, [], []⟩
theorem dt_Past_deeds_told : DText tb prg f_Past_deeds_told dd_Past_deeds_told st_Past_deeds_told n_Past_deeds_told := ⟨rfl, rfl, rfl, rfl, ⟨[], trivial, by decide, rfl⟩, sc_Past_deeds_told, par_Past_deeds_told, rfl, chk_Past_deeds_told⟩
def n_Past_things : List Str := ["self", "put", "deed", "thing"]
theorem chk_Past_things : chkCs tb prg f_Past_things.body ⟨n_Past_things, defScope st_Past_things, fun _ => true⟩ (defBody st_Past_things) = true := by decide +kernel
theorem sc_Past_things : FnScope n_Past_things f_Past_things.sig.ps (defScope st_Past_things) := C8.fnScope_by (by decide +kernel)
theorem par_Past_things : PlainPar (defArgs st_Past_things) f_Past_things.sig.ps := ⟨by decide +kernel, by decide +kernel, rfl, rfl, rfl, rfl⟩
def dd_Past_things : He.DefD := ⟨("Past", some "things"), "things", "Past.things", defArgs st_Past_things, defBody st_Past_things, defScope st_Past_things, [], []⟩
theorem dt_Past_things : DText tb prg f_Past_things dd_Past_things st_Past_things n_Past_things := ⟨rfl, rfl, rfl, rfl, ⟨[], trivial, by decide, rfl⟩, sc_Past_things, par_Past_things, rfl, chk_Past_things⟩
def n_Past_has : List Str := ["self", "thing"]
theorem chk_Past_has : chkCs tb prg f_Past_has.body ⟨n_Past_has, defScope st_Past_has, fun _ => true⟩ (defBody st_Past_has) = true := by decide +kernel
theorem sc_Past_has : FnScope n_Past_has f_Past_has.sig.ps (defScope st_Past_has) := C8.fnScope_by (by decide +kernel)
theorem par_Past_has : PlainPar (defArgs st_Past_has) f_Past_has.sig.ps := ⟨by decide +kernel, by decide +kernel, rfl, rfl, rfl, rfl⟩
def dd_Past_has : He.DefD := ⟨("Past", some "has"), "has", "Past.has", defArgs st_Past_has, defBody st_Past_has, defScope st_Past_has, [], []⟩
theorem dt_Past_has : DText tb prg f_Past_has dd_Past_has st_Past_has n_Past_has := ⟨rfl, rfl, rfl, rfl, ⟨[], trivial, by decide, rfl⟩, sc_Past_has, par_Past_has, rfl, chk_Past_has⟩
def n_Past_held : List Str := ["self", "moment", "within", "deed", "answer", "behind"]
theorem chk_Past_held : chkCs tb prg f_Past_held.body ⟨n_Past_held, defScope st_Past_held, fun _ => true⟩ (defBody st_Past_held) = true := by decide +kernel
theorem sc_Past_held : FnScope n_Past_held f_Past_held.sig.ps (defScope st_Past_held) := C8.fnScope_by (by decide +kernel)
theorem par_Past_held : PlainPar (defArgs st_Past_held) f_Past_held.sig.ps := ⟨by decide +kernel, by decide +kernel, rfl, rfl, rfl, rfl⟩
def dd_Past_held : He.DefD := ⟨("Past", some "held"), "held", "Past.held", defArgs st_Past_held, defBody st_Past_held, defScope st_Past_held, [dv (.int 9999)], []⟩
theorem dt_Past_held : DText tb prg f_Past_held dd_Past_held st_Past_held n_Past_held := ⟨rfl, rfl, rfl, rfl, ⟨[some (.int 9999)], ⟨rfl, rfl, trivial⟩, by decide, rfl⟩, sc_Past_held, par_Past_held, rfl, chk_Past_held⟩
def n_Past_answers : List Str := ["self", "deed", "answer", "behind"]
theorem chk_Past_answers : chkCs tb prg f_Past_answers.body ⟨n_Past_answers, defScope st_Past_answers, fun _ => true⟩ (defBody st_Past_answers) = true := by decide +kernel
theorem sc_Past_answers : FnScope n_Past_answers f_Past_answers.sig.ps (defScope st_Past_answers) := C8.fnScope_by (by decide +kernel)
theorem par_Past_answers : PlainPar (defArgs st_Past_answers) f_Past_answers.sig.ps := ⟨by decide +kernel, by decide +kernel, rfl, rfl, rfl, rfl⟩
def dd_Past_answers : He.DefD := ⟨("Past", some "answers"), "answers", "Past.answers", defArgs st_Past_answers, defBody st_Past_answers, defScope st_Past_answers, [], []⟩
theorem dt_Past_answers : DText tb prg f_Past_answers dd_Past_answers st_Past_answers n_Past_answers := ⟨rfl, rfl, rfl, rfl, ⟨[], trivial, by decide, rfl⟩, sc_Past_answers, par_Past_answers, rfl, chk_Past_answers⟩
def n_Past_answer : List Str := ["self", "moment", "known", "answer"]
theorem chk_Past_answer : chkCs tb prg f_Past_answer.body ⟨n_Past_answer, defScope st_Past_answer, fun _ => true⟩ (defBody st_Past_answer) = true := by decide +kernel
theorem sc_Past_answer : FnScope n_Past_answer f_Past_answer.sig.ps (defScope st_Past_answer) := C8.fnScope_by (by decide +kernel)
theorem par_Past_answer : PlainPar (defArgs st_Past_answer) f_Past_answer.sig.ps := ⟨by decide +kernel, by decide +kernel, rfl, rfl, rfl, rfl⟩
def dd_Past_answer : He.DefD := ⟨("Past", some "answer"), "answer", "Past.answer", defArgs st_Past_answer, defBody st_Past_answer, defScope st_Past_answer, [], []⟩
theorem dt_Past_answer : DText tb prg f_Past_answer dd_Past_answer st_Past_answer n_Past_answer := ⟨rfl, rfl, rfl, rfl, ⟨[], trivial, by decide, rfl⟩, sc_Past_answer, par_Past_answer, rfl, chk_Past_answer⟩
def n_check_past : List Str := ["past"]
theorem chk_check_past : chkCs tb prg f_check_past.body ⟨n_check_past, defScope st_check_past, fun _ => true⟩ (defBody st_check_past) = true := by decide +kernel
theorem sc_check_past : FnScope n_check_past f_check_past.sig.ps (defScope st_check_past) := C8.fnScope_by (by decide +kernel)
theorem par_check_past : PlainPar (defArgs st_check_past) f_check_past.sig.ps := ⟨by decide +kernel, by decide +kernel, rfl, rfl, rfl, rfl⟩
def dd_check_past : He.DefD := ⟨("check_past", none), "check_past", "check_past", defArgs st_check_past, defBody st_check_past, defScope st_check_past, [], []⟩
theorem dt_check_past : DText tb prg f_check_past dd_check_past st_check_past n_check_past := ⟨rfl, rfl, rfl, rfl, ⟨[], trivial, by decide, rfl⟩, sc_check_past, par_check_past, rfl, chk_check_past⟩
def n_is_change : List Str := ["value"]
theorem chk_is_change : chkCs tb prg f_is_change.body ⟨n_is_change, defScope st_is_change, fun _ => true⟩ (defBody st_is_change) = true := by decide +kernel
theorem sc_is_change : FnScope n_is_change f_is_change.sig.ps (defScope st_is_change) := C8.fnScope_by (by decide +kernel)
theorem par_is_change : PlainPar (defArgs st_is_change) f_is_change.sig.ps := ⟨by decide +kernel, by decide +kernel, rfl, rfl, rfl, rfl⟩
def dd_is_change : He.DefD := ⟨("is_change", none), "is_change", "is_change", defArgs st_is_change, defBody st_is_change, defScope st_is_change, [], []⟩
theorem dt_is_change : DText tb prg f_is_change dd_is_change st_is_change n_is_change := ⟨rfl, rfl, rfl, rfl, ⟨[], trivial, by decide, rfl⟩, sc_is_change, par_is_change, rfl, chk_is_change⟩
def n_moment_changed : List Str := ["change"]
theorem chk_moment_changed : chkCs tb prg f_moment_changed.body ⟨n_moment_changed, defScope st_moment_changed, fun _ => true⟩ (defBody st_moment_changed) = true := by decide +kernel
theorem sc_moment_changed : FnScope n_moment_changed f_moment_changed.sig.ps (defScope st_moment_changed) := C8.fnScope_by (by decide +kernel)
theorem par_moment_changed : PlainPar (defArgs st_moment_changed) f_moment_changed.sig.ps := ⟨by decide +kernel, by decide +kernel, rfl, rfl, rfl, rfl⟩
def dd_moment_changed : He.DefD := ⟨("moment_changed", none), "moment_changed", "moment_changed", defArgs st_moment_changed, defBody st_moment_changed, defScope st_moment_changed, [], []⟩
theorem dt_moment_changed : DText tb prg f_moment_changed dd_moment_changed st_moment_changed n_moment_changed := ⟨rfl, rfl, rfl, rfl, ⟨[], trivial, by decide, rfl⟩, sc_moment_changed, par_moment_changed, rfl, chk_moment_changed⟩
def n_reason_against : List Str := ["past", "change"]
theorem chk_reason_against : chkCs tb prg f_reason_against.body ⟨n_reason_against, defScope st_reason_against, fun _ => true⟩ (defBody st_reason_against) = true := by decide +kernel
theorem sc_reason_against : FnScope n_reason_against f_reason_against.sig.ps (defScope st_reason_against) := C8.fnScope_by (by decide +kernel)
theorem par_reason_against : PlainPar (defArgs st_reason_against) f_reason_against.sig.ps := ⟨by decide +kernel, by decide +kernel, rfl, rfl, rfl, rfl⟩
def dd_reason_against : He.DefD := ⟨("reason_against", none), "reason_against", "reason_against", defArgs st_reason_against, defBody st_reason_against, defScope st_reason_against, [], []⟩
theorem dt_reason_against : DText tb prg f_reason_against dd_reason_against st_reason_against n_reason_against := ⟨rfl, rfl, rfl, rfl, ⟨[], trivial, by decide, rfl⟩, sc_reason_against, par_reason_against, rfl, chk_reason_against⟩
def n_why_not : List Str := ["past", "change"]
theorem chk_why_not : chkCs tb prg f_why_not.body ⟨n_why_not, defScope st_why_not, fun _ => true⟩ (defBody st_why_not) = true := by decide +kernel
theorem sc_why_not : FnScope n_why_not f_why_not.sig.ps (defScope st_why_not) := C8.fnScope_by (by decide +kernel)
theorem par_why_not : PlainPar (defArgs st_why_not) f_why_not.sig.ps := ⟨by decide +kernel, by decide +kernel, rfl, rfl, rfl, rfl⟩
def dd_why_not : He.DefD := ⟨("why_not", none), "why_not", "why_not", defArgs st_why_not, defBody st_why_not, defScope st_why_not, [], []⟩
theorem dt_why_not : DText tb prg f_why_not dd_why_not st_why_not n_why_not := ⟨rfl, rfl, rfl, rfl, ⟨[], trivial, by decide, rfl⟩, sc_why_not, par_why_not, rfl, chk_why_not⟩
def n_check_change : List Str := ["past", "change"]
theorem chk_check_change : chkCs tb prg f_check_change.body ⟨n_check_change, defScope st_check_change, fun _ => true⟩ (defBody st_check_change) = true := by decide +kernel
theorem sc_check_change : FnScope n_check_change f_check_change.sig.ps (defScope st_check_change) := C8.fnScope_by (by decide +kernel)
theorem par_check_change : PlainPar (defArgs st_check_change) f_check_change.sig.ps := ⟨by decide +kernel, by decide +kernel, rfl, rfl, rfl, rfl⟩
def dd_check_change : He.DefD := ⟨("check_change", none), "check_change", "check_change", defArgs st_check_change, defBody st_check_change, defScope st_check_change, [], []⟩
theorem dt_check_change : DText tb prg f_check_change dd_check_change st_check_change n_check_change := ⟨rfl, rfl, rfl, rfl, ⟨[], trivial, by decide, rfl⟩, sc_check_change, par_check_change, rfl, chk_check_change⟩
def n_gives_more : List Str := ["past", "change"]
theorem chk_gives_more : chkCs tb prg f_gives_more.body ⟨n_gives_more, defScope st_gives_more, fun _ => true⟩ (defBody st_gives_more) = true := by decide +kernel
theorem sc_gives_more : FnScope n_gives_more f_gives_more.sig.ps (defScope st_gives_more) := C8.fnScope_by (by decide +kernel)
theorem par_gives_more : PlainPar (defArgs st_gives_more) f_gives_more.sig.ps := ⟨by decide +kernel, by decide +kernel, rfl, rfl, rfl, rfl⟩
def dd_gives_more : He.DefD := ⟨("gives_more", none), "gives_more", "gives_more", defArgs st_gives_more, defBody st_gives_more, defScope st_gives_more, [], []⟩
theorem dt_gives_more : DText tb prg f_gives_more dd_gives_more st_gives_more n_gives_more := ⟨rfl, rfl, rfl, rfl, ⟨[], trivial, by decide, rfl⟩, sc_gives_more, par_gives_more, rfl, chk_gives_more⟩
def n_first_spot : List Str := ["past", "change", "moment", "deed"]
theorem chk_first_spot : chkCs tb prg f_first_spot.body ⟨n_first_spot, defScope st_first_spot, fun _ => true⟩ (defBody st_first_spot) = true := by decide +kernel
theorem sc_first_spot : FnScope n_first_spot f_first_spot.sig.ps (defScope st_first_spot) := C8.fnScope_by (by decide +kernel)
theorem par_first_spot : PlainPar (defArgs st_first_spot) f_first_spot.sig.ps := ⟨by decide +kernel, by decide +kernel, rfl, rfl, rfl, rfl⟩
def dd_first_spot : He.DefD := ⟨("first_spot", none), "first_spot", "first_spot", defArgs st_first_spot, defBody st_first_spot, defScope st_first_spot, [], []⟩
theorem dt_first_spot : DText tb prg f_first_spot dd_first_spot st_first_spot n_first_spot := ⟨rfl, rfl, rfl, rfl, ⟨[], trivial, by decide, rfl⟩, sc_first_spot, par_first_spot, rfl, chk_first_spot⟩
def n_more_behind : List Str := ["kind", "spot", "deed", "answer", "thing", "place"]
theorem chk_more_behind : chkCs tb prg f_more_behind.body ⟨n_more_behind, defScope st_more_behind, fun _ => true⟩ (defBody st_more_behind) = true := by decide +kernel
theorem sc_more_behind : FnScope n_more_behind f_more_behind.sig.ps (defScope st_more_behind) := C8.fnScope_by (by decide +kernel)
theorem par_more_behind : PlainPar (defArgs st_more_behind) f_more_behind.sig.ps := ⟨by decide +kernel, by decide +kernel, rfl, rfl, rfl, rfl⟩
def dd_more_behind : He.DefD := ⟨("more_behind", none), "more_behind", "more_behind", defArgs st_more_behind, defBody st_more_behind, defScope st_more_behind, [], []⟩
theorem dt_more_behind : DText tb prg f_more_behind dd_more_behind st_more_behind n_more_behind := ⟨rfl, rfl, rfl, rfl, ⟨[], trivial, by decide, rfl⟩, sc_more_behind, par_more_behind, rfl, chk_more_behind⟩
def n_less_behind : List Str := ["kind", "spot", "deed", "answer", "within"]
theorem chk_less_behind : chkCs tb prg f_less_behind.body ⟨n_less_behind, defScope st_less_behind, fun _ => true⟩ (defBody st_less_behind) = true := by decide +kernel
theorem sc_less_behind : FnScope n_less_behind f_less_behind.sig.ps (defScope st_less_behind) := C8.fnScope_by (by decide +kernel)
theorem par_less_behind : PlainPar (defArgs st_less_behind) f_less_behind.sig.ps := ⟨by decide +kernel, by decide +kernel, rfl, rfl, rfl, rfl⟩
def dd_less_behind : He.DefD := ⟨("less_behind", none), "less_behind", "less_behind", defArgs st_less_behind, defBody st_less_behind, defScope st_less_behind, [], []⟩
theorem dt_less_behind : DText tb prg f_less_behind dd_less_behind st_less_behind n_less_behind := ⟨rfl, rfl, rfl, rfl, ⟨[], trivial, by decide, rfl⟩, sc_less_behind, par_less_behind, rfl, chk_less_behind⟩
def n_turns_of : List Str := ["spots", "last", "found", "moment", "spot"]
theorem chk_turns_of : chkCs tb prg f_turns_of.body ⟨n_turns_of, defScope st_turns_of, fun _ => true⟩ (defBody st_turns_of) = true := by decide +kernel
theorem sc_turns_of : FnScope n_turns_of f_turns_of.sig.ps (defScope st_turns_of) := C8.fnScope_by (by decide +kernel)
theorem par_turns_of : PlainPar (defArgs st_turns_of) f_turns_of.sig.ps := ⟨by decide +kernel, by decide +kernel, rfl, rfl, rfl, rfl⟩
def dd_turns_of : He.DefD := ⟨("turns_of", none), "turns_of", "turns_of", defArgs st_turns_of, defBody st_turns_of, defScope st_turns_of, [], []⟩
theorem dt_turns_of : DText tb prg f_turns_of dd_turns_of st_turns_of n_turns_of := ⟨rfl, rfl, rfl, rfl, ⟨[], trivial, by decide, rfl⟩, sc_turns_of, par_turns_of, rfl, chk_turns_of⟩
def n_Wander___init__ : List Str := ["self", "past", "change", "deed", "answer", "within"]
theorem chk_Wander___init__ : chkCs tb prg f_Wander___init__.body ⟨n_Wander___init__, defScope st_Wander___init__, fun _ => true⟩ (defBody st_Wander___init__) = true := by decide +kernel
theorem sc_Wander___init__ : FnScope n_Wander___init__ f_Wander___init__.sig.ps (defScope st_Wander___init__) := C8.fnScope_by (by decide +kernel)
theorem par_Wander___init__ : PlainPar (defArgs st_Wander___init__) f_Wander___init__.sig.ps := ⟨by decide +kernel, by decide +kernel, rfl, rfl, rfl, rfl⟩
def dd_Wander___init__ : He.DefD := ⟨("Wander", some "__init__"), "__init__", "Wander.__init__", defArgs st_Wander___init__, defBody st_Wander___init__, defScope st_Wander___init__, [], []⟩
theorem dt_Wander___init__ : DText tb prg f_Wander___init__ dd_Wander___init__ st_Wander___init__ n_Wander___init__ := ⟨rfl, rfl, rfl, rfl, ⟨[], trivial, by decide, rfl⟩, sc_Wander___init__, par_Wander___init__, rfl, chk_Wander___init__⟩
def n_Wander_go_on : List Str := ["self", "deed", "answer", "within", "spot", "kind", "later"]
theorem chk_Wander_go_on : chkCs tb prg f_Wander_go_on.body ⟨n_Wander_go_on, defScope st_Wander_go_on, fun _ => true⟩ (defBody st_Wander_go_on) = true := by decide +kernel
theorem sc_Wander_go_on : FnScope n_Wander_go_on f_Wander_go_on.sig.ps (defScope st_Wander_go_on) := C8.fnScope_by (by decide +kernel)
theorem par_Wander_go_on : PlainPar (defArgs st_Wander_go_on) f_Wander_go_on.sig.ps := ⟨by decide +kernel, by decide +kernel, rfl, rfl, rfl, rfl⟩
def dd_Wander_go_on : He.DefD := ⟨("Wander", some "go_on"), "go_on", "Wander.go_on", defArgs st_Wander_go_on, defBody st_Wander_go_on, defScope st_Wander_go_on, [], []⟩
theorem dt_Wander_go_on : DText tb prg f_Wander_go_on dd_Wander_go_on st_Wander_go_on n_Wander_go_on := ⟨rfl, rfl, rfl, rfl, ⟨[], trivial, by decide, rfl⟩, sc_Wander_go_on, par_Wander_go_on, rfl, chk_Wander_go_on⟩
def n_Wander___len__ : List Str := ["self"]
theorem chk_Wander___len__ : chkCs tb prg f_Wander___len__.body ⟨n_Wander___len__, defScope st_Wander___len__, fun _ => true⟩ (defBody st_Wander___len__) = true := by decide +kernel
theorem sc_Wander___len__ : FnScope n_Wander___len__ f_Wander___len__.sig.ps (defScope st_Wander___len__) := C8.fnScope_by (by decide +kernel)
theorem par_Wander___len__ : PlainPar (defArgs st_Wander___len__) f_Wander___len__.sig.ps := ⟨by decide +kernel, by decide +kernel, rfl, rfl, rfl, rfl⟩
def dd_Wander___len__ : He.DefD := ⟨("Wander", some "__len__"), "__len__", "Wander.__len__", defArgs st_Wander___len__, defBody st_Wander___len__, defScope st_Wander___len__, [], []⟩
theorem dt_Wander___len__ : DText tb prg f_Wander___len__ dd_Wander___len__ st_Wander___len__ n_Wander___len__ := ⟨rfl, rfl, rfl, rfl, ⟨[], trivial, by decide, rfl⟩, sc_Wander___len__, par_Wander___len__, rfl, chk_Wander___len__⟩
def n_Wander___eq__ : List Str := ["self", "other"]
theorem chk_Wander___eq__ : chkCs tb prg f_Wander___eq__.body ⟨n_Wander___eq__, defScope st_Wander___eq__, fun _ => true⟩ (defBody st_Wander___eq__) = true := by decide +kernel
theorem sc_Wander___eq__ : FnScope n_Wander___eq__ f_Wander___eq__.sig.ps (defScope st_Wander___eq__) := C8.fnScope_by (by decide +kernel)
theorem par_Wander___eq__ : PlainPar (defArgs st_Wander___eq__) f_Wander___eq__.sig.ps := ⟨by decide +kernel, by decide +kernel, rfl, rfl, rfl, rfl⟩
def dd_Wander___eq__ : He.DefD := ⟨("Wander", some "__eq__"), "__eq__", "Wander.__eq__", defArgs st_Wander___eq__, defBody st_Wander___eq__, defScope st_Wander___eq__, [], []⟩
theorem dt_Wander___eq__ : DText tb prg f_Wander___eq__ dd_Wander___eq__ st_Wander___eq__ n_Wander___eq__ := ⟨rfl, rfl, rfl, rfl, ⟨[], trivial, by decide, rfl⟩, sc_Wander___eq__, par_Wander___eq__, rfl, chk_Wander___eq__⟩
def n_Wander_spot_at : List Str := ["self", "moment", "found", "known", "spot"]
theorem chk_Wander_spot_at : chkCs tb prg f_Wander_spot_at.body ⟨n_Wander_spot_at, defScope st_Wander_spot_at, fun _ => true⟩ (defBody st_Wander_spot_at) = true := by decide +kernel
theorem sc_Wander_spot_at : FnScope n_Wander_spot_at f_Wander_spot_at.sig.ps (defScope st_Wander_spot_at) := C8.fnScope_by (by decide +kernel)
theorem par_Wander_spot_at : PlainPar (defArgs st_Wander_spot_at) f_Wander_spot_at.sig.ps := ⟨by decide +kernel, by decide +kernel, rfl, rfl, rfl, rfl⟩
def dd_Wander_spot_at : He.DefD := ⟨("Wander", some "spot_at"), "spot_at", "Wander.spot_at", defArgs st_Wander_spot_at, defBody st_Wander_spot_at, defScope st_Wander_spot_at, [], []⟩
theorem dt_Wander_spot_at : DText tb prg f_Wander_spot_at dd_Wander_spot_at st_Wander_spot_at n_Wander_spot_at := ⟨rfl, rfl, rfl, rfl, ⟨[], trivial, by decide, rfl⟩, sc_Wander_spot_at, par_Wander_spot_at, rfl, chk_Wander_spot_at⟩
def n_Wander_extra : List Str := ["self", "moment", "thing"]
theorem chk_Wander_extra : chkCs tb prg f_Wander_extra.body ⟨n_Wander_extra, defScope st_Wander_extra, fun _ => true⟩ (defBody st_Wander_extra) = true := by decide +kernel
theorem sc_Wander_extra : FnScope n_Wander_extra f_Wander_extra.sig.ps (defScope st_Wander_extra) := C8.fnScope_by (by decide +kernel)
theorem par_Wander_extra : PlainPar (defArgs st_Wander_extra) f_Wander_extra.sig.ps := ⟨by decide +kernel, by decide +kernel, rfl, rfl, rfl, rfl⟩
def dd_Wander_extra : He.DefD := ⟨("Wander", some "extra"), "extra", "Wander.extra", defArgs st_Wander_extra, defBody st_Wander_extra, defScope st_Wander_extra, [dv (.int 9999)], []⟩
theorem dt_Wander_extra : DText tb prg f_Wander_extra dd_Wander_extra st_Wander_extra n_Wander_extra := ⟨rfl, rfl, rfl, rfl, ⟨[some (.int 9999)], ⟨rfl, rfl, trivial⟩, by decide, rfl⟩, sc_Wander_extra, par_Wander_extra, rfl, chk_Wander_extra⟩
def n_Wander_held : List Str := ["self", "moment", "within", "ahead", "thing", "place", "one"]
theorem chk_Wander_held : chkCs tb prg f_Wander_held.body ⟨n_Wander_held, defScope st_Wander_held, fun _ => true⟩ (defBody st_Wander_held) = true := by decide +kernel
theorem sc_Wander_held : FnScope n_Wander_held f_Wander_held.sig.ps (defScope st_Wander_held) := C8.fnScope_by (by decide +kernel)
theorem par_Wander_held : PlainPar (defArgs st_Wander_held) f_Wander_held.sig.ps := ⟨by decide +kernel, by decide +kernel, rfl, rfl, rfl, rfl⟩
def dd_Wander_held : He.DefD := ⟨("Wander", some "held"), "held", "Wander.held", defArgs st_Wander_held, defBody st_Wander_held, defScope st_Wander_held, [dv (.int 9999)], []⟩
theorem dt_Wander_held : DText tb prg f_Wander_held dd_Wander_held st_Wander_held n_Wander_held := ⟨rfl, rfl, rfl, rfl, ⟨[some (.int 9999)], ⟨rfl, rfl, trivial⟩, by decide, rfl⟩, sc_Wander_held, par_Wander_held, rfl, chk_Wander_held⟩
def n_Wander_answer : List Str := ["self", "moment", "found", "known", "answer", "later"]
theorem chk_Wander_answer : chkCs tb prg f_Wander_answer.body ⟨n_Wander_answer, defScope st_Wander_answer, fun _ => true⟩ (defBody st_Wander_answer) = true := by decide +kernel
theorem sc_Wander_answer : FnScope n_Wander_answer f_Wander_answer.sig.ps (defScope st_Wander_answer) := C8.fnScope_by (by decide +kernel)
theorem par_Wander_answer : PlainPar (defArgs st_Wander_answer) f_Wander_answer.sig.ps := ⟨by decide +kernel, by decide +kernel, rfl, rfl, rfl, rfl⟩
def dd_Wander_answer : He.DefD := ⟨("Wander", some "answer"), "answer", "Wander.answer", defArgs st_Wander_answer, defBody st_Wander_answer, defScope st_Wander_answer, [], []⟩
theorem dt_Wander_answer : DText tb prg f_Wander_answer dd_Wander_answer st_Wander_answer n_Wander_answer := ⟨rfl, rfl, rfl, rfl, ⟨[], trivial, by decide, rfl⟩, sc_Wander_answer, par_Wander_answer, rfl, chk_Wander_answer⟩
def n_chain : List Str := ["past", "change"]
theorem chk_chain : chkCs tb prg f_chain.body ⟨n_chain, defScope st_chain, fun _ => true⟩ (defBody st_chain) = true := by decide +kernel
theorem sc_chain : FnScope n_chain f_chain.sig.ps (defScope st_chain) := C8.fnScope_by (by decide +kernel)
theorem par_chain : PlainPar (defArgs st_chain) f_chain.sig.ps := ⟨by decide +kernel, by decide +kernel, rfl, rfl, rfl, rfl⟩
def dd_chain : He.DefD := ⟨("chain", none), "chain", "chain", defArgs st_chain, defBody st_chain, defScope st_chain, [], []⟩
theorem dt_chain : DText tb prg f_chain dd_chain st_chain n_chain := ⟨rfl, rfl, rfl, rfl, ⟨[], trivial, by decide, rfl⟩, sc_chain, par_chain, rfl, chk_chain⟩
def n_left : List Str := ["past", "change"]
theorem chk_left : chkCs tb prg f_left.body ⟨n_left, defScope st_left, fun _ => true⟩ (defBody st_left) = true := by decide +kernel
theorem sc_left : FnScope n_left f_left.sig.ps (defScope st_left) := C8.fnScope_by (by decide +kernel)
theorem par_left : PlainPar (defArgs st_left) f_left.sig.ps := ⟨by decide +kernel, by decide +kernel, rfl, rfl, rfl, rfl⟩
def dd_left : He.DefD := ⟨("left", none), "left", "left", defArgs st_left, defBody st_left, defScope st_left, [], []⟩
theorem dt_left : DText tb prg f_left dd_left st_left n_left := ⟨rfl, rfl, rfl, rfl, ⟨[], trivial, by decide, rfl⟩, sc_left, par_left, rfl, chk_left⟩
def n_healed_at : List Str := ["past", "change", "last"]
theorem chk_healed_at : chkCs tb prg f_healed_at.body ⟨n_healed_at, defScope st_healed_at, fun _ => true⟩ (defBody st_healed_at) = true := by decide +kernel
theorem sc_healed_at : FnScope n_healed_at f_healed_at.sig.ps (defScope st_healed_at) := C8.fnScope_by (by decide +kernel)
theorem par_healed_at : PlainPar (defArgs st_healed_at) f_healed_at.sig.ps := ⟨by decide +kernel, by decide +kernel, rfl, rfl, rfl, rfl⟩
def dd_healed_at : He.DefD := ⟨("healed_at", none), "healed_at", "healed_at", defArgs st_healed_at, defBody st_healed_at, defScope st_healed_at, [], []⟩
theorem dt_healed_at : DText tb prg f_healed_at dd_healed_at st_healed_at n_healed_at := ⟨rfl, rfl, rfl, rfl, ⟨[], trivial, by decide, rfl⟩, sc_healed_at, par_healed_at, rfl, chk_healed_at⟩
def n_check_least : List Str := ["past"]
theorem chk_check_least : chkCs tb prg f_check_least.body ⟨n_check_least, defScope st_check_least, fun _ => true⟩ (defBody st_check_least) = true := by decide +kernel
theorem sc_check_least : FnScope n_check_least f_check_least.sig.ps (defScope st_check_least) := C8.fnScope_by (by decide +kernel)
theorem par_check_least : PlainPar (defArgs st_check_least) f_check_least.sig.ps := ⟨by decide +kernel, by decide +kernel, rfl, rfl, rfl, rfl⟩
def dd_check_least : He.DefD := ⟨("check_least", none), "check_least", "check_least", defArgs st_check_least, defBody st_check_least, defScope st_check_least, [], []⟩
theorem dt_check_least : DText tb prg f_check_least dd_check_least st_check_least n_check_least := ⟨rfl, rfl, rfl, rfl, ⟨[], trivial, by decide, rfl⟩, sc_check_least, par_check_least, rfl, chk_check_least⟩
def n_greatest_behind : List Str := ["past", "first", "moment", "found", "known", "answer"]
theorem chk_greatest_behind : chkCs tb prg f_greatest_behind.body ⟨n_greatest_behind, defScope st_greatest_behind, fun _ => true⟩ (defBody st_greatest_behind) = true := by decide +kernel
theorem sc_greatest_behind : FnScope n_greatest_behind f_greatest_behind.sig.ps (defScope st_greatest_behind) := C8.fnScope_by (by decide +kernel)
theorem par_greatest_behind : PlainPar (defArgs st_greatest_behind) f_greatest_behind.sig.ps := ⟨by decide +kernel, by decide +kernel, rfl, rfl, rfl, rfl⟩
def dd_greatest_behind : He.DefD := ⟨("greatest_behind", none), "greatest_behind", "greatest_behind", defArgs st_greatest_behind, defBody st_greatest_behind, defScope st_greatest_behind, [], []⟩
theorem dt_greatest_behind : DText tb prg f_greatest_behind dd_greatest_behind st_greatest_behind n_greatest_behind := ⟨rfl, rfl, rfl, rfl, ⟨[], trivial, by decide, rfl⟩, sc_greatest_behind, par_greatest_behind, rfl, chk_greatest_behind⟩
def n_stays_from : List Str := ["past", "moment", "last", "rows", "known", "within", "thing", "deed", "answer"]
theorem chk_stays_from : chkCs tb prg f_stays_from.body ⟨n_stays_from, defScope st_stays_from, fun _ => true⟩ (defBody st_stays_from) = true := by decide +kernel
theorem sc_stays_from : FnScope n_stays_from f_stays_from.sig.ps (defScope st_stays_from) := C8.fnScope_by (by decide +kernel)
theorem par_stays_from : PlainPar (defArgs st_stays_from) f_stays_from.sig.ps := ⟨by decide +kernel, by decide +kernel, rfl, rfl, rfl, rfl⟩
def dd_stays_from : He.DefD := ⟨("stays_from", none), "stays_from", "stays_from", defArgs st_stays_from, defBody st_stays_from, defScope st_stays_from, [], []⟩
theorem dt_stays_from : DText tb prg f_stays_from dd_stays_from st_stays_from n_stays_from := ⟨rfl, rfl, rfl, rfl, ⟨[], trivial, by decide, rfl⟩, sc_stays_from, par_stays_from, rfl, chk_stays_from⟩
def n_least_held : List Str := ["past", "moment", "within"]
theorem chk_least_held : chkCs tb prg f_least_held.body ⟨n_least_held, defScope st_least_held, fun _ => true⟩ (defBody st_least_held) = true := by decide +kernel
theorem sc_least_held : FnScope n_least_held f_least_held.sig.ps (defScope st_least_held) := C8.fnScope_by (by decide +kernel)
theorem par_least_held : PlainPar (defArgs st_least_held) f_least_held.sig.ps := ⟨by decide +kernel, by decide +kernel, rfl, rfl, rfl, rfl⟩
def dd_least_held : He.DefD := ⟨("least_held", none), "least_held", "least_held", defArgs st_least_held, defBody st_least_held, defScope st_least_held, [], []⟩
theorem dt_least_held : DText tb prg f_least_held dd_least_held st_least_held n_least_held := ⟨rfl, rfl, rfl, rfl, ⟨[], trivial, by decide, rfl⟩, sc_least_held, par_least_held, rfl, chk_least_held⟩
def n_least_left : List Str := ["past", "change", "moment", "found", "first"]
theorem chk_least_left : chkCs tb prg f_least_left.body ⟨n_least_left, defScope st_least_left, fun _ => true⟩ (defBody st_least_left) = true := by decide +kernel
theorem sc_least_left : FnScope n_least_left f_least_left.sig.ps (defScope st_least_left) := C8.fnScope_by (by decide +kernel)
theorem par_least_left : PlainPar (defArgs st_least_left) f_least_left.sig.ps := ⟨by decide +kernel, by decide +kernel, rfl, rfl, rfl, rfl⟩
def dd_least_left : He.DefD := ⟨("least_left", none), "least_left", "least_left", defArgs st_least_left, defBody st_least_left, defScope st_least_left, [], []⟩
theorem dt_least_left : DText tb prg f_least_left dd_least_left st_least_left n_least_left := ⟨rfl, rfl, rfl, rfl, ⟨[], trivial, by decide, rfl⟩, sc_least_left, par_least_left, rfl, chk_least_left⟩
def n_check_least_change : List Str := ["past", "change"]
theorem chk_check_least_change : chkCs tb prg f_check_least_change.body ⟨n_check_least_change, defScope st_check_least_change, fun _ => true⟩ (defBody st_check_least_change) = true := by decide +kernel
theorem sc_check_least_change : FnScope n_check_least_change f_check_least_change.sig.ps (defScope st_check_least_change) := C8.fnScope_by (by decide +kernel)
theorem par_check_least_change : PlainPar (defArgs st_check_least_change) f_check_least_change.sig.ps := ⟨by decide +kernel, by decide +kernel, rfl, rfl, rfl, rfl⟩
def dd_check_least_change : He.DefD := ⟨("check_least_change", none), "check_least_change", "check_least_change", defArgs st_check_least_change, defBody st_check_least_change, defScope st_check_least_change, [], []⟩
theorem dt_check_least_change : DText tb prg f_check_least_change dd_check_least_change st_check_least_change n_check_least_change := ⟨rfl, rfl, rfl, rfl, ⟨[], trivial, by decide, rfl⟩, sc_check_least_change, par_check_least_change, rfl, chk_check_least_change⟩
def n_end_behind : List Str := ["past", "change", "found", "thing"]
theorem chk_end_behind : chkCs tb prg f_end_behind.body ⟨n_end_behind, defScope st_end_behind, fun _ => true⟩ (defBody st_end_behind) = true := by decide +kernel
theorem sc_end_behind : FnScope n_end_behind f_end_behind.sig.ps (defScope st_end_behind) := C8.fnScope_by (by decide +kernel)
theorem par_end_behind : PlainPar (defArgs st_end_behind) f_end_behind.sig.ps := ⟨by decide +kernel, by decide +kernel, rfl, rfl, rfl, rfl⟩
def dd_end_behind : He.DefD := ⟨("end_behind", none), "end_behind", "end_behind", defArgs st_end_behind, defBody st_end_behind, defScope st_end_behind, [], []⟩
theorem dt_end_behind : DText tb prg f_end_behind dd_end_behind st_end_behind n_end_behind := ⟨rfl, rfl, rfl, rfl, ⟨[], trivial, by decide, rfl⟩, sc_end_behind, par_end_behind, rfl, chk_end_behind⟩
def n_check_thing : List Str := ["thing"]
theorem chk_check_thing : chkCs tb prg f_check_thing.body ⟨n_check_thing, defScope st_check_thing, fun _ => true⟩ (defBody st_check_thing) = true := by decide +kernel
theorem sc_check_thing : FnScope n_check_thing f_check_thing.sig.ps (defScope st_check_thing) := C8.fnScope_by (by decide +kernel)
theorem par_check_thing : PlainPar (defArgs st_check_thing) f_check_thing.sig.ps := ⟨by decide +kernel, by decide +kernel, rfl, rfl, rfl, rfl⟩
def dd_check_thing : He.DefD := ⟨("check_thing", none), "check_thing", "check_thing", defArgs st_check_thing, defBody st_check_thing, defScope st_check_thing, [], []⟩
theorem dt_check_thing : DText tb prg f_check_thing dd_check_thing st_check_thing n_check_thing := ⟨rfl, rfl, rfl, rfl, ⟨[], trivial, by decide, rfl⟩, sc_check_thing, par_check_thing, rfl, chk_check_thing⟩
def n_stretch_for : List Str := ["past", "thing", "low", "high", "moment", "answer"]
theorem chk_stretch_for : chkCs tb prg f_stretch_for.body ⟨n_stretch_for, defScope st_stretch_for, fun _ => true⟩ (defBody st_stretch_for) = true := by decide +kernel
theorem sc_stretch_for : FnScope n_stretch_for f_stretch_for.sig.ps (defScope st_stretch_for) := C8.fnScope_by (by decide +kernel)
theorem par_stretch_for : PlainPar (defArgs st_stretch_for) f_stretch_for.sig.ps := ⟨by decide +kernel, by decide +kernel, rfl, rfl, rfl, rfl⟩
def dd_stretch_for : He.DefD := ⟨("stretch_for", none), "stretch_for", "stretch_for", defArgs st_stretch_for, defBody st_stretch_for, defScope st_stretch_for, [], []⟩
theorem dt_stretch_for : DText tb prg f_stretch_for dd_stretch_for st_stretch_for n_stretch_for := ⟨rfl, rfl, rfl, rfl, ⟨[], trivial, by decide, rfl⟩, sc_stretch_for, par_stretch_for, rfl, chk_stretch_for⟩
def n_bounds : List Str := ["past", "thing"]
theorem chk_bounds : chkCs tb prg f_bounds.body ⟨n_bounds, defScope st_bounds, fun _ => true⟩ (defBody st_bounds) = true := by decide +kernel
theorem sc_bounds : FnScope n_bounds f_bounds.sig.ps (defScope st_bounds) := C8.fnScope_by (by decide +kernel)
theorem par_bounds : PlainPar (defArgs st_bounds) f_bounds.sig.ps := ⟨by decide +kernel, by decide +kernel, rfl, rfl, rfl, rfl⟩
def dd_bounds : He.DefD := ⟨("bounds", none), "bounds", "bounds", defArgs st_bounds, defBody st_bounds, defScope st_bounds, [], []⟩
theorem dt_bounds : DText tb prg f_bounds dd_bounds st_bounds n_bounds := ⟨rfl, rfl, rfl, rfl, ⟨[], trivial, by decide, rfl⟩, sc_bounds, par_bounds, rfl, chk_bounds⟩
def n_check_value : List Str := ["past", "value"]
theorem chk_check_value : chkCs tb prg f_check_value.body ⟨n_check_value, defScope st_check_value, fun _ => true⟩ (defBody st_check_value) = true := by decide +kernel
theorem sc_check_value : FnScope n_check_value f_check_value.sig.ps (defScope st_check_value) := C8.fnScope_by (by decide +kernel)
theorem par_check_value : PlainPar (defArgs st_check_value) f_check_value.sig.ps := ⟨by decide +kernel, by decide +kernel, rfl, rfl, rfl, rfl⟩
def dd_check_value : He.DefD := ⟨("check_value", none), "check_value", "check_value", defArgs st_check_value, defBody st_check_value, defScope st_check_value, [], []⟩
theorem dt_check_value : DText tb prg f_check_value dd_check_value st_check_value n_check_value := ⟨rfl, rfl, rfl, rfl, ⟨[], trivial, by decide, rfl⟩, sc_check_value, par_check_value, rfl, chk_check_value⟩
def n_worth_of : List Str := ["deed", "value"]
theorem chk_worth_of : chkCs tb prg f_worth_of.body ⟨n_worth_of, defScope st_worth_of, fun _ => true⟩ (defBody st_worth_of) = true := by decide +kernel
theorem sc_worth_of : FnScope n_worth_of f_worth_of.sig.ps (defScope st_worth_of) := C8.fnScope_by (by decide +kernel)
theorem par_worth_of : PlainPar (defArgs st_worth_of) f_worth_of.sig.ps := ⟨by decide +kernel, by decide +kernel, rfl, rfl, rfl, rfl⟩
def dd_worth_of : He.DefD := ⟨("worth_of", none), "worth_of", "worth_of", defArgs st_worth_of, defBody st_worth_of, defScope st_worth_of, [], []⟩
theorem dt_worth_of : DText tb prg f_worth_of dd_worth_of st_worth_of n_worth_of := ⟨rfl, rfl, rfl, rfl, ⟨[], trivial, by decide, rfl⟩, sc_worth_of, par_worth_of, rfl, chk_worth_of⟩
def n_sums : List Str := ["past", "value", "deed", "total", "found", "thing"]
theorem chk_sums : chkCs tb prg f_sums.body ⟨n_sums, defScope st_sums, fun _ => true⟩ (defBody st_sums) = true := by decide +kernel
theorem sc_sums : FnScope n_sums f_sums.sig.ps (defScope st_sums) := C8.fnScope_by (by decide +kernel)
theorem par_sums : PlainPar (defArgs st_sums) f_sums.sig.ps := ⟨by decide +kernel, by decide +kernel, rfl, rfl, rfl, rfl⟩
def dd_sums : He.DefD := ⟨("sums", none), "sums", "sums", defArgs st_sums, defBody st_sums, defScope st_sums, [], []⟩
theorem dt_sums : DText tb prg f_sums dd_sums st_sums n_sums := ⟨rfl, rfl, rfl, rfl, ⟨[], trivial, by decide, rfl⟩, sc_sums, par_sums, rfl, chk_sums⟩
def n_number_up_to : List Str := ["past", "value", "moment", "total"]
theorem chk_number_up_to : chkCs tb prg f_number_up_to.body ⟨n_number_up_to, defScope st_number_up_to, fun _ => true⟩ (defBody st_number_up_to) = true := by decide +kernel
theorem sc_number_up_to : FnScope n_number_up_to f_number_up_to.sig.ps (defScope st_number_up_to) := C8.fnScope_by (by decide +kernel)
theorem par_number_up_to : PlainPar (defArgs st_number_up_to) f_number_up_to.sig.ps := ⟨by decide +kernel, by decide +kernel, rfl, rfl, rfl, rfl⟩
def dd_number_up_to : He.DefD := ⟨("number_up_to", none), "number_up_to", "number_up_to", defArgs st_number_up_to, defBody st_number_up_to, defScope st_number_up_to, [], []⟩
theorem dt_number_up_to : DText tb prg f_number_up_to dd_number_up_to st_number_up_to n_number_up_to := ⟨rfl, rfl, rfl, rfl, ⟨[], trivial, by decide, rfl⟩, sc_number_up_to, par_number_up_to, rfl, chk_number_up_to⟩
def n_count : List Str := ["past", "value"]
theorem chk_count : chkCs tb prg f_count.body ⟨n_count, defScope st_count, fun _ => true⟩ (defBody st_count) = true := by decide +kernel
theorem sc_count : FnScope n_count f_count.sig.ps (defScope st_count) := C8.fnScope_by (by decide +kernel)
theorem par_count : PlainPar (defArgs st_count) f_count.sig.ps := ⟨by decide +kernel, by decide +kernel, rfl, rfl, rfl, rfl⟩
def dd_count : He.DefD := ⟨("count", none), "count", "count", defArgs st_count, defBody st_count, defScope st_count, [], []⟩
theorem dt_count : DText tb prg f_count dd_count st_count n_count := ⟨rfl, rfl, rfl, rfl, ⟨[], trivial, by decide, rfl⟩, sc_count, par_count, rfl, chk_count⟩
def n__law_right : List Str := ["_law_past", "_law_edit", "_law_links", "_law_extra", "_law_end"]
theorem chk__law_right : chkCs tb prg f__law_right.body ⟨n__law_right, defScope st__law_right, fun _ => true⟩ (defBody st__law_right) = true := by decide +kernel
theorem sc__law_right : FnScope n__law_right f__law_right.sig.ps (defScope st__law_right) := C8.fnScope_by (by decide +kernel)
theorem par__law_right : PlainPar (defArgs st__law_right) f__law_right.sig.ps := ⟨by decide +kernel, by decide +kernel, rfl, rfl, rfl, rfl⟩
def dd__law_right : He.DefD := ⟨("_law_right", none), "_law_right", "_law_right", defArgs st__law_right, defBody st__law_right, defScope st__law_right, [], []⟩
theorem dt__law_right : DText tb prg f__law_right dd__law_right st__law_right n__law_right := ⟨rfl, rfl, rfl, rfl, ⟨[], trivial, by decide, rfl⟩, sc__law_right, par__law_right, rfl, chk__law_right⟩
def n__law_five : List Str := ["_law_sort"]
theorem chk__law_five : chkCs tb prg f__law_five.body ⟨n__law_five, defScope st__law_five, fun _ => true⟩ (defBody st__law_five) = true := by decide +kernel
theorem sc__law_five : FnScope n__law_five f__law_five.sig.ps (defScope st__law_five) := C8.fnScope_by (by decide +kernel)
theorem par__law_five : PlainPar (defArgs st__law_five) f__law_five.sig.ps := ⟨by decide +kernel, by decide +kernel, rfl, rfl, rfl, rfl⟩
def dd__law_five : He.DefD := ⟨("_law_five", none), "_law_five", "_law_five", defArgs st__law_five, defBody st__law_five, defScope st__law_five, [], []⟩
theorem dt__law_five : DText tb prg f__law_five dd__law_five st__law_five n__law_five := ⟨rfl, rfl, rfl, rfl, ⟨[], trivial, by decide, rfl⟩, sc__law_five, par__law_five, rfl, chk__law_five⟩
def n_law : List Str := ["_law_script", "_law_rows", "_law_past", "_law_lone", "_law_early", "_law_mid", "_law_sort", "_law_answers", "_law_end"]
theorem chk_law : chkCs tb prg f_law.body ⟨n_law, defScope st_law, fun _ => true⟩ (defBody st_law) = true := by decide +kernel
theorem sc_law : FnScope n_law f_law.sig.ps (defScope st_law) := C8.fnScope_by (by decide +kernel)
theorem par_law : PlainPar (defArgs st_law) f_law.sig.ps := ⟨by decide +kernel, by decide +kernel, rfl, rfl, rfl, rfl⟩
def dd_law : He.DefD := ⟨("law", none), "law", "law", defArgs st_law, defBody st_law, defScope st_law, [], []⟩
theorem dt_law : DText tb prg f_law dd_law st_law n_law := ⟨rfl, rfl, rfl, rfl, ⟨[], trivial, by decide, rfl⟩, sc_law, par_law, rfl, chk_law⟩
def n_Past_rows : List Str := ["self", "within", "deed", "answer"]
theorem chk_Past_rows : chkGs tb prg f_Past_rows.body ⟨n_Past_rows, defScope st_Past_rows, fun _ => true⟩ (defBody st_Past_rows) = true := by decide +kernel
theorem sc_Past_rows : GScope n_Past_rows f_Past_rows.sig.ps (defScope st_Past_rows) := gScope_by (by decide +kernel)
theorem par_Past_rows : PlainPar (defArgs st_Past_rows) f_Past_rows.sig.ps := ⟨by decide +kernel, by decide +kernel, rfl, rfl, rfl, rfl⟩
def dd_Past_rows : He.DefD := ⟨("Past", some "rows"), "rows", "Past.rows", defArgs st_Past_rows, defBody st_Past_rows, defScope st_Past_rows, [], []⟩
theorem dt_Past_rows : GText tb prg f_Past_rows dd_Past_rows st_Past_rows n_Past_rows := ⟨rfl, rfl, rfl, rfl, rfl, sc_Past_rows, par_Past_rows, rfl, chk_Past_rows⟩
abbrev stx_BadKind : Stmt := (C8.clsBody (top 15)).getD 0 (.Pass ⟨0, 0, 0, 0⟩)
def ddx_BadKind : He.DefD := ⟨("BadKind", some "__init__"), "__init__", "BadKind.__init__", defArgs stx_BadKind, defBody stx_BadKind, defScope stx_BadKind, [], []⟩
theorem dx_BadKind : XText ddx_BadKind "PastError" "kind" := ⟨["self", "kind"], rfl, C8.fnScope_by (by decide +kernel), ⟨by decide +kernel, by decide +kernel, rfl, rfl, rfl, rfl⟩, by decide +kernel⟩
abbrev stx_BadBeginning : Stmt := (C8.clsBody (top 16)).getD 0 (.Pass ⟨0, 0, 0, 0⟩)
def ddx_BadBeginning : He.DefD := ⟨("BadBeginning", some "__init__"), "__init__", "BadBeginning.__init__", defArgs stx_BadBeginning, defBody stx_BadBeginning, defScope stx_BadBeginning, [], []⟩
theorem dx_BadBeginning : XText ddx_BadBeginning "PastError" "index" := ⟨["self", "index"], rfl, C8.fnScope_by (by decide +kernel), ⟨by decide +kernel, by decide +kernel, rfl, rfl, rfl, rfl⟩, by decide +kernel⟩
abbrev stx_BadDeed : Stmt := (C8.clsBody (top 17)).getD 0 (.Pass ⟨0, 0, 0, 0⟩)
def ddx_BadDeed : He.DefD := ⟨("BadDeed", some "__init__"), "__init__", "BadDeed.__init__", defArgs stx_BadDeed, defBody stx_BadDeed, defScope stx_BadDeed, [], []⟩
theorem dx_BadDeed : XText ddx_BadDeed "PastError" "index" := ⟨["self", "index"], rfl, C8.fnScope_by (by decide +kernel), ⟨by decide +kernel, by decide +kernel, rfl, rfl, rfl, rfl⟩, by decide +kernel⟩
abbrev stx_BadMoment : Stmt := (C8.clsBody (top 18)).getD 0 (.Pass ⟨0, 0, 0, 0⟩)
def ddx_BadMoment : He.DefD := ⟨("BadMoment", some "__init__"), "__init__", "BadMoment.__init__", defArgs stx_BadMoment, defBody stx_BadMoment, defScope stx_BadMoment, [], []⟩
theorem dx_BadMoment : XText ddx_BadMoment "PastError" "moment" := ⟨["self", "moment"], rfl, C8.fnScope_by (by decide +kernel), ⟨by decide +kernel, by decide +kernel, rfl, rfl, rfl, rfl⟩, by decide +kernel⟩
abbrev stx_BadThing : Stmt := (C8.clsBody (top 19)).getD 0 (.Pass ⟨0, 0, 0, 0⟩)
def ddx_BadThing : He.DefD := ⟨("BadThing", some "__init__"), "__init__", "BadThing.__init__", defArgs stx_BadThing, defBody stx_BadThing, defScope stx_BadThing, [], []⟩
theorem dx_BadThing : XText ddx_BadThing "PastError" "thing" := ⟨["self", "thing"], rfl, C8.fnScope_by (by decide +kernel), ⟨by decide +kernel, by decide +kernel, rfl, rfl, rfl, rfl⟩, by decide +kernel⟩
abbrev stx_BadChange : Stmt := (C8.clsBody (top 20)).getD 0 (.Pass ⟨0, 0, 0, 0⟩)
def ddx_BadChange : He.DefD := ⟨("BadChange", some "__init__"), "__init__", "BadChange.__init__", defArgs stx_BadChange, defBody stx_BadChange, defScope stx_BadChange, [], []⟩
theorem dx_BadChange : XText ddx_BadChange "PastError" "change" := ⟨["self", "change"], rfl, C8.fnScope_by (by decide +kernel), ⟨by decide +kernel, by decide +kernel, rfl, rfl, rfl, rfl⟩, by decide +kernel⟩
abbrev stx_BadPart : Stmt := (C8.clsBody (top 21)).getD 0 (.Pass ⟨0, 0, 0, 0⟩)
def ddx_BadPart : He.DefD := ⟨("BadPart", some "__init__"), "__init__", "BadPart.__init__", defArgs stx_BadPart, defBody stx_BadPart, defScope stx_BadPart, [], []⟩
theorem dx_BadPart : XText ddx_BadPart "PastError" "part" := ⟨["self", "part"], rfl, C8.fnScope_by (by decide +kernel), ⟨by decide +kernel, by decide +kernel, rfl, rfl, rfl, rfl⟩, by decide +kernel⟩
abbrev stx_TooMany : Stmt := (C8.clsBody (top 22)).getD 0 (.Pass ⟨0, 0, 0, 0⟩)
def ddx_TooMany : He.DefD := ⟨("TooMany", some "__init__"), "__init__", "TooMany.__init__", defArgs stx_TooMany, defBody stx_TooMany, defScope stx_TooMany, [], []⟩
theorem dx_TooMany : XText ddx_TooMany "OverflowError" "limit" := ⟨["self", "limit"], rfl, C8.fnScope_by (by decide +kernel), ⟨by decide +kernel, by decide +kernel, rfl, rfl, rfl, rfl⟩, by decide +kernel⟩
def dds : List He.DefD := [dd_is_integer, dd_is_between, dd_is_kind, dd_is_moment, dd_is_thing, dd_has_word, dd_is_deed, dd_thing_of, dd_by_moments, dd_check_kind, dd_put_behind, dd_next_of, dd_taken_behind, dd_checked_beginning, dd_checked_deeds, dd_Past___init__, dd_Past___len__, dd_Past___contains__, dd_Past___getitem__, dd_Past___eq__, dd_Past_deeds_told, dd_Past_things, dd_Past_has, dd_Past_held, dd_Past_answers, dd_Past_answer, dd_check_past, dd_is_change, dd_moment_changed, dd_reason_against, dd_why_not, dd_check_change, dd_gives_more, dd_first_spot, dd_more_behind, dd_less_behind, dd_turns_of, dd_Wander___init__, dd_Wander_go_on, dd_Wander___len__, dd_Wander___eq__, dd_Wander_spot_at, dd_Wander_extra, dd_Wander_held, dd_Wander_answer, dd_chain, dd_left, dd_healed_at, dd_check_least, dd_greatest_behind, dd_stays_from, dd_least_held, dd_least_left, dd_check_least_change, dd_end_behind, dd_check_thing, dd_stretch_for, dd_bounds, dd_check_value, dd_worth_of, dd_sums, dd_number_up_to, dd_count, dd__law_right, dd__law_five, dd_law, ddx_BadKind, ddx_BadBeginning, ddx_BadDeed, ddx_BadMoment, ddx_BadThing, ddx_BadChange, ddx_BadPart, ddx_TooMany, dd_Past_rows]
theorem hd : ∀ (i : Nat) (fi : FI), fns[i]? = some fi → ∃ d st N, dds[i]? = some d ∧ DText tb (mkP fns cds 300 gens off) fi d st N := by
  intro i fi h
  match i, h with
  | 0, h => cases h; exact ⟨_, _, _, rfl, dt_is_integer⟩
  | 1, h => cases h; exact ⟨_, _, _, rfl, dt_is_between⟩
  | 2, h => cases h; exact ⟨_, _, _, rfl, dt_is_kind⟩
  | 3, h => cases h; exact ⟨_, _, _, rfl, dt_is_moment⟩
  | 4, h => cases h; exact ⟨_, _, _, rfl, dt_is_thing⟩
  | 5, h => cases h; exact ⟨_, _, _, rfl, dt_has_word⟩
  | 6, h => cases h; exact ⟨_, _, _, rfl, dt_is_deed⟩
  | 7, h => cases h; exact ⟨_, _, _, rfl, dt_thing_of⟩
  | 8, h => cases h; exact ⟨_, _, _, rfl, dt_by_moments⟩
  | 9, h => cases h; exact ⟨_, _, _, rfl, dt_check_kind⟩
  | 10, h => cases h; exact ⟨_, _, _, rfl, dt_put_behind⟩
  | 11, h => cases h; exact ⟨_, _, _, rfl, dt_next_of⟩
  | 12, h => cases h; exact ⟨_, _, _, rfl, dt_taken_behind⟩
  | 13, h => cases h; exact ⟨_, _, _, rfl, dt_checked_beginning⟩
  | 14, h => cases h; exact ⟨_, _, _, rfl, dt_checked_deeds⟩
  | 15, h => cases h; exact ⟨_, _, _, rfl, dt_Past___init__⟩
  | 16, h => cases h; exact ⟨_, _, _, rfl, dt_Past___len__⟩
  | 17, h => cases h; exact ⟨_, _, _, rfl, dt_Past___contains__⟩
  | 18, h => cases h; exact ⟨_, _, _, rfl, dt_Past___getitem__⟩
  | 19, h => cases h; exact ⟨_, _, _, rfl, dt_Past___eq__⟩
  | 20, h => cases h; exact ⟨_, _, _, rfl, dt_Past_deeds_told⟩
  | 21, h => cases h; exact ⟨_, _, _, rfl, dt_Past_things⟩
  | 22, h => cases h; exact ⟨_, _, _, rfl, dt_Past_has⟩
  | 23, h => cases h; exact ⟨_, _, _, rfl, dt_Past_held⟩
  | 24, h => cases h; exact ⟨_, _, _, rfl, dt_Past_answers⟩
  | 25, h => cases h; exact ⟨_, _, _, rfl, dt_Past_answer⟩
  | 26, h => cases h; exact ⟨_, _, _, rfl, dt_check_past⟩
  | 27, h => cases h; exact ⟨_, _, _, rfl, dt_is_change⟩
  | 28, h => cases h; exact ⟨_, _, _, rfl, dt_moment_changed⟩
  | 29, h => cases h; exact ⟨_, _, _, rfl, dt_reason_against⟩
  | 30, h => cases h; exact ⟨_, _, _, rfl, dt_why_not⟩
  | 31, h => cases h; exact ⟨_, _, _, rfl, dt_check_change⟩
  | 32, h => cases h; exact ⟨_, _, _, rfl, dt_gives_more⟩
  | 33, h => cases h; exact ⟨_, _, _, rfl, dt_first_spot⟩
  | 34, h => cases h; exact ⟨_, _, _, rfl, dt_more_behind⟩
  | 35, h => cases h; exact ⟨_, _, _, rfl, dt_less_behind⟩
  | 36, h => cases h; exact ⟨_, _, _, rfl, dt_turns_of⟩
  | 37, h => cases h; exact ⟨_, _, _, rfl, dt_Wander___init__⟩
  | 38, h => cases h; exact ⟨_, _, _, rfl, dt_Wander_go_on⟩
  | 39, h => cases h; exact ⟨_, _, _, rfl, dt_Wander___len__⟩
  | 40, h => cases h; exact ⟨_, _, _, rfl, dt_Wander___eq__⟩
  | 41, h => cases h; exact ⟨_, _, _, rfl, dt_Wander_spot_at⟩
  | 42, h => cases h; exact ⟨_, _, _, rfl, dt_Wander_extra⟩
  | 43, h => cases h; exact ⟨_, _, _, rfl, dt_Wander_held⟩
  | 44, h => cases h; exact ⟨_, _, _, rfl, dt_Wander_answer⟩
  | 45, h => cases h; exact ⟨_, _, _, rfl, dt_chain⟩
  | 46, h => cases h; exact ⟨_, _, _, rfl, dt_left⟩
  | 47, h => cases h; exact ⟨_, _, _, rfl, dt_healed_at⟩
  | 48, h => cases h; exact ⟨_, _, _, rfl, dt_check_least⟩
  | 49, h => cases h; exact ⟨_, _, _, rfl, dt_greatest_behind⟩
  | 50, h => cases h; exact ⟨_, _, _, rfl, dt_stays_from⟩
  | 51, h => cases h; exact ⟨_, _, _, rfl, dt_least_held⟩
  | 52, h => cases h; exact ⟨_, _, _, rfl, dt_least_left⟩
  | 53, h => cases h; exact ⟨_, _, _, rfl, dt_check_least_change⟩
  | 54, h => cases h; exact ⟨_, _, _, rfl, dt_end_behind⟩
  | 55, h => cases h; exact ⟨_, _, _, rfl, dt_check_thing⟩
  | 56, h => cases h; exact ⟨_, _, _, rfl, dt_stretch_for⟩
  | 57, h => cases h; exact ⟨_, _, _, rfl, dt_bounds⟩
  | 58, h => cases h; exact ⟨_, _, _, rfl, dt_check_value⟩
  | 59, h => cases h; exact ⟨_, _, _, rfl, dt_worth_of⟩
  | 60, h => cases h; exact ⟨_, _, _, rfl, dt_sums⟩
  | 61, h => cases h; exact ⟨_, _, _, rfl, dt_number_up_to⟩
  | 62, h => cases h; exact ⟨_, _, _, rfl, dt_count⟩
  | 63, h => cases h; exact ⟨_, _, _, rfl, dt__law_right⟩
  | 64, h => cases h; exact ⟨_, _, _, rfl, dt__law_five⟩
  | 65, h => cases h; exact ⟨_, _, _, rfl, dt_law⟩
  | i + 66, h => cases h
theorem hgn : ∀ (i : Nat) (gi : GI), (mkP fns cds 300 gens off).gn i = some gi → ∃ d st N, dds[i]? = some d ∧ GText tb (mkP fns cds 300 gens off) gi d st N := by
  intro i gi h
  have h : (if off ≤ i then gens[i - off]? else none) = some gi := h
  split at h
  · rename_i hle
    obtain ⟨j, rfl⟩ := Nat.exists_eq_add_of_le hle
    rw [Nat.add_sub_cancel_left] at h
    match j, h with
    | 0, h => cases h; exact ⟨_, _, _, rfl, dt_Past_rows⟩
    | j + 1, h => cases h
  · cases h
theorem hx : ∀ q ∈ cds, ∀ f k b j d, q.err = some (f, k, b, j) → dds[j]? = some d → XText d b f := by
  intro q hq f k b j d e1 e2
  simp only [cds, List.mem_cons, List.not_mem_nil, or_false] at hq
  rcases hq with rfl | rfl | rfl | rfl | rfl | rfl | rfl | rfl | rfl | rfl
  · cases e1
  · cases e1
  · cases e1; cases e2; exact dx_BadKind
  · cases e1; cases e2; exact dx_BadBeginning
  · cases e1; cases e2; exact dx_BadDeed
  · cases e1; cases e2; exact dx_BadMoment
  · cases e1; cases e2; exact dx_BadThing
  · cases e1; cases e2; exact dx_BadChange
  · cases e1; cases e2; exact dx_BadPart
  · cases e1; cases e2; exact dx_TooMany
def loose : List Str := (["_wall", "KINDS", "MOST_MOMENT", "is_integer", "is_between", "is_kind", "is_moment", "is_thing", "has_word", "is_deed", "thing_of", "by_moments", "PastError", "BadKind", "BadBeginning", "BadDeed", "BadMoment", "BadThing", "BadChange", "BadPart", "TooMany", "check_kind", "put_behind", "next_of", "taken_behind", "MOST_THINGS", "MOST_DEEDS", "checked_beginning", "checked_deeds", "Past"] : List Str) ++ (["check_past", "is_change", "moment_changed", "reason_against", "why_not", "check_change", "gives_more", "first_spot", "more_behind", "less_behind", "turns_of", "Wander", "chain", "left", "healed_at", "check_least", "greatest_behind", "stays_from", "least_held", "least_left", "check_least_change", "end_behind", "check_thing", "stretch_for", "bounds", "check_value", "worth_of", "sums", "number_up_to", "count"] : List Str) ++ (["_law_right", "_law_five"] : List Str)
abbrev R : PySem.W.OpenRow := PySem.W.OpenLaw.row PySem.Challenge.rw_mendedpasts_k29_known_changes
abbrev hk : PySem.W.Hook := hookR 4 (fasB tb dds cds) dds
def ob (s : PySem.W.SharedT) : He.AlD := obsRG 4 (fasB tb dds cds) dds (HandSHeadRun.getT s)
theorem ob_eq (s : PySem.W.SharedT) : ob s = hk.obs s.abs := obsRG_eq (HandSHeadRun.getT_eq s)
theorem run (w : World) : HandSHeadRun.RunEq R (PySem.W.view R.prog [72]) hk ob 40000 loose w := by
  intro os
  kernel_rfl
abbrev fuel : Nat := 20
theorem plain : ∀ ns : List Int, ns.length ≤ 63 → ∃ outs, callF prg fuel i_law [.sh (.scr ns)] = .ok (.sh (.bl true)) outs := fun ns _ => ⟨[none], by kernel_rfl⟩
end k29
end Rf
open PySem PySem.W PySem.Calls PyProof.Rows
theorem PySem.Challenge.cw_mendedpasts_k29_known_changes_holds : PySem.Challenge.rw_mendedpasts_k29_known_changes.Holds := by
  w_on; o_law
  refine HandSHeadRun.head_any (r := OpenLaw.row PySem.Challenge.rw_mendedpasts_k29_known_changes) (q := view (OpenLaw.row PySem.Challenge.rw_mendedpasts_k29_known_changes).prog [72]) (H := Rf.k29.hk) (ob := Rf.k29.ob) (M := 40000) (loose := Rf.k29.loose) (d := HandSHeadRun.topDef (OpenLaw.row PySem.Challenge.rw_mendedpasts_k29_known_changes).prog 72) (kwd := []) Rf.k29.ob_eq
    (by kernel_rfl) (fun s => by kernel_rfl) Rf.k29.run (by kernel_rfl) (by kernel_rfl) (by kernel_rfl) (by rfl) (by first | assumption | decide +kernel) (by decide +kernel) ⟨rfl, rfl, rfl, rfl, rfl, by decide +kernel⟩ ?hw ?hc
  case hw => w_witness2
  case hc =>
    refine Rf.walk_ofEB (l := PySem.Challenge.rw_mendedpasts_k29_known_changes) (n := 63) (k := 4 * Rf.k29.fuel) (x := "_law_script") (CX := fun w => L2.CX (PySem.Challenge.rw_mendedpasts_k29_known_changes).prog w) rfl (by decide) (by kernel_rfl) ⟨⟨rfl, by decide, by decide⟩, rfl⟩ ?F (fun _ _ _ _ _ ⟨_, _, _, _, _, _, _, _, _, _, _, _, z⟩ => z)
    intro w mg fa h Y G hmg0
    obtain ⟨K, KX, c⟩ := Y
    have hmg : mg ("law" : PySem.Str) = some (.ref fa) := by
      have e : (HandSHeadRun.topDef (OpenLaw.row PySem.Challenge.rw_mendedpasts_k29_known_changes).prog 72).name = ("law" : PySem.Str) := by kernel_rfl
      rw [← e]
      exact hmg0
    have M := Rf.mg_says (T := Rf.k29.tb) (cds := Rf.k29.cds) (fns := Rf.k29.fns) (gens := Rf.k29.gens) (k := 300) (off := Rf.k29.off) KX G c (by decide +kernel) (by decide +kernel) Rf.k29.hx Rf.k29.hd Rf.k29.hgn
    obtain ⟨fd, hb, hF⟩ := Rf.law_fn (Pg := (PySem.Challenge.rw_mendedpasts_k29_known_changes).prog) (w := w) M c (n := Rf.k29.fuel) (i := Rf.k29.i_law) (x := "law") (u := "_law_script") rfl rfl rfl Rf.k29.dt_law rfl rfl (fun _ _ _ _ _ _ _ => rfl)
    have e := hmg.symm.trans (M.fns "law" Rf.k29.i_law rfl)
    cases e
    exact ⟨K, fd, _, KX, hb, fun H a ns hl hbits _ hS => Rf.law_sp (Rf.k29.plain ns hl).choose_spec hS, hF⟩

