import PyProof.Rows.All
import Wide.All
import OpenK.AllK
import Wide.FinOn
import HandS.ForMost
import HandS.ForExc
import HandS.HeadHook1
import HandS.Text
import HandS.TupAny
import HandS.TupLe
import HandS.TupMul
import HandS.Deep
import HandS.Style
import HandS.IsInst
import HandS.StrMore
import HandS.DictComp
import HandS.TupLen
import HandS.DeepEq
import PyProof.NeKinds
import PyProof.P3Eq
import KE.DataCmp
import HandS.Dict
import HandS.More
import PyProof.Rows.SortShellAny
import PyProof.Rows.StrMeet
import HandS.WordsDict
import HandS.FStr
import KE.DataMinMax
import KE.KDictPairs
import PyProof.Rows.RowBridgeK
import HandS.Zip
import KE.GoesNew
import KE.GoesMore
import HandS.Comp
import HandS.NoneIn
import HandS.Lambda
import HandS.WordsExc
import PyProof.DictUpdate
import HandS.Defaults
import HandS.ExcIs
import HandS.ExcOwn
import HandS.TryOnly
import HandS.HotCalls
import HandS.Codes
import HandS.Replace
import PyProof.Rows.StrRev
import PyProof.Rows.CallKwBuiltin
import HandS.SetKeys
import HandS.HeadHook2
import HandS.HeadEnd
import HandS.HeadHook3
import HandS.HeadHook4
import PySem.Challenge.RW_quirehand_k25_whole_pages_placed
import HandS.Head0
import HandS.Head1
import HandS.Head2
set_option Elab.async false
set_option linter.all false
set_option maxRecDepth 100000
set_option maxHeartbeats 1000000
namespace Q
open PySem PySem.Spec PyProof.Rows L2

/-! ## data trees -/
abbrev Cs := List Nat
abbrev Ky := Sum Int Cs
abbrev toS (s : Cs) : Str := ⟨s.toArray⟩
def kyK : Ky → Key
  | .inl i => .inl i
  | .inr s => .inr (toS s)
theorem toS_inj {s t : Cs} (h : toS s = toS t) : s = t := by
  have := congrArg (fun z : Str => z.cps.toList) h
  simpa [toS] using this
theorem kyK_inj {a b : Ky} (h : kyK a = kyK b) : a = b := by
  cases a <;> cases b <;> simp only [kyK, Sum.inl.injEq, Sum.inr.injEq, reduceCtorEq] at h ⊢
  · exact h
  · exact toS_inj h

/-- w: its holder's alone, it may be changed; s: others may know it; f: it never changes (the script) -/
inductive O where
  | w | s | f
  deriving DecidableEq
def O.sh : O → O
  | .w => .s
  | .s => .s
  | .f => .f
theorem O.sh_sh (o : O) : o.sh.sh = o.sh := by cases o <;> rfl
def O.no : O → Bool
  | .w => true
  | .s => false
  | .f => true
/-- what a Python value is as a tree -/
inductive D where
  | non | bl (b : Bool) | int (i : Int) | str (s : Cs)
  | tup (ds : List D) | lst (o : O) (ds : List D)
  | dic (o : O) (kvs : List (Ky × D))
  | dct (o : O) (kvs : List (List Ky × D))
  | ptu (ks : List (Cs × Int))
  | fn (x : Str)

mutual
/-- shared: no node is its holder's alone -/
def sh : D → D
  | .tup ds => .tup (shs ds)
  | .lst o ds => .lst o.sh (shs ds)
  | .dic o ds => .dic o.sh (shk ds)
  | .dct o ds => .dct o.sh ds
  | .fn x => .fn x
  | .ptu ks => .ptu ks
  | .non => .non
  | .bl b => .bl b
  | .int i => .int i
  | .str s => .str s
termination_by structural x => x
def shs : List D → List D
  | [] => []
  | d :: r => sh d :: shs r
termination_by structural x => x
def shk : List (Ky × D) → List (Ky × D)
  | [] => []
  | d :: r => shp d :: shk r
termination_by structural x => x
def shp : (Ky × D) → (Ky × D)
  | (k, d) => (k, sh d)
termination_by structural x => x
end

theorem shs_length : ∀ ds : List D, (shs ds).length = ds.length
  | [] => rfl
  | d :: r => congrArg (· + 1) (shs_length r)
theorem shk_keys : ∀ ds : List (Ky × D), (shk ds).map (·.1) = ds.map (·.1)
  | [] => rfl
  | (k, d) :: r => congrArg (k :: ·) (shk_keys r)
mutual
/-- no shared list or dict in it -/
def noSh : D → Bool
  | .tup ds => noShs ds
  | .lst o ds => o.no && noShs ds
  | .dic o ds => o.no && noShk ds
  | .dct o ds => o.no
  | .fn _ => true
  | .ptu _ => true
  | .non => true
  | .bl _ => true
  | .int _ => true
  | .str _ => true
termination_by structural x => x
def noShs : List D → Bool
  | [] => true
  | d :: r => noSh d && noShs r
termination_by structural x => x
def noShk : List (Ky × D) → Bool
  | [] => true
  | d :: r => noShp d && noShk r
termination_by structural x => x
def noShp : (Ky × D) → Bool
  | (k, d) => noSh d
termination_by structural x => x
end

def lim : Nat := 16777216
theorem lim_eq : lim = sizeLine := by rw [sizeLine_eq]; rfl
/-- a text that is not too long, its signs below 128 -/
def Sok (s : Cs) : Prop := s.length ≤ lim ∧ ∀ c ∈ s, c < 128
def flatD : D → Bool
  | .non => true
  | .bl _ => true
  | .int _ => true
  | .str _ => true
  | _ => false

/-- a list that never changes: the script, one of the module's -/
def Frz (K : PySem.W.Frag) (H : Hp) (a : Addr) (xs : List V) : Prop := (∃ o, H a = some (.frz o (.lst xs))) ∨
    ∃ (o : Obj) (its : Array Value) (n : Nat), K.lookup a = some o ∧ o.cls = .type "list" ∧ o.dict = none ∧ o.data = .seq its n ∧ its.size ≤ sizeLine ∧ Vals xs its.toList
theorem Frz.sq {K : PySem.W.Frag} {H : Hp} {a : Addr} {xs : List V} (h : Frz K H a xs) : SqL K H a xs := by
  rcases h with h | h
  · exact .inl (.inr h)
  · exact .inr h
/-- a tuple as it is made: without attributes of its own -/
def ExT (H : Hp) (a : Addr) (vs : List V) : Prop := ∃ o : Obj, H a = some (.frz o (.tup vs)) ∧ o.cls = .type "tuple" ∧ o.dict = none
/-- a pair of a text and a whole number -/
def PrV (K : PySem.W.Frag) (H : Hp) (kv : Cs × Int) (x : V) : Prop := ∃ b, x = .ref b ∧ SqT K H b [.str (toS kv.1), .int kv.2] ∧ Sok kv.1
section
variable (K : PySem.W.Frag) (H : Hp) (U : Addr → Prop)
mutual
/-- the value v stands for d in H; L: the addresses of the nodes that are v's holder's alone; the other lists and dicts are none of U's -/
def rep : D → V → List Addr → Prop
  | .non, v, L => v = .non ∧ L = []
  | .bl b, v, L => v = .bl b ∧ L = []
  | .int i, v, L => v = .int i ∧ L = []
  | .str s, v, L => v = .str (toS s) ∧ Sok s ∧ L = []
  | .tup ds, v, L => ∃ a vs, (v = .ref a ∧ ds.length ≤ lim) ∧ SqT K H a vs ∧ reps ds vs L
  | .lst o ds, v, L => ∃ a vs L', (v = .ref a ∧ ds.length ≤ lim) ∧ reps ds vs L' ∧ ((o = .w ∧ H a = some (.lst vs) ∧ L = a :: L') ∨ (o = .s ∧ H a = some (.lst vs) ∧ ¬ U a ∧ L' = [] ∧ L = []) ∨ (o = .f ∧ Frz K H a vs ∧ L' = [] ∧ L = []))
  | .dic o ds, v, L => ∃ a vs L', v = .ref a ∧ (repk ds vs L' ∧ (ds.map (·.1)).Nodup) ∧ H a = some (.dK vs) ∧ ((o = .w ∧ L = a :: L') ∨ (o = .s ∧ ¬ U a ∧ L' = [] ∧ L = []))
  | .dct o ds, v, L => ∃ a vs, v = .ref a ∧ H a = some (.dT vs) ∧ vs.map (·.1) = ds.map (fun p => p.1.map kyK) ∧ ((o = .w ∧ L = [a]) ∨ (o = .s ∧ ¬ U a ∧ L = []))
  | .fn x, v, L => v = .ref (He.ga K x) ∧ L = []
  | .ptu ks, v, L => ∃ a vs, (v = .ref a ∧ ks.length ≤ lim) ∧ ExT H a vs ∧ Paired (PrV K H) ks vs ∧ L = []
termination_by structural x => x
def reps : List D → List V → List Addr → Prop
  | [], vs, L => vs = [] ∧ L = []
  | d :: r, vs, L => ∃ v vr L1 L2, vs = v :: vr ∧ L = L1 ++ L2 ∧ rep d v L1 ∧ reps r vr L2
termination_by structural x => x
def repk : List (Ky × D) → List (Key × V) → List Addr → Prop
  | [], vs, L => vs = [] ∧ L = []
  | p :: r, vs, L => ∃ v vr L1 L2, vs = v :: vr ∧ L = L1 ++ L2 ∧ repp p v L1 ∧ repk r vr L2
termination_by structural x => x
def repp : Ky × D → Key × V → List Addr → Prop
  | (k, d), v, L => v.1 = kyK k ∧ rep d v.2 L
termination_by structural x => x
end
end

section
variable {K : PySem.W.Frag} {H H' : Hp} {U U' : Addr → Prop}
theorem SqT.same {a : Addr} {xs : List V} (e : Same H H') (h : SqT K H a xs) : SqT K H' a xs := by
  rcases h with (h | ⟨o, h⟩) | h
  · exact .inl (.inl (e _ _ h))
  · exact .inl (.inr ⟨o, e _ _ h⟩)
  · exact .inr h

/-- from one heap and one set to another: the tuples, the owned nodes, and the other lists and dicts -/
structure Go (K : PySem.W.Frag) (H H' : Hp) (U U' : Addr → Prop) (B : List Addr) : Prop where
  tup : ∀ a xs, SqT K H a xs → SqT K H' a xs
  own : ∀ a, a ∈ B → ∀ o, H a = some o → H' a = some o
  frz : ∀ a xs, Frz K H a xs → Frz K H' a xs
  lst : ∀ a xs, H a = some (.lst xs) → ¬ U a → H' a = some (.lst xs) ∧ ¬ U' a
  dic : ∀ a xs, H a = some (.dK xs) → ¬ U a → H' a = some (.dK xs) ∧ ¬ U' a
  dct : ∀ a xs, H a = some (.dT xs) → ¬ U a → H' a = some (.dT xs) ∧ ¬ U' a
  ext : ∀ a xs, ExT H a xs → ExT H' a xs
theorem paired_go {K : PySem.W.Frag} {H H' : Hp} (g : ∀ a xs, SqT K H a xs → SqT K H' a xs) : ∀ {ks : List (Cs × Int)} {vs : List V}, Paired (PrV K H) ks vs → Paired (PrV K H') ks vs
  | _, _, .nil => .nil
  | _, _, .cons h t => .cons (let ⟨b, e, q, k⟩ := h; ⟨b, e, g _ _ q, k⟩) (paired_go g t)
theorem Go.sub {B B' : List Addr} (g : Go K H H' U U' B) (h : ∀ a ∈ B', a ∈ B) : Go K H H' U U' B' := ⟨g.tup, fun a ha => g.own a (h a ha), g.frz, g.lst, g.dic, g.dct, g.ext⟩
mutual
theorem rep_go : ∀ (d : D) (v : V) (L : List Addr), Go K H H' U U' L → rep K H U d v L → rep K H' U' d v L
  | .non, v, L, g, h => h
  | .bl b, v, L, g, h => h
  | .int i, v, L, g, h => h
  | .str s, v, L, g, h => h
  | .tup ds, v, L, g, h => by
    obtain ⟨a, vs, e, q, r⟩ := h
    exact ⟨a, vs, e, g.tup _ _ q, reps_go ds vs L g r⟩
  | .lst o ds, v, L, g, h => by
    obtain ⟨a, vs, L', e, r, z⟩ := h
    rcases z with ⟨e1, q, e2⟩ | ⟨e1, q, u, e2, e3⟩ | ⟨e1, q, e2, e3⟩
    · subst e2
      exact ⟨a, vs, L', e, reps_go ds vs L' (g.sub fun b hb => List.mem_cons_of_mem _ hb) r, .inl ⟨e1, g.own a List.mem_cons_self _ q, rfl⟩⟩
    · subst e2 e3
      obtain ⟨q1, q2⟩ := g.lst _ _ q u
      exact ⟨a, vs, [], e, reps_go ds vs [] g r, .inr (.inl ⟨e1, q1, q2, rfl, rfl⟩)⟩
    · subst e2 e3
      exact ⟨a, vs, [], e, reps_go ds vs [] g r, .inr (.inr ⟨e1, g.frz _ _ q, rfl, rfl⟩)⟩
  | .dic o ds, v, L, g, h => by
    obtain ⟨a, vs, L', e, r, q, z⟩ := h
    rcases z with ⟨e1, e2⟩ | ⟨e1, u, e2, e3⟩
    · subst e2
      exact ⟨a, vs, L', e, ⟨repk_go ds vs L' (g.sub fun b hb => List.mem_cons_of_mem _ hb) r.1, r.2⟩, g.own a List.mem_cons_self _ q, .inl ⟨e1, rfl⟩⟩
    · subst e2 e3
      obtain ⟨q1, q2⟩ := g.dic _ _ q u
      exact ⟨a, vs, [], e, ⟨repk_go ds vs [] g r.1, r.2⟩, q1, .inr ⟨e1, q2, rfl, rfl⟩⟩
  | .dct o ds, v, L, g, h => by
    obtain ⟨a, vs, e, q, m, z⟩ := h
    rcases z with ⟨e1, e2⟩ | ⟨e1, u, e3⟩
    · subst e2
      exact ⟨a, vs, e, g.own a List.mem_cons_self _ q, m, .inl ⟨e1, rfl⟩⟩
    · subst e3
      obtain ⟨q1, q2⟩ := g.dct _ _ q u
      exact ⟨a, vs, e, q1, m, .inr ⟨e1, q2, rfl⟩⟩
  | .fn x, v, L, g, h => h
  | .ptu ks, v, L, g, h => by
    obtain ⟨a, vs, e, q, m, z⟩ := h
    exact ⟨a, vs, e, g.ext _ _ q, paired_go g.tup m, z⟩
termination_by structural d => d
theorem reps_go : ∀ (ds : List D) (vs : List V) (L : List Addr), Go K H H' U U' L → reps K H U ds vs L → reps K H' U' ds vs L
  | [], vs, L, g, h => h
  | d :: r, vs, L, g, h => by
    obtain ⟨v, vr, L1, L2, e, e2, h1, h2⟩ := h
    subst e2
    exact ⟨v, vr, L1, L2, e, rfl, rep_go d v L1 (g.sub fun b hb => List.mem_append_left _ hb) h1, reps_go r vr L2 (g.sub fun b hb => List.mem_append_right _ hb) h2⟩
termination_by structural d => d
theorem repk_go : ∀ (ds : List (Ky × D)) (vs : List (Key × V)) (L : List Addr), Go K H H' U U' L → repk K H U ds vs L → repk K H' U' ds vs L
  | [], vs, L, g, h => h
  | d :: r, vs, L, g, h => by
    obtain ⟨v, vr, L1, L2, e, e2, h1, h2⟩ := h
    subst e2
    exact ⟨v, vr, L1, L2, e, rfl, repp_go d v L1 (g.sub fun b hb => List.mem_append_left _ hb) h1, repk_go r vr L2 (g.sub fun b hb => List.mem_append_right _ hb) h2⟩
termination_by structural d => d
theorem repp_go : ∀ (p : Ky × D) (v : Key × V) (L : List Addr), Go K H H' U U' L → repp K H U p v L → repp K H' U' p v L
  | (k, d), v, L, g, h => ⟨h.1, rep_go d v.2 L g h.2⟩
termination_by structural d => d
end
theorem Frz.same {a : Addr} {xs : List V} (e : Same H H') (h : Frz K H a xs) : Frz K H' a xs := by
  rcases h with ⟨o, h⟩ | h
  · exact .inl ⟨o, e _ _ h⟩
  · exact .inr h
theorem Go.same {B : List Addr} (e : Same H H') : Go K H H' U U B := ⟨fun a xs => SqT.same e, fun a _ o h => e a o h, fun a xs h => h.same e, fun a xs h u => ⟨e _ _ h, u⟩, fun a xs h u => ⟨e _ _ h, u⟩, fun a xs h u => ⟨e _ _ h, u⟩, fun a xs ⟨o, h, z⟩ => ⟨o, e _ _ h, z⟩⟩
/-- another set; only what is tracked counts -/
theorem Go.set {B : List Addr} (h : ∀ a, U' a → U a ∨ H a = none) : Go K H H U U' B := by
  have k : ∀ a o, H a = some o → ¬ U a → ¬ U' a := fun a o e u z => by
    rcases h a z with q | q
    · exact u q
    · rw [q] at e; cases e
  exact ⟨fun a xs q => q, fun a _ o q => q, fun a xs q => q, fun a xs q u => ⟨q, k _ _ q u⟩, fun a xs q u => ⟨q, k _ _ q u⟩, fun a xs q u => ⟨q, k _ _ q u⟩, fun a xs q => q⟩
/-- what may be changed -/
def MutA (H : Hp) (p : Addr) : Prop := (∃ xs, H p = some (.lst xs)) ∨ (∃ xs, H p = some (.dK xs)) ∨ ∃ xs, H p = some (.dT xs)
theorem Go.upd {B : List Addr} {p : Addr} {o : HO} (hp : MutA H p) (hu : U p) (hb : p ∉ B) : Go K H (upd H p o) U U B := by
  have nt : ∀ a xs, Rd H a (.tup xs) → a ≠ p := by
    rintro a xs (h | ⟨o, h⟩) e <;> subst e <;> rcases hp with ⟨_, q⟩ | ⟨_, q⟩ | ⟨_, q⟩ <;> rw [q] at h <;> cases h
  refine ⟨fun a xs q => ?_, fun a ha o' q => ?_, fun a xs q => ?_, fun a xs q u => ⟨?_, u⟩, fun a xs q u => ⟨?_, u⟩, fun a xs q u => ⟨?_, u⟩, fun a xs ⟨o', q, z⟩ => ⟨o', by rw [upd_ne (nt a xs (.inr ⟨o', q⟩))]; exact q, z⟩⟩
  · rcases q with q | q
    · have n := nt a xs q
      rcases q with q | ⟨o', q⟩
      · exact .inl (.inl (by rw [upd_ne n]; exact q))
      · exact .inl (.inr ⟨o', by rw [upd_ne n]; exact q⟩)
    · exact .inr q
  · rw [upd_ne (show a ≠ p from fun e => by subst e; exact hb ha)]; exact q
  · rcases q with ⟨o', q⟩ | q
    · refine .inl ⟨o', ?_⟩
      rw [upd_ne (show a ≠ p from fun e => by subst e; rcases hp with ⟨_, z⟩ | ⟨_, z⟩ | ⟨_, z⟩ <;> rw [z] at q <;> cases q)]; exact q
    · exact .inr q
  · rw [upd_ne (show a ≠ p from fun e => by subst e; exact u hu)]; exact q
  · rw [upd_ne (show a ≠ p from fun e => by subst e; exact u hu)]; exact q
  · rw [upd_ne (show a ≠ p from fun e => by subst e; exact u hu)]; exact q
theorem rep_same {d : D} {v : V} {L : List Addr} (e : Same H H') (h : rep K H U d v L) : rep K H' U d v L := rep_go d v L (.same e) h
theorem reps_same {d : List D} {v : List V} {L : List Addr} (e : Same H H') (h : reps K H U d v L) : reps K H' U d v L := reps_go d v L (.same e) h
theorem rep_set {d : D} {v : V} {L : List Addr} (e : ∀ a, U' a → U a ∨ H a = none) (h : rep K H U d v L) : rep K H U' d v L := rep_go d v L (.set e) h
theorem reps_set {d : List D} {v : List V} {L : List Addr} (e : ∀ a, U' a → U a ∨ H a = none) (h : reps K H U d v L) : reps K H U' d v L := reps_go d v L (.set e) h

/-! shared views -/
mutual
theorem rep_sh : ∀ (d : D) (v : V) (L : List Addr), (∀ a ∈ L, ¬ U a) → rep K H U d v L → rep K H U (sh d) v []
  | .non, v, L, g, h => ⟨h.1, rfl⟩
  | .bl b, v, L, g, h => ⟨h.1, rfl⟩
  | .int i, v, L, g, h => ⟨h.1, rfl⟩
  | .str s, v, L, g, h => ⟨h.1, h.2.1, rfl⟩
  | .tup ds, v, L, g, h => by
    obtain ⟨a, vs, e, q, r⟩ := h
    exact ⟨a, vs, ⟨e.1, by rw [shs_length]; exact e.2⟩, q, reps_sh ds vs L g r⟩
  | .lst o ds, v, L, g, h => by
    obtain ⟨a, vs, L', e, r, z⟩ := h
    rcases z with ⟨e1, q, e2⟩ | ⟨e1, q, u, e2, e3⟩ | ⟨e1, q, e2, e3⟩
    · subst e1 e2
      exact ⟨a, vs, [], ⟨e.1, by rw [shs_length]; exact e.2⟩, reps_sh ds vs L' (fun b hb => g b (List.mem_cons_of_mem _ hb)) r, .inr (.inl ⟨rfl, q, g a List.mem_cons_self, rfl, rfl⟩)⟩
    · subst e1 e2 e3
      exact ⟨a, vs, [], ⟨e.1, by rw [shs_length]; exact e.2⟩, reps_sh ds vs [] g r, .inr (.inl ⟨rfl, q, u, rfl, rfl⟩)⟩
    · subst e1 e2 e3
      exact ⟨a, vs, [], ⟨e.1, by rw [shs_length]; exact e.2⟩, reps_sh ds vs [] g r, .inr (.inr ⟨rfl, q, rfl, rfl⟩)⟩
  | .dic o ds, v, L, g, h => by
    obtain ⟨a, vs, L', e, r, q, z⟩ := h
    rcases z with ⟨e1, e2⟩ | ⟨e1, u, e2, e3⟩
    · subst e1 e2
      exact ⟨a, vs, [], e, ⟨repk_sh ds vs L' (fun b hb => g b (List.mem_cons_of_mem _ hb)) r.1, by rw [shk_keys]; exact r.2⟩, q, .inr ⟨rfl, g a List.mem_cons_self, rfl, rfl⟩⟩
    · subst e1 e2 e3
      exact ⟨a, vs, [], e, ⟨repk_sh ds vs [] g r.1, by rw [shk_keys]; exact r.2⟩, q, .inr ⟨rfl, u, rfl, rfl⟩⟩
  | .dct o ds, v, L, g, h => by
    obtain ⟨a, vs, e, q, m, z⟩ := h
    rcases z with ⟨e1, e2⟩ | ⟨e1, u, e3⟩
    · subst e1 e2
      exact ⟨a, vs, e, q, m, .inr ⟨rfl, g a List.mem_cons_self, rfl⟩⟩
    · subst e1
      exact ⟨a, vs, e, q, m, .inr ⟨rfl, u, rfl⟩⟩
  | .fn x, v, L, g, h => ⟨h.1, rfl⟩
  | .ptu ks, v, L, g, h => by
    obtain ⟨a, vs, e, q, m, z⟩ := h
    exact ⟨a, vs, e, q, m, rfl⟩
termination_by structural d => d
theorem reps_sh : ∀ (ds : List D) (vs : List V) (L : List Addr), (∀ a ∈ L, ¬ U a) → reps K H U ds vs L → reps K H U (shs ds) vs []
  | [], vs, L, g, h => ⟨h.1, rfl⟩
  | d :: r, vs, L, g, h => by
    obtain ⟨v, vr, L1, L2, e, e2, h1, h2⟩ := h
    subst e2
    exact ⟨v, vr, [], [], e, rfl, rep_sh d v L1 (fun b hb => g b (List.mem_append_left _ hb)) h1, reps_sh r vr L2 (fun b hb => g b (List.mem_append_right _ hb)) h2⟩
termination_by structural d => d
theorem repk_sh : ∀ (ds : List (Ky × D)) (vs : List (Key × V)) (L : List Addr), (∀ a ∈ L, ¬ U a) → repk K H U ds vs L → repk K H U (shk ds) vs []
  | [], vs, L, g, h => ⟨h.1, rfl⟩
  | d :: r, vs, L, g, h => by
    obtain ⟨v, vr, L1, L2, e, e2, h1, h2⟩ := h
    subst e2
    exact ⟨v, vr, [], [], e, rfl, repp_sh d v L1 (fun b hb => g b (List.mem_append_left _ hb)) h1, repk_sh r vr L2 (fun b hb => g b (List.mem_append_right _ hb)) h2⟩
termination_by structural d => d
theorem repp_sh : ∀ (p : Ky × D) (v : Key × V) (L : List Addr), (∀ a ∈ L, ¬ U a) → repp K H U p v L → repp K H U (shp p) v []
  | (k, d), v, L, g, h => ⟨h.1, rep_sh d v.2 L g h.2⟩
termination_by structural d => d
end
mutual
/-- without a shared node it leans on its own nodes (and tuples) alone -/
theorem rep_noSh : ∀ (d : D) (v : V) (L : List Addr), noSh d = true → rep K H U d v L → rep K H U' d v L
  | .non, v, L, g, h => h
  | .bl b, v, L, g, h => h
  | .int i, v, L, g, h => h
  | .str s, v, L, g, h => h
  | .tup ds, v, L, g, h => by
    obtain ⟨a, vs, e, q, r⟩ := h
    exact ⟨a, vs, e, q, reps_noSh ds vs L g r⟩
  | .lst o ds, v, L, g, h => by
    obtain ⟨a, vs, L', e, r, z⟩ := h
    obtain ⟨g1, g2⟩ := Bool.and_eq_true_iff.mp (show (o.no && noShs ds) = true from g)
    rcases z with ⟨e1, q, e2⟩ | ⟨e1, q, u, e2, e3⟩ | ⟨e1, q, e2, e3⟩
    · exact ⟨a, vs, L', e, reps_noSh ds vs L' g2 r, .inl ⟨e1, q, e2⟩⟩
    · rw [e1] at g1; cases g1
    · exact ⟨a, vs, L', e, reps_noSh ds vs L' g2 r, .inr (.inr ⟨e1, q, e2, e3⟩)⟩
  | .dic o ds, v, L, g, h => by
    obtain ⟨a, vs, L', e, r, q, z⟩ := h
    obtain ⟨g1, g2⟩ := Bool.and_eq_true_iff.mp (show (o.no && noShk ds) = true from g)
    rcases z with ⟨e1, e2⟩ | ⟨e1, u, e2, e3⟩
    · exact ⟨a, vs, L', e, ⟨repk_noSh ds vs L' g2 r.1, r.2⟩, q, .inl ⟨e1, e2⟩⟩
    · rw [e1] at g1; cases g1
  | .dct o ds, v, L, g, h => by
    obtain ⟨a, vs, e, q, m, z⟩ := h
    rcases z with ⟨e1, e2⟩ | ⟨e1, u, e3⟩
    · exact ⟨a, vs, e, q, m, .inl ⟨e1, e2⟩⟩
    · have g1 : o.no = true := g
      rw [e1] at g1; cases g1
  | .fn x, v, L, g, h => h
  | .ptu ks, v, L, g, h => h
termination_by structural d => d
theorem reps_noSh : ∀ (ds : List D) (vs : List V) (L : List Addr), noShs ds = true → reps K H U ds vs L → reps K H U' ds vs L
  | [], vs, L, g, h => h
  | d :: r, vs, L, g, h => by
    obtain ⟨v, vr, L1, L2, e, e2, h1, h2⟩ := h
    obtain ⟨g1, g2⟩ := Bool.and_eq_true_iff.mp (show (noSh d && noShs r) = true from g)
    exact ⟨v, vr, L1, L2, e, e2, rep_noSh d v L1 g1 h1, reps_noSh r vr L2 g2 h2⟩
termination_by structural d => d
theorem repk_noSh : ∀ (ds : List (Ky × D)) (vs : List (Key × V)) (L : List Addr), noShk ds = true → repk K H U ds vs L → repk K H U' ds vs L
  | [], vs, L, g, h => h
  | d :: r, vs, L, g, h => by
    obtain ⟨v, vr, L1, L2, e, e2, h1, h2⟩ := h
    obtain ⟨g1, g2⟩ := Bool.and_eq_true_iff.mp (show (noShp d && noShk r) = true from g)
    exact ⟨v, vr, L1, L2, e, e2, repp_noSh d v L1 g1 h1, repk_noSh r vr L2 g2 h2⟩
termination_by structural d => d
theorem repp_noSh : ∀ (p : Ky × D) (v : Key × V) (L : List Addr), noShp p = true → repp K H U p v L → repp K H U' p v L
  | (k, d), v, L, g, h => ⟨h.1, rep_noSh d v.2 L g h.2⟩
termination_by structural d => d
end
mutual
theorem sh_sh : ∀ d : D, sh (sh d) = sh d
  | .non => rfl
  | .bl b => rfl
  | .int i => rfl
  | .str s => rfl
  | .tup ds => congrArg D.tup (shs_shs ds)
  | .lst o ds => by show D.lst o.sh.sh (shs (shs ds)) = _; rw [O.sh_sh, shs_shs ds]; rfl
  | .dic o ds => by show D.dic o.sh.sh (shk (shk ds)) = _; rw [O.sh_sh, shk_shk ds]; rfl
  | .dct o ds => by show D.dct o.sh.sh ds = _; rw [O.sh_sh]; rfl
  | .fn _ => rfl
  | .ptu _ => rfl
termination_by structural d => d
theorem shs_shs : ∀ d : List D, shs (shs d) = shs d
  | [] => rfl
  | d :: r => by show sh (sh d) :: shs (shs r) = _; rw [sh_sh d, shs_shs r]; rfl
termination_by structural d => d
theorem shk_shk : ∀ d : List (Ky × D), shk (shk d) = shk d
  | [] => rfl
  | d :: r => by show shp (shp d) :: shk (shk r) = _; rw [shp_shp d, shk_shk r]; rfl
termination_by structural d => d
theorem shp_shp : ∀ d : Ky × D, shp (shp d) = shp d
  | (k, d) => by show (k, sh (sh d)) = _; rw [sh_sh d]; rfl
termination_by structural d => d
end
theorem shs_map : ∀ ds : List D, shs ds = ds.map sh
  | [] => rfl
  | d :: r => by rw [List.map_cons, ← shs_map r]; rfl
theorem noShs_all : ∀ ds : List D, noShs ds = ds.all noSh
  | [] => rfl
  | d :: r => by rw [List.all_cons, ← noShs_all r]; rfl
/-- the owned addresses of a rep are tracked -/
theorem rep_dom_aux : True := trivial

/-! lists of values -/
theorem reps_length : ∀ {ds : List D} {vs : List V} {L : List Addr}, reps K H U ds vs L → vs.length = ds.length
  | [], vs, L, h => by rw [h.1]; rfl
  | d :: r, vs, L, h => by
    obtain ⟨v, vr, L1, L2, e, e2, h1, h2⟩ := h
    rw [e, List.length_cons, List.length_cons, reps_length h2]
theorem reps_append : ∀ {ds es : List D} {vs ws : List V} {L M : List Addr}, reps K H U ds vs L → reps K H U es ws M → reps K H U (ds ++ es) (vs ++ ws) (L ++ M)
  | [], es, vs, ws, L, M, h, g => by obtain ⟨rfl, rfl⟩ := h; exact g
  | d :: r, es, vs, ws, L, M, h, g => by
    obtain ⟨v, vr, L1, L2, e, e2, h1, h2⟩ := h
    subst e e2
    exact ⟨v, vr ++ ws, L1, L2 ++ M, rfl, List.append_assoc _ _ _, h1, reps_append h2 g⟩
theorem reps_get0 : ∀ {ds : List D} {vs : List V} {i : Nat} {d : D}, reps K H U ds vs [] → ds[i]? = some d → ∃ v, vs[i]? = some v ∧ rep K H U d v []
  | [], vs, i, d, h, e => by simp at e
  | d' :: r, vs, i, d, h, e => by
    obtain ⟨v, vr, L1, L2, e1, e2, h1, h2⟩ := h
    obtain ⟨rfl, rfl⟩ := List.append_eq_nil_iff.mp e2.symm
    subst e1
    cases i with
    | zero => simp at e; subst e; exact ⟨v, rfl, h1⟩
    | succ i => simp at e; obtain ⟨w, q1, q2⟩ := reps_get0 h2 e; exact ⟨w, by simpa using q1, q2⟩
theorem reps_sub0 : ∀ {ds : List D} {vs : List V} (n : Nat), reps K H U ds vs [] → reps K H U (ds.take n) (vs.take n) [] ∧ reps K H U (ds.drop n) (vs.drop n) []
  | ds, vs, 0, h => by simp only [List.take_zero, List.drop_zero]; exact ⟨⟨rfl, rfl⟩, h⟩
  | [], vs, n + 1, h => by obtain ⟨rfl, _⟩ := h; exact ⟨⟨rfl, rfl⟩, ⟨rfl, rfl⟩⟩
  | d :: r, vs, n + 1, h => by
    obtain ⟨v, vr, L1, L2, e1, e2, h1, h2⟩ := h
    obtain ⟨rfl, rfl⟩ := List.append_eq_nil_iff.mp e2.symm
    subst e1
    obtain ⟨q1, q2⟩ := reps_sub0 n h2
    exact ⟨⟨v, vr.take n, [], [], rfl, rfl, h1, q1⟩, q2⟩
theorem reps_one {d : D} {v : V} {L : List Addr} (h : rep K H U d v L) : reps K H U [d] [v] L := ⟨v, [], L, [], rfl, (List.append_nil L).symm, h, rfl, rfl⟩
theorem reps_rev0 : ∀ {ds : List D} {vs : List V}, reps K H U ds vs [] → reps K H U ds.reverse vs.reverse []
  | [], vs, h => by obtain ⟨rfl, _⟩ := h; exact ⟨rfl, rfl⟩
  | d :: r, vs, h => by
    obtain ⟨v, vr, L1, L2, e1, e2, h1, h2⟩ := h
    obtain ⟨rfl, rfl⟩ := List.append_eq_nil_iff.mp e2.symm
    subst e1
    rw [List.reverse_cons, List.reverse_cons]
    exact reps_append (reps_rev0 h2) (reps_one h1)
theorem reps_ints : ∀ {ns : List Int} {vs : List V} {L : List Addr}, reps K H U (ns.map D.int) vs L → vs = ns.map V.int ∧ L = []
  | [], vs, L, h => h
  | n :: r, vs, L, h => by
    obtain ⟨v, vr, L1, L2, e1, e2, h1, h2⟩ := h
    obtain ⟨rfl, rfl⟩ := h1
    obtain ⟨rfl, rfl⟩ := reps_ints h2
    exact ⟨e1, e2⟩
theorem reps_strs : ∀ {ns : List Cs} {vs : List V} {L : List Addr}, reps K H U (ns.map D.str) vs L → vs = ns.map (fun s => V.str (toS s)) ∧ L = [] ∧ ∀ s ∈ ns, Sok s
  | [], vs, L, h => ⟨h.1, h.2, fun _ q => by cases q⟩
  | n :: r, vs, L, h => by
    obtain ⟨v, vr, L1, L2, e1, e2, h1, h2⟩ := h
    obtain ⟨rfl, z, rfl⟩ := h1
    obtain ⟨rfl, rfl, w⟩ := reps_strs h2
    exact ⟨e1, e2, fun s q => by rcases List.mem_cons.mp q with rfl | q; exact z; exact w s q⟩
theorem reps_bls : ∀ {ns : List Bool} {vs : List V} {L : List Addr}, reps K H U (ns.map D.bl) vs L → vs = ns.map V.bl ∧ L = []
  | [], vs, L, h => h
  | n :: r, vs, L, h => by
    obtain ⟨v, vr, L1, L2, e1, e2, h1, h2⟩ := h
    obtain ⟨rfl, rfl⟩ := h1
    obtain ⟨rfl, rfl⟩ := reps_bls h2
    exact ⟨e1, e2⟩
end
end Q

set_option maxHeartbeats 1000000
namespace Q
open PySem PySem.Spec PyProof.Rows L2

/-! ## results -/
structure Ex where
  cls : Nat
  row : Option Int
inductive R (α : Type) where
  | ok (a : α) | exc (e : Ex) | bad
def R.b {α β : Type} (x : R α) (f : α → R β) : R β := match x with
  | .ok a => f a
  | .exc e => .exc e
  | .bad => .bad
@[simp] theorem R.b_ok {α β : Type} (a : α) (f : α → R β) : (R.ok a).b f = f a := (rfl)
@[simp] theorem R.b_exc {α β : Type} (a : Ex) (f : α → R β) : (R.exc a).b f = .exc a := (rfl)
@[simp] theorem R.b_bad {α β : Type} (f : α → R β) : R.bad.b f = .bad := (rfl)

/-! ## the language -/
inductive Ty where
  | int | bool | str | list | tuple | dict
  deriving DecidableEq
inductive BO where
  | add | sub | mul | fdiv | mod | pow
  deriving DecidableEq
inductive CO where
  | eq | ne | lt | le | gt | ge | isin | notin | is | isnot
  deriving DecidableEq
inductive BF where
  | len | sum | max | min | maxd | all | any | int | str | tuple | list | dict | sorted | tupx
  deriving DecidableEq
inductive MF where
  | join | split | strip | find | starts | ends | lower | upper | replace | count | index | get | part
  deriving DecidableEq
inductive P where
  | n (i : Nat) | t (is : List Nat)
  deriving DecidableEq
mutual
inductive E where
  | lit (d : D)
  | var (i : Nat) | mvar (i : Nat)
  | bin (o : BO) (a b : E)
  | neg (a : E)
  | cmp (o : CO) (a b : E)
  | chain (o o' : CO) (a b c : E)
  | and_ (a b : E) | or_ (a b : E) | not_ (a : E)
  | ite (c a b : E)
  | call (f : Nat) (es : List E) | call0 (f : Nat) | callo (f : Nat) (es : List E)
  | bf (f : BF) (es : List E)
  | meth (f : MF) (o : E) (es : List E)
  | isi (a : E) (ts : List Ty)
  | callv (i : Nat) (tb : List (Str × Nat × Nat)) (es : List E)
  | sub (a i : E)
  | slice (a : E) (lo hi : Option E)
  | rev (a : E)
  | tup (es : List E) | lst (es : List E)
  | dic (ks : List Ky) (es : List E)
  | dict0 (t : Bool)
  | comp (p : P) (it : It) (cs : List E) (e : E)
  | fstr (es : List E)
inductive It where
  | val (e : E) | r1 (e : E) | r2 (a b : E) | r3 (a b c : E) | enum (e : E) | zip (a b : E)
end

abbrev Env := List (Option D)

/-! ## values -/
def idx (n : Nat) (i : Int) : Option Nat := ixN n i
def getit (x y : D) : R D := match x, y with
  | .tup ds, .int i => match atI ds i with
    | some d => .ok d
    | none => .bad
  | .lst _ ds, .int i => match atI ds i with
    | some d => .ok d
    | none => .bad
  | .str s, .int i => match atI s i with
    | some c => .ok (.str [c])
    | none => .bad
  | .ptu ks, .int i => match atI (ks.map fun kv => D.tup [.str kv.1, .int kv.2]) i with
    | some d => .ok d
    | none => .bad
  | _, _ => .bad
def keyD : D → Option Ky
  | .int i => some (.inl i)
  | .str s => some (.inr s)
  | _ => none
def lookD (kvs : List (Ky × D)) (k : Ky) : Option D := (kvs.find? fun kv => decide (kv.1 = k)).map (·.2)
def putD (kvs : List (Ky × D)) (k : Ky) (v : D) : List (Ky × D) :=
  if (kvs.any fun kv => decide (kv.1 = k)) = true then kvs.map (fun kv => if kv.1 = k then (kv.1, v) else kv) else kvs ++ [(k, v)]
def mergeD (kvs more : List (Ky × D)) : List (Ky × D) := more.foldl (fun acc kv => putD acc kv.1 kv.2) kvs
def getD (x y : D) : R D := match x with
  | .dic _ kvs => match keyD y with
    | some k => match lookD kvs k with
      | some d => .ok d
      | none => .bad
    | none => .bad
  | _ => getit x y
def cut {α : Type} (xs : List α) (lo hi : Option Int) : List α := (xs.drop (HT.sIx xs.length 0 lo)).take (HT.sIx xs.length xs.length hi - HT.sIx xs.length 0 lo)
def slic (x : D) (lo hi : Option Int) : R D := match x with
  | .tup ds => .ok (.tup (cut ds lo hi))
  | .lst _ ds => .ok (.lst .w (cut ds lo hi))
  | .str s => .ok (.str (cut s lo hi))
  | .ptu ks => .ok (.tup (cut (ks.map fun kv => D.tup [.str kv.1, .int kv.2]) lo hi))
  | _ => .bad
def revv (x : D) : R D := match x with
  | .str s => .ok (.str s.reverse)
  | .tup ds => .ok (.tup (shs ds).reverse)
  | .ptu ks => .ok (.tup (shs (ks.map fun kv => D.tup [.str kv.1, .int kv.2])).reverse)
  | _ => .bad

mutual
def dep : D → Nat
  | .tup ds => deps ds + 1
  | .lst _ ds => deps ds + 1
  | .non => 0
  | .bl _ => 0
  | .int _ => 0
  | .str _ => 0
  | .dic _ _ => 100
  | .dct _ _ => 100
  | .ptu _ => 100
  | .fn _ => 100
termination_by structural x => x
def deps : List D → Nat
  | [] => 0
  | d :: r => max (dep d) (deps r)
termination_by structural x => x
end
mutual
/-- == of what holds no dicts -/
def deq : D → D → Bool
  | .non, y => match y with
    | .non => true
    | _ => false
  | .bl a, y => match y with
    | .bl b => a == b
    | .int j => (if a then 1 else 0) == j
    | _ => false
  | .int i, y => match y with
    | .int j => i == j
    | .bl b => i == (if b then 1 else 0)
    | _ => false
  | .str s, y => match y with
    | .str t => s == t
    | _ => false
  | .tup xs, y => match y with
    | .tup ys => deqs xs ys
    | _ => false
  | .lst _ xs, y => match y with
    | .lst _ ys => deqs xs ys
    | _ => false
  | .dic _ _, _ => false
  | .dct _ _, _ => false
  | .ptu _, _ => false
  | .fn _, _ => false
termination_by structural x => x
def deqs : List D → List D → Bool
  | [], ys => match ys with
    | [] => true
    | _ :: _ => false
  | x :: xs, ys => match ys with
    | [] => false
    | y :: ys => deq x y && deqs xs ys
termination_by structural x => x
end
def sameF : D → D → Bool
  | .non, .non => true
  | .bl a, .bl b => a == b
  | .int a, .int b => a == b
  | .str a, .str b => a == b
  | _, _ => false
/-- two dicts with the same keys and the same flat values -/
def dicEq (a b : List (Ky × D)) : Bool := decide (a.length = b.length) && a.all fun p => match lookD b p.1 with
  | some d => sameF p.2 d
  | none => false
def itemEq (x y : D) : Bool := match x, y with
  | .dic _ a, .dic _ b => dicEq a b
  | _, _ => decide (dep x ≤ 64) && (decide (dep y ≤ 64) && deq x y)
def itemsEq : List D → List D → Bool
  | [], [] => true
  | x :: xs, y :: ys => itemEq x y && itemsEq xs ys
  | _, _ => false
def eqD (x y : D) : R Bool := match x, y with
  | .dic _ a, .dic _ b => if dicEq a b then .ok true else .bad
  | .lst o a, .lst o' b => if dep (.lst o a) ≤ 64 ∧ dep (.lst o' b) ≤ 64 then .ok (deq (.lst o a) (.lst o' b)) else if itemsEq a b then .ok true else .bad
  | .ptu a, .ptu b => if b = [] then .ok a.isEmpty else .bad
  | _, _ => if dep x ≤ 64 ∧ dep y ≤ 64 then .ok (deq x y) else .bad
def ltL : List Int → List Int → Bool := HT.lexLt
def intsOf : List D → Option (List Int)
  | [] => some []
  | .int i :: r => (intsOf r).map (i :: ·)
  | _ :: _ => none
def strsOf : List D → Option (List Cs)
  | [] => some []
  | .str s :: r => (strsOf r).map (s :: ·)
  | _ :: _ => none
def blsOf : List D → Option (List Bool)
  | [] => some []
  | .bl s :: r => (blsOf r).map (s :: ·)
  | _ :: _ => none
def ltD (x y : D) : R Bool := match x, y with
  | .int i, .int j => .ok (decide (i < j))
  | .str i, .str j => .ok (decide (i < j))
  | .tup a, .tup b => match intsOf a, intsOf b with
    | some a, some b => .ok (ltL a b)
    | _, _ => .bad
  | _, _ => .bad
def gtD (x y : D) : R Bool := match x, y with
  | .lst _ a, .lst _ b => match intsOf a, intsOf b with
    | some a, some b => .ok (ltL b a)
    | _, _ => .bad
  | x, y => ltD y x
def occ (s t : Cs) : Bool := !(Builtin.Str.occurrences (toS s) (toS t) 0 s.length 1).isEmpty
def inD (x y : D) : R Bool := match x, y with
  | .str [c], .str t => .ok (decide (c ∈ t))
  | .str s, .str t => .ok (occ t s)
  | x, .lst _ ds => if dep x ≤ 64 ∧ deps ds < 64 then .ok (ds.any fun z => deq z x) else .bad
  | x, .tup ds => if flatD x && ds.all flatD then .ok (ds.any fun z => deq z x) else .bad
  | x, .dic _ kvs => match keyD x with
    | some k => .ok (lookD kvs k).isSome
    | none => .bad
  | _, _ => .bad
def isD (x y : D) : R Bool := match y with
  | .non => match x with
    | .non => .ok true
    | _ => .ok false
  | .bl b => match x with
    | .bl a => .ok (a == b)
    | _ => .bad
  | _ => .bad
def R.nt (x : R Bool) : R Bool := match x with
  | .ok b => .ok (!b)
  | .exc e => .exc e
  | .bad => .bad
def cmpop (o : CO) (x y : D) : R Bool := match o with
  | .eq => eqD x y
  | .ne => (eqD x y).nt
  | .lt => ltD x y
  | .gt => gtD x y
  | .le => match x, y with
    | .int i, .int j => .ok (decide (i ≤ j))
    | .str i, .str j => .ok (!decide (j < i))
    | _, _ => .bad
  | .ge => match x, y with
    | .int i, .int j => .ok (decide (j ≤ i))
    | .str i, .str j => .ok (!decide (i < j))
    | _, _ => .bad
  | .isin => inD x y
  | .notin => (inD x y).nt
  | .is => isD x y
  | .isnot => (isD x y).nt
def small (i : Int) : Bool := decide (-(2 ^ 64) < i ∧ i < 2 ^ 64)
def binop (o : BO) (x y : D) : R D := match o with
  | .add => match x, y with
    | .int i, .int j => .ok (.int (i + j))
    | .str a, .str b => if a.length + b.length ≤ lim then .ok (.str (a ++ b)) else .bad
    | .lst o a, .lst o' b => if o ≠ .f ∧ o' ≠ .f ∧ a.length + b.length ≤ lim then .ok (.lst .w (a ++ b)) else .bad
    | .tup a, .tup b => if a.length + b.length ≤ lim then .ok (.tup (a ++ b)) else .bad
    | .tup a, .ptu ks => if a.length + (ks.map fun kv => D.tup [.str kv.1, .int kv.2]).length ≤ lim then .ok (.tup (a ++ (ks.map fun kv => D.tup [.str kv.1, .int kv.2]))) else .bad
    | _, _ => .bad
  | .sub => match x, y with
    | .int i, .int j => .ok (.int (i - j))
    | _, _ => .bad
  | .mul => match x, y with
    | .int i, .int j => if small i || small j then .ok (.int (i * j)) else .bad
    | .lst o a, .int k => if o ≠ .f ∧ -(2 ^ 63) ≤ k ∧ k < 2 ^ 63 ∧ a.length * k.toNat ≤ lim then .ok (.lst .w (List.replicate k.toNat (shs a)).flatten) else .bad
    | .str a, .int k => if k = 0 ∨ k = 1 then .ok (.str (if k = 1 then a else [])) else if 2 ≤ k ∧ k ≤ 1000 ∧ a.length ≤ 1000 then .ok (.str (List.replicate k.toNat a).flatten) else .bad
    | .tup a, .int k => if a ≠ [] ∧ 0 ≤ k ∧ k ≤ 1000 ∧ a.length ≤ 1000 then .ok (.tup (List.replicate k.toNat (shs a)).flatten) else .bad
    | _, _ => .bad
  | .fdiv => match x, y with
    | .int i, .int j => if 0 < j ∧ j < 1073741824 then .ok (.int (i / j)) else .bad
    | _, _ => .bad
  | .mod => match x, y with
    | .int i, .int j => if 0 < j then .ok (.int (i % j)) else .bad
    | _, _ => .bad
  | .pow => match x, y with
    | .int i, .int j => if 0 ≤ j ∧ j ≤ 1000000 ∧ i.natAbs < 2 ^ 64 then .ok (.int (i ^ j.toNat)) else .bad
    | _, _ => .bad
def isTy (d : D) (t : Ty) : Bool := match d, t with
  | .int _, .int => true
  | .bl _, .int => true
  | .bl _, .bool => true
  | .str _, .str => true
  | .lst _ _, .list => true
  | .tup _, .tuple => true
  | .dic _ _, .dict => true
  | .dct _ _, .dict => true
  | .ptu _, .tuple => true
  | _, _ => false
/-- no def -/
def isOk : D → Bool
  | .fn _ => false
  | _ => true
def maxL : List Int → Int
  | [] => 0
  | [a] => a
  | a :: r => max a (maxL r)
def minL : List Int → Int
  | [] => 0
  | [a] => a
  | a :: r => min a (minL r)
def fLen (ds : List D) : R D := match ds with
  | [.lst _ xs] => .ok (.int xs.length)
  | [.tup xs] => .ok (.int xs.length)
  | [.str xs] => .ok (.int xs.length)
  | [.dic _ xs] => .ok (.int xs.length)
  | [.dct _ xs] => .ok (.int xs.length)
  | [.ptu xs] => .ok (.int xs.length)
  | _ => .bad
def fSum (ds : List D) : R D := match ds with
  | [.lst _ xs] => match intsOf xs with
    | some ns => .ok (.int ns.sum)
    | none => .bad
  | _ => .bad
def tupsOf : List D → Option (List (List Int))
  | [] => some []
  | .tup a :: r => match intsOf a with
    | some p => (tupsOf r).map (p :: ·)
    | none => none
  | _ :: _ => none
/-- the greatest, the first one of several -/
def maxT (p : List Int) (ps : List (List Int)) : List Int := ps.foldl (fun a y => if ltL a y then y else a) p
def fMax (ds : List D) : R D := match ds with
  | [.lst _ xs] => match intsOf xs with
    | some (n :: ns) => .ok (.int (maxL (n :: ns)))
    | _ => match tupsOf xs with
      | some (p :: ps) => .ok (.tup ((maxT p ps).map D.int))
      | _ => .bad
  | [.int i, .int j] => .ok (.int (max i j))
  | _ => .bad
mutual
/-- alike, place by place -/
def alI : D → D → Bool
  | .int _, y => (match y with
    | .int _ => true
    | _ => false)
  | .tup xs, y => (match y with
    | .tup ys => alsI xs ys
    | _ => false)
  | .lst _ xs, y => (match y with
    | .lst _ ys => alsI xs ys
    | _ => false)
  | .non, _ => false
  | .bl _, _ => false
  | .str _, _ => false
  | .dic _ _, _ => false
  | .dct _ _, _ => false
  | .ptu _, _ => false
  | .fn _, _ => false
termination_by structural x => x
def alsI : List D → List D → Bool
  | [], _ => true
  | x :: xs, ys => (match ys with
    | [] => true
    | y :: ys => alI x y && alsI xs ys)
termination_by structural x => x
end
def AlI (xs : List D) : Bool := xs.all fun x => xs.all fun y => alI x y
mutual
/-- whole numbers in tuples and lists -/
def intD : D → Bool
  | .int _ => true
  | .tup xs => alintD xs
  | .lst o xs => (match o with
    | .f => false
    | _ => true) && alintD xs
  | .non => false
  | .bl _ => false
  | .str _ => false
  | .dic _ _ => false
  | .dct _ _ => false
  | .ptu _ => false
  | .fn _ => false
termination_by structural x => x
def alintD : List D → Bool
  | [] => true
  | x :: xs => intD x && alintD xs
termination_by structural x => x
end
mutual
/-- what such data are compared by, sign by sign -/
def keyI : D → List Int
  | .int n => [n]
  | .tup xs => keysI xs
  | .lst _ xs => keysI xs
  | .non => []
  | .bl _ => []
  | .str _ => []
  | .dic _ _ => []
  | .dct _ _ => []
  | .ptu _ => []
  | .fn _ => []
termination_by structural x => x
def keysI : List D → List Int
  | [] => [0]
  | x :: xs => 1 :: (keyI x ++ keysI xs)
termination_by structural x => x
end
def minDD (x : D) (xs : List D) : D := xs.foldl (fun a y => if ltL (keyI y) (keyI a) then y else a) x
def fMinG (xs : List D) : R D := match xs with
  | x :: r => if alintD (x :: r) = true ∧ deps (x :: r) ≤ 60 ∧ AlI (x :: r) = true then .ok (sh (minDD x r)) else .bad
  | [] => .bad
def fMin (ds : List D) : R D := match ds with
  | [.lst _ xs] => match intsOf xs with
    | some (n :: ns) => .ok (.int (minL (n :: ns)))
    | _ => fMinG xs
  | [.int i, .int j] => .ok (.int (min i j))
  | _ => .bad
def fAll (ds : List D) : R D := match ds with
  | [.lst _ xs] => match blsOf xs with
    | some bs => .ok (.bl (bs.all id))
    | none => .bad
  | _ => .bad
def fAny (ds : List D) : R D := match ds with
  | [.lst _ xs] => match blsOf xs with
    | some bs => .ok (.bl (bs.any id))
    | none => .bad
  | _ => .bad
def fInt (ds : List D) : R D := match ds with
  | [.int i] => .ok (.int i)
  | [.bl b] => .ok (.int (if b then 1 else 0))
  | _ => .bad
def fStr (ds : List D) : R D := match ds with
  | [.int i] => if 0 ≤ i ∧ i < 10 ^ 100 then .ok (.str (TL.numL i.toNat)) else .bad
  | _ => .bad
/-- pairs of a text and a whole number -/
def oddsOf : List D → Option (List (Cs × Int))
  | [] => some []
  | .tup [.str c, .int w] :: r => (oddsOf r).map fun ks => (c, w) :: ks
  | _ :: _ => none
def tupD (xs : List D) : D := match xs with
  | [] => .tup []
  | x :: r => match oddsOf (x :: r) with
    | some ks => .ptu ks
    | none => .tup (shs (x :: r))
def fTuple (ds : List D) : R D := match ds with
  | [.lst _ xs] => .ok (tupD xs)
  | [.tup xs] => .ok (.tup xs)
  | _ => .bad
def fList (ds : List D) : R D := match ds with
  | [.lst _ xs] => .ok (.lst .w (shs xs))
  | [.tup xs] => .ok (.lst .w (shs xs))
  | [.ptu ks] => .ok (.lst .w (shs (ks.map fun kv => D.tup [.str kv.1, .int kv.2])))
  | _ => .bad
/-- tuple(a list of pairs as they are shown) -/
def fTupx (ds : List D) : R D := match ds with
  | [.lst _ []] => .ok (.ptu [])
  | _ => fTuple ds
def fDict (ds : List D) : R D := match ds with
  | [.dic _ kvs] => .ok (.dic .w (shk kvs))
  | [.ptu ks] => .ok (.dic .w (mergeD [] (ks.map fun kv => (.inr kv.1, .int kv.2))))
  | _ => .bad
/-- max(xs, default=d) -/
def fMaxd (ds : List D) : R D := match ds with
  | [.lst _ xs, .int d] => match intsOf xs with
    | some [] => .ok (.int d)
    | some (n :: ns) => .ok (.int (maxL (n :: ns)))
    | none => .bad
  | _ => .bad
def lowC (c : Nat) : Nat := if 65 ≤ c ∧ c ≤ 90 then c + 32 else c
def upC (c : Nat) : Nat := if 97 ≤ c ∧ c ≤ 122 then c - 32 else c
/-- the first place of a sign -/
def findC (s : Cs) (c : Nat) : Option Nat := s.findIdx? fun a => decide (a = c)
def joinD (s : Cs) (xs : List D) : R D := match strsOf xs with
  | some ps => if (ps.map List.length).sum + ps.length * s.length ≤ lim then .ok (.str (TL.joinL s ps)) else .bad
  | none => .bad
def dgetD (x k d : D) : R D := match x with
  | .dic _ kvs => match keyD k with
    | some q => match lookD kvs q with
      | some v => .ok (sh v)
      | none => if flatD d then .ok d else .bad
    | none => .bad
  | _ => .bad
def insC (x : Cs) : List Cs → List Cs
  | [] => [x]
  | y :: r => if y < x then y :: insC x r else x :: y :: r
def sortC : List Cs → List Cs
  | [] => []
  | x :: r => insC x (sortC r)
def txtKeys : List (Ky × D) → Option (List Cs)
  | [] => some []
  | p :: r => match p.1 with
    | .inr s => (txtKeys r).map (s :: ·)
    | .inl _ => none
/-- sorted(texts), sorted(dict of texts) -/
def fSorted (ds : List D) : R D := match ds with
  | [.lst _ xs] => match strsOf xs with
    | some ps => .ok (.lst .w ((sortC ps).map D.str))
    | none => .bad
  | [.dic _ kvs] => match txtKeys kvs with
    | some ps => if ps.length < 64 ∧ (ps.all fun s => decide (s.length ≤ lim) && s.all fun c => decide (c < 128)) = true then .ok (.lst .w ((sortC ps).map D.str)) else .bad
    | none => .bad
  | _ => .bad
def bfun (f : BF) (ds : List D) : R D := match f with
  | .len => fLen ds
  | .sum => fSum ds
  | .max => fMax ds
  | .min => fMin ds
  | .all => fAll ds
  | .any => fAny ds
  | .int => fInt ds
  | .str => fStr ds
  | .tuple => fTuple ds
  | .list => fList ds
  | .dict => fDict ds
  | .maxd => fMaxd ds
  | .sorted => fSorted ds
  | .tupx => fTupx ds
def mLower (x : D) (ds : List D) : R D := match x, ds with
  | .str s, [] => if s.length ≤ 5592405 then .ok (.str (s.map lowC)) else .bad
  | _, _ => .bad
def mUpper (x : D) (ds : List D) : R D := match x, ds with
  | .str s, [] => if s.length ≤ 5592405 then .ok (.str (s.map upC)) else .bad
  | _, _ => .bad
def mStarts (x : D) (ds : List D) : R D := match x, ds with
  | .str s, [.str t] => .ok (.bl (decide (t.length ≤ s.length ∧ s.take t.length = t)))
  | _, _ => .bad
def mEnds (x : D) (ds : List D) : R D := match x, ds with
  | .str s, [.str t] => .ok (.bl (decide (t.length ≤ s.length ∧ s.drop (s.length - t.length) = t)))
  | _, _ => .bad
def mFind (x : D) (ds : List D) : R D := match x, ds with
  | .str s, [.str t] => match t with
    | [c] => match findC s c with
      | some i => .ok (.int i)
      | none => .ok (.int (-1))
    | _ => .bad
  | _, _ => .bad
def mIndex (x : D) (ds : List D) : R D := match x, ds with
  | .str s, [.str t] => match t with
    | [c] => match findC s c with
      | some i => .ok (.int i)
      | none => .bad
    | _ => .bad
  | _, _ => .bad
def mJoin (x : D) (ds : List D) : R D := match x, ds with
  | .str s, [y] => match y with
    | .lst _ xs => joinD s xs
    | .tup xs => joinD s xs
    | _ => .bad
  | _, _ => .bad
def mGet (x : D) (ds : List D) : R D := match ds with
  | [k, d] => dgetD x k d
  | _ => .bad
def mPart (x : D) (ds : List D) : R D := match x, ds with
  | .str s, [.str t] => match t with
    | [c] => match findC s c with
      | some i => .ok (.tup [.str (s.take i), .str [c], .str (s.drop (i + 1))])
      | none => .ok (.tup [.str s, .str [], .str []])
    | _ => .bad
  | _, _ => .bad
def mCount (x : D) (ds : List D) : R D := match x, ds with
  | .str s, [.str t] => match t with
    | [c] => .ok (.int (s.countP fun a => decide (a = c)))
    | _ => .bad
  | _, _ => .bad
def mReplace (x : D) (ds : List D) : R D := match x, ds with
  | .str s, [.str t, .str u] => match t, u with
    | [c], [e] => if c ≠ e ∧ 2 * s.length + 1 ≤ 16777216 then .ok (.str (s.map fun a => if a = c then e else a)) else .bad
    | _, _ => .bad
  | _, _ => .bad
def mfun (f : MF) (x : D) (ds : List D) : R D := match f with
  | .replace => mReplace x ds
  | .part => mPart x ds
  | .count => mCount x ds
  | .lower => mLower x ds
  | .upper => mUpper x ds
  | .starts => mStarts x ds
  | .ends => mEnds x ds
  | .find => mFind x ds
  | .index => mIndex x ds
  | .join => mJoin x ds
  | .get => mGet x ds
  | _ => .bad
def itemsOf (d : D) : R (List D) := match d with
  | .lst _ xs => .ok xs
  | .tup xs => .ok xs
  | .str s => .ok (s.map fun c => .str [c])
  | .ptu ks => .ok (ks.map fun kv => .tup [.str kv.1, .int kv.2])
  | _ => .bad
def sized (i : Int) : Bool := decide (-(2 ^ 23) ≤ i ∧ i ≤ 2 ^ 23)
def rngUp (a b : Int) : List D := (List.range (b - a).toNat).map fun k => .int (a + (k : Nat))
def rngDn (a b : Int) : List D := (List.range (a - b).toNat).map fun k => .int (a - (k : Nat))
def bindP (p : P) (d : D) (env : Env) : R Env := match p with
  | .n i => .ok (env.set i (some (sh d)))
  | .t is => match d with
    | .tup ds => if ds.length = is.length then .ok ((is.zip ds).foldl (fun env q => env.set q.1 (some (sh q.2))) env) else .bad
    | .lst _ ds => if ds.length = is.length then .ok ((is.zip ds).foldl (fun env q => env.set q.1 (some (sh q.2))) env) else .bad
    | _ => .bad
def slots : P → List Nat
  | .n i => [i]
  | .t is => is
def wipeP (p : P) (env : Env) : Env := (slots p).foldl (fun env i => env.set i none) env
def R.quiet {α : Type} (x : R α) : R α := match x with
  | .ok a => .ok a
  | _ => .bad
/-- the kept items' values -/
def compL (f : D → R (Option D)) : List D → R (List D)
  | [] => .ok []
  | d :: r => (f d).quiet.b fun x => (compL f r).b fun ys => match x with
    | some y => .ok (y :: ys)
    | none => .ok ys
def look (env : Env) (i : Nat) : R D := match env[i]? with
  | some (some d) => .ok d
  | _ => .bad
def asB (x : R D) : R Bool := match x with
  | .ok (.bl b) => .ok b
  | .ok _ => .bad
  | .exc e => .exc e
  | .bad => .bad
def ofB (x : R Bool) : R D := x.b fun b => .ok (.bl b)
def asI (x : R D) : R Int := match x with
  | .ok (.int b) => .ok b
  | .ok _ => .bad
  | .exc e => .exc e
  | .bad => .bad
def fmt1 (x : D) : R Cs := match x with
  | .str s => .ok s
  | .int i => if 0 ≤ i ∧ i < 10 ^ 100 then .ok (TL.numL i.toNat) else .bad
  | _ => .bad
def fmts : List D → R Cs
  | [] => .ok []
  | d :: r => (fmt1 d).b fun s => (fmts r).b fun t => if s.length + t.length ≤ lim then .ok (s ++ t) else .bad

def enumD (d : D) : R (List D) := match d with
  | .lst _ xs => .ok (xs.mapIdx fun i x => .tup [.int i, x])
  | .str s => .ok ((s.map fun c => .str [c]).mapIdx fun i x => .tup [.int i, x])
  | _ => .bad
def zipD (d c : D) : R (List D) := match d, c with
  | .lst _ xs, .lst _ ys => .ok ((xs.zip ys).map fun q => .tup [q.1, q.2])
  | .tup xs, .tup ys => .ok ((xs.zip ys).map fun q => .tup [q.1, q.2])
  | .tup xs, .lst _ ys => .ok ((xs.zip ys).map fun q => .tup [q.1, q.2])
  | _, _ => .bad
/-- what is handed over: the first one -/
def ownA : List D → List D
  | [] => []
  | d :: r => d :: shs r
/-- the def that a value is -/
def fnIx (tb : List (Str × Nat × Nat)) : D → Option (Nat × Nat)
  | .fn x => tb.lookup x
  | _ => none
section
variable (C : Nat → List D → R D)
mutual
def ev : E → Env → R D
  | .lit d, _ => .ok d
  | .var i, env => look env i
  | .mvar i, env => (look env i).b fun d => .ok (sh d)
  | .bin o a b, env => (ev a env).b fun x => (ev b env).b fun y => binop o x y
  | .neg a, env => (asI (ev a env)).b fun i => .ok (.int (-i))
  | .cmp o a b, env => (ev a env).b fun x => (ev b env).b fun y => ofB (cmpop o x y)
  | .chain o o' a b c, env => (ev a env).b fun x => (ev b env).b fun y => (cmpop o x y).b fun t =>
    if t then (ev c env).b fun z => ofB (cmpop o' y z) else .ok (.bl false)
  | .and_ a b, env => (asB (ev a env)).b fun t => if t then ofB (asB (ev b env)) else .ok (.bl false)
  | .or_ a b, env => (asB (ev a env)).b fun t => if t then .ok (.bl true) else ofB (asB (ev b env))
  | .not_ a, env => (asB (ev a env)).b fun t => .ok (.bl (!t))
  | .ite c a b, env => (asB (ev c env)).b fun t => if t then ev a env else ev b env
  | .call f es, env => (evs es env).b fun ds => C f (shs ds)
  | .callo f es, env => (evs es env).b fun ds => C f (ownA ds)
  | .call0 f, env => (C f []).quiet
  | .bf f es, env => (evs es env).b fun ds => bfun f ds
  | .meth f o es, env => (ev o env).b fun x => (evs es env).quiet.b fun ds => mfun f x ds
  | .isi a ts, env => (ev a env).b fun x => if isOk x then .ok (.bl (ts.any (isTy x))) else .bad
  | .callv i tb es, env => (look env i).b fun d => match fnIx tb d with
    | some q => (evs es env).b fun ds => if ds.length = q.2 then C q.1 (shs ds) else .bad
    | none => .bad
  | .sub a i, env => (ev a env).b fun x => (ev i env).b fun y => getD x y
  | .slice a lo hi, env => (ev a env).b fun x => (evo lo env).b fun l => (evo hi env).b fun h => slic x l h
  | .rev a, env => (ev a env).b revv
  | .tup es, env => (evs es env).b fun ds => .ok (.tup ds)
  | .lst es, env => (evs es env).b fun ds => .ok (.lst .w ds)
  | .dic ks es, env => (evs es env).b fun ds => .ok (.dic .w (mergeD [] (ks.zip ds)))
  | .dict0 t, _ => .ok (if t then .dct .w [] else .dic .w [])
  | .comp p it cs e, env => (evi it env).b fun ds => (compL (fun d => (bindP p d (wipeP p env)).b fun env1 => (evc cs env1).b fun t => if t then (ev e env1).b fun x => .ok (some x) else .ok none) ds).b fun xs => .ok (.lst .w xs)
  | .fstr es, env => (evs es env).quiet.b fun ds => (fmts ds).b fun s => .ok (.str s)
termination_by structural x => x
def evs : List E → Env → R (List D)
  | [], _ => .ok []
  | e :: r, env => (ev e env).b fun x => (evs r env).b fun xs => .ok (x :: xs)
termination_by structural x => x
def evo : Option E → Env → R (Option Int)
  | none, _ => .ok none
  | some e, env => (asI (ev e env)).b fun i => .ok (some i)
termination_by structural x => x
/-- all tests hold -/
def evc : List E → Env → R Bool
  | [], _ => .ok true
  | e :: r, env => (asB (ev e env)).b fun t => if t then evc r env else .ok false
termination_by structural x => x
def evi : It → Env → R (List D)
  | .val e, env => (ev e env).b itemsOf
  | .r1 e, env => (asI (ev e env)).b fun n => if sized n then .ok (rngUp 0 n) else .bad
  | .r2 a b, env => (asI (ev a env)).b fun i => (asI (ev b env)).b fun j => if sized i && sized j then .ok (rngUp i j) else .bad
  | .r3 a b c, env => (asI (ev a env)).b fun i => (asI (ev b env)).b fun j => (asI (ev c env)).b fun k => if sized i && sized j && decide (k = -1) then .ok (rngDn i j) else .bad
  | .enum e, env => (ev e env).b enumD
  | .zip a b, env => (ev a env).b fun d => (ev b env).b fun c => zipD d c
termination_by structural x => x
end
end

/-! ## statements -/
inductive Fl where
  | nx | rt (d : D) | bk | ct
inductive RS where
  | ok (env : Env) (f : Fl) | exc (e : Ex) (env : Env) | bad
inductive Re where
  | e (e : E) | mv (i : Nat)
inductive S where
  | set (i : Nat) (z : List Nat) (e : E)          -- a plain name
  | setm (i : Nat) (z : List Nat) (e : E)         -- a name that holds what is changed
  | unp (is : List Nat) (z : List Nat) (e : E)
  | unpm (i j : Nat) (e : E)                      -- i, j = e: the name i gets what is its own
  | appm (i : Nat) (es : List Re)                 -- a tuple, with what its names hold: they let go of it
  | app (i : Nat) (p : List E) (z : Bool) (e : E)
  | apz (i : Nat) (p : List E) (z : List Nat) (e : E)
  | ext (i : Nat) (p : List E) (z : Bool) (e : E)
  | sto (i : Nat) (p : List E) (k : E) (z : Bool) (e : E)
  | clr (i : Nat) (p : List E)
  | stot (i : Nat) (ks : List E) (e : E)      -- d[(k, ..)] = e
  | pop0 (i : Nat) (p : List E)
  | upd (i : Nat) (p : List E) (z : Bool) (e : E)
  | popu (is : List Nat) (i : Nat)
  | fapp (i : Nat) (p : List E) (v : Nat) (as : List (List Int × E))   -- for v in the place: v[..].append(e) ..
  | appc (i f : Nat) (e : E) (m : Nat)   -- append of a call f(e, m) that changes m
  | exp (e : E)
  | ifs (c : E) (a b : List S)
  | ifsd (i : Nat) (k v x c : E) (a : List S)   -- if d.setdefault(k, v) != x or c: a
  | for_ (p : P) (it : It) (z : List Nat) (b : List S)
  | forh (p : P) (i : Nat) (b : List S)   -- over what the name i holds, which the body does not see
  | whl (c : E) (b : List S)
  | ret (e : E) | retm (i : Nat) | rett (es : List Re)
  | raise (c : Nat) (row : Option E)
  | tryx (b : List S) (c : Nat) (q : Option Nat) (as : List (Nat × E)) (r : E)   -- what is raised of class c: as, then return r
  | tryc (b : List S) (c : Nat) (q i : Nat) (e : E)   -- what is raised of class c, held by q: i gets e
  | pass | brk | cont
def RS.b (x : RS) (f : Env → RS) : RS := match x with
  | .ok env .nx => f env
  | r => r
/-- what is raised, taken -/
def RS.try_ (x : RS) (f : Ex → Env → RS) : RS := match x with
  | .exc e env => f e env
  | r => r
def R.s {α : Type} (x : R α) (env : Env) (f : α → RS) : RS := match x with
  | .ok a => f a
  | .exc e => .exc e env
  | .bad => .bad
def frz (z : List Nat) (env : Env) : Env := z.foldl (fun env i => env.modify i (Option.map sh)) env
def loopL (f : D → Env → RS) : List D → Env → RS
  | [], env => .ok env .nx
  | d :: r, env => match f d env with
    | .ok env' .nx => loopL f r env'
    | .ok env' .ct => loopL f r env'
    | .ok env' .bk => .ok env' .nx
    | x => x
def loopW (c : Env → R Bool) (f : Env → RS) : Nat → Env → RS
  | 0, _ => .bad
  | n + 1, env => (c env).s env fun t => if t then (match f env with
    | .ok env' .nx => loopW c f n env'
    | .ok env' .ct => loopW c f n env'
    | .ok env' .bk => .ok env' .nx
    | x => x) else .ok env .nx
/-- the node of its holder's alone at a path, changed -/
def updP (f : D → Option D) : List D → D → Option D
  | [], d => f d
  | k :: r, d => match d, k with
    | .lst .w ds, .int i => (ixN ds.length i).bind fun j => (ds[j]?).bind fun x => (updP f r x).map fun y => .lst .w (ds.set j y)
    | .tup ds, .int i => (ixN ds.length i).bind fun j => (ds[j]?).bind fun x => (updP f r x).map fun y => .tup (ds.set j y)
    | _, _ => none
def appD (x : D) : D → Option D
  | .lst .w ds => if ds.length < lim then some (.lst .w (ds ++ [x])) else none
  | _ => none
def extD (xs : List D) : D → Option D
  | .lst .w ds => if ds.length + xs.length ≤ lim then some (.lst .w (ds ++ xs)) else none
  | _ => none
def tkeyD : List D → Option (List Ky)
  | [] => some []
  | d :: r => (keyD d).bind fun k => (tkeyD r).map (k :: ·)
def putT (kvs : List (List Ky × D)) (k : List Ky) (v : D) : List (List Ky × D) :=
  if (kvs.any fun kv => decide (kv.1 = k)) = true then kvs.map (fun kv => if kv.1 = k then (kv.1, v) else kv) else kvs ++ [(k, v)]
def stoD (k x : D) : D → Option D
  | .lst .w ds => match k with
    | .int i => (ixN ds.length i).map fun j => .lst .w (ds.set j x)
    | _ => none
  | .dic .w kvs => match keyD k with
    | some q => if kvs.length < lim then some (.dic .w (putD kvs q x)) else none
    | none => none
  | _ => none
/-- an item, at places within it something behind -/
def appItem : List (List D × D) → D → Option D
  | [], x => some x
  | c :: cs, x => (updP (appD c.2) c.1 x).bind (appItem cs)
def appItems (cs : List (List D × D)) : List D → Option (List D)
  | [] => some []
  | x :: r => (appItem cs x).bind fun y => (appItems cs r).map (y :: ·)
def fappD (cs : List (List D × D)) : D → Option D
  | .lst .w ds => (appItems cs ds).map (.lst .w)
  | _ => none
def clrD : D → Option D
  | .lst .w _ => some (.lst .w [])
  | _ => none
def stoT (ks : List D) : D → Option D
  | .dct .w kvs => (tkeyD ks).bind fun k => if kvs.length < lim then some (.dct .w (putT kvs k .non)) else none
  | _ => none
/-- tuples of flat things, flat things -/
def flI : D → Bool
  | .tup ds => ds.all flatD
  | d => flatD d
def pop0D : D → Option D
  | .lst .w (_ :: ds) => some (.lst .w ds)
  | _ => none
def upd1 (f : D → Option D) (i : Nat) (p : List D) (env : Env) : RS := match env[i]? with
  | some (some d) => match updP f p d with
    | some d' => .ok (env.set i (some d')) .nx
    | none => .bad
  | _ => .bad
def updD (xs : List (Ky × D)) : D → Option D
  | .dic .w kvs => if kvs.length + xs.length ≤ lim then some (.dic .w (mergeD kvs xs)) else none
  | _ => none
/-- names forgotten -/
def offs (z : List Nat) (env : Env) : Env := z.foldl (fun env i => env.set i none) env
def unpmS (i j : Nat) (d : D) (env : Env) : RS := match d with
  | .tup [x, y] => if i ≠ j then .ok ((env.set i (some x)).set j (some (sh y))) .nx else .bad
  | _ => .bad
/-- d.setdefault(k, v): what it tells, d behind -/
def sdD (k v : D) : D → Option (D × D)
  | .dic .w kvs => (keyD k).bind fun q => if kvs.length < lim then (match lookD kvs q with
    | some d => if flatD d = true then some (d, .dic .w kvs) else none
    | none => if flatD v = true then some (v, .dic .w (putD kvs q v)) else none) else none
  | _ => none
def sdS (k v : D) (i : Nat) (env : Env) (f : D → Env → RS) : RS := match env[i]? with
  | some (some d) => match sdD k v d with
    | some p => f p.1 (env.set i (some p.2))
    | none => .bad
  | _ => .bad
def canL : D → Option D
  | .lst .w ds => some (.lst .w ds)
  | _ => none
def pathOk (i : Nat) (p : List D) (env : Env) : Bool := match env[i]? with
  | some (some d) => (updP canL p d).isSome
  | _ => false
/-- d.update(the dict x) -/
def updS (x : D) (i : Nat) (ks : List D) (z : Bool) (env : Env) : RS := match x with
  | .dic o xs => if !z || (o.no && noShk xs) then upd1 (updD (shk xs)) i ks env else .bad
  | _ => .bad
/-- x, y = d.pop(): what is in the list is shared from here on -/
def popS (is : List Nat) (i : Nat) (env : Env) : RS := match env[i]? with
  | some (some (.lst .w ds)) => match ds.getLast? with
    | some x => (bindP (.t is) (sh x) (env.set i (some (.lst .w (shs ds.dropLast))))).s env fun env' => .ok env' .nx
    | none => .bad
  | _ => .bad
section
variable (C : Nat → List D → R D) (N : Nat)
/-- a handler: names, then what is told -/
def hev : List (Nat × E) → E → Env → R D
  | [], r, env => ev C r env
  | a :: as, r, env => (ev C a.2 env).b fun d => hev as r (env.set a.1 (some (sh d)))
/-- the names whose lists go along -/
def mvs : List Re → List Nat
  | [] => []
  | .e _ :: r => mvs r
  | .mv i :: r => i :: mvs r
/-- behind the call -/
def aftM (i m : Nat) (x : R D) (env : Env) : RS := match x with
  | .ok (.tup [v, y]) => upd1 (appD v) i [] (env.set m (some y))
  | _ => .bad
/-- constants, by place -/
def cvs (n : Nat) : List (List Int × E) → R (List (List D × D))
  | [] => .ok []
  | a :: as => (ev C a.2 (List.replicate n none)).quiet.b fun d => (cvs n as).b fun cs => .ok ((a.1.map .int, d) :: cs)
def offq : Option Nat → Env → Env
  | none, env => env
  | some q, env => env.set q none
def hOk (q : Option Nat) (as : List (Nat × E)) (n : Nat) : Bool := match q with
  | none => true
  | some q => decide (q < n) && as.all fun a => decide (a.1 ≠ q)
def evr (env : Env) : List Re → R (List D)
  | [] => .ok []
  | .e e :: r => (ev C e env).b fun x => (evr env r).b fun xs => .ok (x :: xs)
  | .mv i :: r => (look env i).b fun x => (evr env r).b fun xs => .ok (x :: xs)
mutual
def evS : S → Env → RS
  | .set i z e, env => (ev C e env).s env fun d => .ok ((if z.isEmpty || noSh d then env else frz z env).set i (some (sh d))) .nx
  | .setm i z e, env => (ev C e env).s env fun d => .ok ((if z.isEmpty || noSh d then env else frz z env).set i (some d)) .nx
  | .unp is z e, env => (ev C e env).s env fun d => (bindP (.t is) d (if z.isEmpty || noSh d then env else frz z env)).s env fun env' => .ok env' .nx
  | .unpm i j e, env => (ev C e env).s env fun d => unpmS i j d env
  | .appm i es, env => (evr C env es).quiet.s env fun ds => if (mvs es).contains i = false ∧ ds.length ≤ 1000 then upd1 (appD (.tup ds)) i [] (offs (mvs es) env) else .bad
  | .app i p z e, env => (evs C p env).quiet.s env fun ks => if pathOk i ks env then (ev C e env).s env fun d => if !z || noSh d then upd1 (appD d) i ks env else .bad else .bad
  | .apz i p z e, env => (evs C p env).quiet.s env fun ks => if pathOk i ks env then (ev C e env).s env fun d => upd1 (appD d) i ks (if z.isEmpty || noSh d then env else frz z env) else .bad
  | .ext i p z e, env => (evs C p env).quiet.s env fun ks => if pathOk i ks env then (ev C e env).s env fun d => match d with
    | .lst o xs => if o ≠ .f && (!z || noShs xs) then upd1 (extD (shs xs)) i ks env else .bad
    | .tup xs => if !z || noShs xs then upd1 (extD (shs xs)) i ks env else .bad
    | _ => .bad else .bad
  | .sto i p k z e, env => (ev C e env).s env fun d => (evs C p env).quiet.s env fun ks => (ev C k env).quiet.s env fun q => if !z || noSh d then upd1 (stoD q d) i ks env else .bad
  | .clr i p, env => (evs C p env).quiet.s env fun ks => upd1 clrD i ks env
  | .stot i es e, env => (ev C e env).s env fun d => (evs C es env).quiet.s env fun ks => if flatD d then upd1 (stoT ks) i [] env else .bad
  | .pop0 i p, env => (evs C p env).quiet.s env fun ks => upd1 pop0D i ks env
  | .upd i p z e, env => (evs C p env).quiet.s env fun ks => (ev C e env).quiet.s env fun d => updS d i ks z env
  | .popu is i, env => popS is i env
  | .fapp i p v as, env => (evs C p env).quiet.s env fun ks => (cvs C env.length as).quiet.s env fun cs => if v < env.length then (upd1 (fappD cs) i ks env).b fun env' => .ok (env'.set v none) .nx else .bad
  | .appc i f e m, env => if m ≠ i then (ev C e env).quiet.s env fun d => (look env m).quiet.s env fun y => aftM i m (C f [sh d, y]) env else .bad
  | .exp e, env => (ev C e env).s env fun _ => .ok env .nx
  | .ifs c a b, env => (asB (ev C c env)).s env fun t => if t then evSs a env else evSs b env
  | .ifsd i k v x c a, env => (ev C k env).quiet.s env fun kd => (ev C v env).quiet.s env fun vd => sdS kd vd i env fun w env1 => (ev C x env1).quiet.s env1 fun xd => (cmpop .ne w xd).s env1 fun t => if t then evSs a env1 else (asB (ev C c env1)).s env1 fun t2 => if t2 then evSs a env1 else .ok env1 .nx
  | .for_ p it z b, env => (evi C it env).s env fun ds => loopL (fun d env => (bindP p d env).s env fun env' => evSs b env') ds (frz z env)
  | .forh p i b, env => match env[i]? with
    | some (some (.lst .w ds)) => if ds.all flI then (loopL (fun d env => (bindP p d env).s env fun env' => evSs b env') ds (env.set i none)).b fun env' => .ok (env'.set i (some (.lst .w ds))) .nx else .bad
    | _ => .bad
  | .whl c b, env => loopW (fun env => asB (ev C c env)) (fun env => evSs b env) N env
  | .ret e, env => (ev C e env).s env fun d => .ok env (.rt d)
  | .retm i, env => (look env i).s env fun d => .ok env (.rt d)
  | .rett es, env => (evr C env es).s env fun ds => .ok env (.rt (.tup ds))
  | .raise c row, env => match row with
    | none => .exc ⟨c, none⟩ env
    | some e => (asI (ev C e env)).s env fun i => .exc ⟨c, some i⟩ env
  | .tryx b c q as r, env => (evSs b env).try_ fun x env' => if x.cls = c ∧ x.row = none ∧ hOk q as env'.length = true then (match hev C as r (offq q env') with
    | .ok d => .ok env' (.rt d)
    | _ => .bad) else .bad
  | .tryc b c q i e, env => (evSs b env).try_ fun x env' => if x.cls = c ∧ x.row = none ∧ hOk (some q) [(i, e)] env'.length = true then (match ev C e (offq (some q) env') with
    | .ok d => .ok ((offq (some q) env').set i (some (sh d))) .nx
    | _ => .bad) else .bad
  | .pass, env => .ok env .nx
  | .brk, env => .ok env .bk
  | .cont, env => .ok env .ct
termination_by structural x => x
def evSs : List S → Env → RS
  | [], env => .ok env .nx
  | s :: r, env => (evS s env).b fun env' => evSs r env'
termination_by structural x => x
end
/-- a def: how many slots, its body -/
structure Def where
  np : Nat
  ns : Nat
  body : List S
def startE (n : Nat) (ds : List D) : Env := ds.map some ++ List.replicate (n - ds.length) none
def runD (d : Def) (ds : List D) : R D := if ds.length = d.np then (match evSs C N d.body (startE d.ns ds) with
  | .ok _ .nx => .ok .non
  | .ok _ (.rt v) => .ok v
  | .exc e _ => .exc e
  | _ => .bad) else .bad
end
/-- a body that ends by return of a name -/
def splitR : List S → Option (List S × Nat)
  | [] => none
  | s :: t => match t, s with
    | [], .retm r => some ([], r)
    | [], _ => none
    | s' :: t', s => (splitR (s' :: t')).map fun q => (s :: q.1, q.2)
/-- a def whose k-th argument it changes: what it tells, and that argument behind -/
def runM (C : Nat → List D → R D) (N : Nat) (d : Def) (k : Nat) (ds : List D) : R D := if ds.length = d.np then (match splitR d.body with
  | some q => (match evSs C N q.1 (startE d.ns ds) with
    | .ok env .nx => (match env[q.2]?, env[k]? with
      | some (some v), some (some x) => .ok (.tup [v, x])
      | _, _ => .bad)
    | _ => .bad)
  | none => .bad) else .bad
/-- calls, by level -/
def callL (N : Nat) (fs : List Def) : Nat → Nat → List D → R D
  | 0, _, _ => .bad
  | l + 1, f, ds => match fs[f]? with
    | some d => runD (callL N fs l) N d ds
    | none => match fs[f % 1000]? with
      | some d => if 1000 ≤ f then runM (callL N fs l) N d (f / 1000 - 1) ds else .bad
      | none => .bad
end Q

set_option maxHeartbeats 1000000
namespace Q
open PySem PySem.Spec L2
open PyProof.Rows hiding St

/-! ## the frame of the soundness proofs -/
def Or2 (U : Addr → Prop) (L : List Addr) : Addr → Prop := fun a => U a ∨ a ∈ L
def Fresh (H : Hp) (L : List Addr) : Prop := L.Nodup ∧ ∀ a ∈ L, H a = none
def Dom (H : Hp) (U : Addr → Prop) : Prop := ∀ a, U a → H a ≠ none
theorem Fresh.nil {H : Hp} : Fresh H [] := ⟨.nil, fun _ h => by cases h⟩
theorem Dom.same {H H' : Hp} {U : Addr → Prop} (d : Dom H U) (e : Same H H') : Dom H' U := fun a h q => d a h (e.free q)
theorem Or2.nil {U : Addr → Prop} {a : Addr} (h : Or2 U [] a) : U a := by
  rcases h with h | h
  · exact h
  · cases h
section
variable {K : PySem.W.Frag} {H H' : Hp} {U : Addr → Prop}
mutual
/-- owned nodes are tracked -/
theorem rep_in : ∀ (d : D) (v : V) (L : List Addr), rep K H U d v L → ∀ a ∈ L, H a ≠ none
  | .non, v, L, h => fun a ha => by rw [h.2] at ha; cases ha
  | .bl b, v, L, h => fun a ha => by rw [h.2] at ha; cases ha
  | .int i, v, L, h => fun a ha => by rw [h.2] at ha; cases ha
  | .str s, v, L, h => fun a ha => by rw [h.2.2] at ha; cases ha
  | .tup ds, v, L, h => by
    obtain ⟨a, vs, e, q, r⟩ := h
    exact reps_in ds vs L r
  | .lst o ds, v, L, h => by
    obtain ⟨a, vs, L', e, r, z⟩ := h
    rcases z with ⟨e1, q, e2⟩ | ⟨e1, q, u, e2, e3⟩ | ⟨e1, q, e2, e3⟩
    · subst e2
      intro b hb
      rcases List.mem_cons.mp hb with rfl | hb
      · rw [q]; exact Option.some_ne_none _
      · exact reps_in ds vs L' r b hb
    · intro b hb; rw [e3] at hb; cases hb
    · intro b hb; rw [e3] at hb; cases hb
  | .dic o ds, v, L, h => by
    obtain ⟨a, vs, L', e, r, q, z⟩ := h
    rcases z with ⟨e1, e2⟩ | ⟨e1, u, e2, e3⟩
    · subst e2
      intro b hb
      rcases List.mem_cons.mp hb with rfl | hb
      · rw [q]; exact Option.some_ne_none _
      · exact repk_in ds vs L' r.1 b hb
    · intro b hb; rw [e3] at hb; cases hb
  | .dct o ds, v, L, h => by
    obtain ⟨a, vs, e, q, m, z⟩ := h
    rcases z with ⟨e1, e2⟩ | ⟨e1, u, e3⟩
    · subst e2
      intro b hb
      rcases List.mem_cons.mp hb with rfl | hb
      · rw [q]; exact Option.some_ne_none _
      · cases hb
    · intro b hb; rw [e3] at hb; cases hb
  | .fn x, v, L, h => fun a ha => by rw [h.2] at ha; cases ha
  | .ptu ks, v, L, h => by
    obtain ⟨a, vs, e, q, m, z⟩ := h
    intro b hb; rw [z] at hb; cases hb
termination_by structural d => d
theorem reps_in : ∀ (ds : List D) (vs : List V) (L : List Addr), reps K H U ds vs L → ∀ a ∈ L, H a ≠ none
  | [], vs, L, h => fun a ha => by rw [h.2] at ha; cases ha
  | d :: r, vs, L, h => by
    obtain ⟨v, vr, L1, L2, e, e2, h1, h2⟩ := h
    subst e2
    intro a ha
    rcases List.mem_append.mp ha with ha | ha
    · exact rep_in d v L1 h1 a ha
    · exact reps_in r vr L2 h2 a ha
termination_by structural d => d
theorem repk_in : ∀ (ds : List (Ky × D)) (vs : List (Key × V)) (L : List Addr), repk K H U ds vs L → ∀ a ∈ L, H a ≠ none
  | [], vs, L, h => fun a ha => by rw [h.2] at ha; cases ha
  | d :: r, vs, L, h => by
    obtain ⟨v, vr, L1, L2, e, e2, h1, h2⟩ := h
    subst e2
    intro a ha
    rcases List.mem_append.mp ha with ha | ha
    · exact repp_in d v L1 h1 a ha
    · exact repk_in r vr L2 h2 a ha
termination_by structural d => d
theorem repp_in : ∀ (p : Ky × D) (v : Key × V) (L : List Addr), repp K H U p v L → ∀ a ∈ L, H a ≠ none
  | (k, d), v, L, h => rep_in d v.2 L h.2
termination_by structural d => d
end
/-- from U to U with new owned nodes -/
theorem rep_or {d : D} {v : V} {L M : List Addr} (f : ∀ a ∈ M, H a = none) (h : rep K H U d v L) : rep K H (Or2 U M) d v L :=
  rep_set (fun a z => z.elim .inl fun m => .inr (f a m)) h
theorem reps_or {d : List D} {v : List V} {L M : List Addr} (f : ∀ a ∈ M, H a = none) (h : reps K H U d v L) : reps K H (Or2 U M) d v L :=
  reps_set (fun a z => z.elim .inl fun m => .inr (f a m)) h
end

/-- what the proofs go by: the written part, the calls, the names that hold what is changed, whether these may be read, the wish of exceptions -/
structure Gx where
  K : PySem.W.Frag
  C : Nat → List D → R D
  M : Nat → Bool
  bm : Nat → Bool
  W : WX
  xr : Ex → Value → Option Addr → Hp → Prop
  hot : Option (Nat × V)
def RepE (G : Gx) (H : Hp) (U : Addr → Prop) (σ : St) (env : Env) : Prop :=
  env.length = σ.length ∧ (∀ i d, env[i]? = some (some d) → (G.M i = true → G.bm i = true) → (∃ v, σ[i]? = some (some v) ∧ rep G.K H U (if G.M i = true then sh d else d) v [])) ∧ ∀ q v, G.hot = some (q, v) → σ[q]? = some (some v)
def Ok1 (K : PySem.W.Frag) (H : Hp) (U : Addr → Prop) (d : D) (Q : VK) : Prop := ∀ v H' L, Same H H' → Fresh H L → rep K H' (Or2 U L) d v L → Q v H'
def Oks (K : PySem.W.Frag) (H : Hp) (U : Addr → Prop) (d : List D) (Q : List V → Hp → Prop) : Prop := ∀ v H' L, Same H H' → Fresh H L → reps K H' (Or2 U L) d v L → Q v H'
def Exs (G : Gx) (σ : St) (H : Hp) (x : Ex) : Prop := ∀ c dd H', Same H H' → G.xr x c dd H' → G.W c dd σ H'
def Res {α : Type} (G : Gx) (σ : St) (H : Hp) (r : R α) (k : α → Prop) : Prop := match r with
  | .ok d => k d
  | .exc x => Exs G σ H x
  | .bad => False
/-- the reading of an expression -/
def tM (G : Gx) (m : E) : TE := fun σ H Q => ∃ U env, Dom H U ∧ RepE G H U σ env ∧ Res G σ H (ev G.C m env) fun d => Ok1 G.K H U d Q
def tMs (G : Gx) (m : List E) : TA := fun σ H Q => ∃ U env, Dom H U ∧ RepE G H U σ env ∧ Res G σ H (evs G.C m env) fun d => Oks G.K H U d Q
/-- the reading of a test -/
def tMt (G : Gx) (m : E) : TT := fun σ H Q => ∃ U env, Dom H U ∧ RepE G H U σ env ∧ Res G σ H (asB (ev G.C m env)) fun b => ∀ H', Same H H' → Q b H'
section
variable {G : Gx} {H H' : Hp} {U : Addr → Prop} {σ : St} {env : Env}
theorem RepE.same (e : Same H H') (h : RepE G H U σ env) : RepE G H' U σ env := ⟨h.1, fun i d q z => by
  obtain ⟨v, h1, h2⟩ := h.2.1 i d q z
  exact ⟨v, h1, rep_same e h2⟩, h.2.2⟩
theorem RepE.or {M : List Addr} (f : ∀ a ∈ M, H a = none) (h : RepE G H U σ env) : RepE G H (Or2 U M) σ env := ⟨h.1, fun i d q z => by
  obtain ⟨v, h1, h2⟩ := h.2.1 i d q z
  exact ⟨v, h1, rep_or f h2⟩, h.2.2⟩
theorem Exs.same {x : Ex} (e : Same H H') (h : Exs G σ H x) : Exs G σ H' x := fun c dd H2 e2 q => h c dd H2 (e.trans e2) q
theorem Res.bind {α β : Type} {r : R α} {f : α → R β} {k : β → Prop} (h : Res G σ H (r.b f) k) : Res G σ H r fun a => Res G σ H (f a) k := by
  cases r with
  | ok a => exact h
  | exc x => exact h
  | bad => exact h
theorem Res.mono {α : Type} {r : R α} {k k' : α → Prop} (h : Res G σ H r k) (i : ∀ a, r = .ok a → k a → k' a) : Res G σ H r k' := by
  cases r with
  | ok a => exact i a rfl h
  | exc x => exact h
  | bad => exact h
theorem Res.same {α : Type} {r : R α} {k : α → Prop} (e : Same H H') (h : Res G σ H r k) : Res G σ H' r k := by
  cases r with
  | ok a => exact h
  | exc x => exact Exs.same e h
  | bad => exact h
theorem Dom.or {L : List Addr} (d : Dom H U) (i : ∀ a ∈ L, H a ≠ none) : Dom H (Or2 U L) := fun a z => z.elim (d a) (i a)
/-- one expression, then what follows -/
theorem tM_then {m : E} {Q : VK} {k : D → Prop} (hd : Dom H U) (he : RepE G H U σ env) (h : Res G σ H (ev G.C m env) k) (n : ∀ d v H' L, k d → Same H H' → Fresh H L → rep G.K H' (Or2 U L) d v L → Q v H') : tM G m σ H Q :=
  ⟨U, env, hd, he, h.mono fun d _ q => fun v H' L s f r => n d v H' L q s f r⟩
theorem tMs_then {m : List E} {Q : List V → Hp → Prop} {k : List D → Prop} (hd : Dom H U) (he : RepE G H U σ env) (h : Res G σ H (evs G.C m env) k) (n : ∀ d v H' L, k d → Same H H' → Fresh H L → reps G.K H' (Or2 U L) d v L → Q v H') : tMs G m σ H Q :=
  ⟨U, env, hd, he, h.mono fun d _ q => fun v H' L s f r => n d v H' L q s f r⟩
theorem Fresh.app {L M : List Addr} (e : Same H H') (f : Fresh H L) (i : ∀ a ∈ L, H' a ≠ none) (g : Fresh H' M) : Fresh H (L ++ M) := by
  refine ⟨List.nodup_append.mpr ⟨f.1, g.1, fun a ha b hb q => ?_⟩, fun a ha => ?_⟩
  · subst q
    exact i a ha (g.2 a hb)
  · rcases List.mem_append.mp ha with ha | ha
    · exact f.2 a ha
    · exact e.free (g.2 a ha)
theorem or_app {L M : List Addr} {a : Addr} : Or2 (Or2 U L) M a ↔ Or2 U (L ++ M) a := by
  unfold Or2
  rw [List.mem_append, or_assoc]
theorem or_app' {L M : List Addr} : Or2 (Or2 U L) M = Or2 U (L ++ M) := funext fun a => propext or_app
/-- two expressions, one behind the other -/
theorem tM_two {a b : E} {Q2 : V → V → Hp → Prop} {k : D → D → Prop} (hd : Dom H U) (he : RepE G H U σ env) (h : Res G σ H (ev G.C a env) fun x => Res G σ H (ev G.C b env) fun y => k x y)
    (n : ∀ dx dy x y H' L M, k dx dy → Same H H' → Fresh H (L ++ M) → rep G.K H' (Or2 U (L ++ M)) dx x L → rep G.K H' (Or2 U (L ++ M)) dy y M → Q2 x y H') : tM G a σ H fun x H1 => tM G b σ H1 fun y H2 => Q2 x y H2 := by
  refine tM_then hd he h fun dx x H1 L q s f r => ?_
  have il := rep_in _ _ _ r
  refine tM_then (U := Or2 U L) (env := env) ((hd.same s).or il) ((he.or f.2).same s) (q.same s) fun dy y H2 M q2 s2 f2 r2 => ?_
  · rw [or_app'] at r2
    refine n dx dy x y H2 L M q2 (s.trans s2) (f.app s il f2) (rep_same s2 ?_) r2
    rw [← or_app']
    exact rep_or f2.2 r
end
/-- what an operation on such values must give -/
def Fin (K : PySem.W.Frag) (H : Hp) (U : Addr → Prop) (N : List Addr) (d : D) (Q : VK) : Prop :=
  ∀ v H' L, Same H H' → L.Nodup → (∀ a ∈ L, a ∈ N ∨ H a = none) → rep K H' (Or2 U L) d v L → Q v H'
theorem Ok1.fin {K : PySem.W.Frag} {H H' : Hp} {U : Addr → Prop} {N : List Addr} {d : D} {Q : VK} (h : Ok1 K H U d Q) (s : Same H H') (f : Fresh H N) : Fin K H' U N d Q := fun v H2 L s2 n i r =>
  h v H2 L (s.trans s2) ⟨n, fun a ha => (i a ha).elim (f.2 a) s.free⟩ r
section
variable {K : PySem.W.Frag} {H : Hp} {U : Addr → Prop} {N : List Addr} {Q : VK}
theorem Fin.int {i : Int} (h : Fin K H U N (.int i) Q) : Q (.int i) H := h _ _ [] (Same.refl H) .nil (fun _ z => by cases z) ⟨rfl, rfl⟩
theorem Fin.bl {i : Bool} (h : Fin K H U N (.bl i) Q) : Q (.bl i) H := h _ _ [] (Same.refl H) .nil (fun _ z => by cases z) ⟨rfl, rfl⟩
theorem Fin.non (h : Fin K H U N .non Q) : Q .non H := h _ _ [] (Same.refl H) .nil (fun _ z => by cases z) ⟨rfl, rfl⟩
theorem Fin.str {s : Cs} (h : Fin K H U N (.str s) Q) (k : Sok s) : Q (.str (toS s)) H := h _ _ [] (Same.refl H) .nil (fun _ z => by cases z) ⟨rfl, k, rfl⟩
/-- a value that stands already -/
theorem Fin.old {d : D} {v : V} {L : List Addr} (h : Fin K H U N d Q) (n : L.Nodup) (i : ∀ a ∈ L, a ∈ N) (r : rep K H (Or2 U L) d v L) : Q v H := h v H L (Same.refl H) n (fun a ha => .inl (i a ha)) r
theorem same_upd {p : Addr} {o : HO} (hp : H p = none) : Same H (upd H p o) := fun a u e => by rw [upd_ne (ne_of_none e hp)]; exact e
/-- a new tuple -/
theorem Fin.newT {ds : List D} {vs : List V} {L : List Addr} (h : Fin K H U N (.tup ds) Q) (hz : ds.length ≤ lim) (n : L.Nodup) (i : ∀ a ∈ L, a ∈ N) (r : reps K H (Or2 U L) ds vs L) : ∀ p, H p = none → Q (.ref p) (upd H p (.tup vs)) := fun p hp =>
  h _ _ L (same_upd hp) n (fun a ha => .inl (i a ha)) ⟨p, vs, ⟨rfl, hz⟩, .of upd_same, reps_same (same_upd hp) r⟩
/-- a new list -/
theorem ptu_tup {H : Hp} {U : Addr → Prop} {ks : List (Cs × Int)} {v : V} {L : List Addr} (h : rep K H U (.ptu ks) v L) : rep K H U (.tup (ks.map fun kv => .tup [.str kv.1, .int kv.2])) v L := by
  obtain ⟨a, vs, ⟨rfl, hl⟩, ⟨o, q, _⟩, m, rfl⟩ := h
  refine ⟨a, vs, ⟨rfl, by rw [List.length_map]; exact hl⟩, .inl (.inr ⟨o, q⟩), ?_⟩
  clear hl q
  induction m with
  | nil => exact ⟨rfl, rfl⟩
  | cons h t ih =>
    obtain ⟨b, rfl, q, k⟩ := h
    exact ⟨_, _, [], [], rfl, rfl, ⟨b, _, ⟨rfl, by show 2 ≤ lim; decide⟩, q, _, _, [], [], rfl, rfl, ⟨rfl, k, rfl⟩, _, _, [], [], rfl, rfl, ⟨rfl, rfl⟩, rfl, rfl⟩, ih⟩
theorem Fin.newL {ds : List D} {vs : List V} {L : List Addr} (h : Fin K H U N (.lst .w ds) Q) (hz : ds.length ≤ lim) (hN : ∀ a ∈ N, H a ≠ none) (n : L.Nodup) (i : ∀ a ∈ L, a ∈ N) (r : reps K H (Or2 U L) ds vs L) : ∀ p, H p = none → Q (.ref p) (upd H p (.lst vs)) := fun p hp => by
  have np : p ∉ L := fun z => hN p (i p z) hp
  refine h _ _ (p :: L) (same_upd hp) (List.nodup_cons.mpr ⟨np, n⟩) (fun a ha => ?_) ⟨p, vs, L, ⟨rfl, hz⟩, ?_, .inl ⟨rfl, upd_same, rfl⟩⟩
  · rcases List.mem_cons.mp ha with rfl | ha
    · exact .inr hp
    · exact .inl (i a ha)
  · refine reps_same (same_upd hp) (reps_set (fun a z => ?_) r)
    rcases z with z | z
    · exact .inl (.inl z)
    · rcases List.mem_cons.mp z with rfl | z
      · exact .inr hp
      · exact .inl (.inr z)
/-- shared children of another value -/
theorem reps_shN {ds : List D} {vs : List V} {L : List Addr} (r : reps K H (Or2 U N) ds vs L) (hL : ∀ a ∈ L, a ∈ N) (hd : ∀ a ∈ N, ¬ U a) : reps K H (Or2 U []) (shs ds) vs [] := by
  have r1 : reps K H U ds vs L := reps_set (fun a z => .inl (.inl z)) r
  exact reps_set (fun a z => .inl z.nil) (reps_sh ds vs L (fun a ha => hd a (hL a ha)) r1)
end
/-- other signs for a reading -/
theorem _root_.L2.PE.imp {X : Cx} {e : Expr} {t t' : TE} (h : PE X e t) (k : ∀ σ H Q, t' σ H Q → t σ H Q) : PE X e t' := ⟨fun pins s σ H Q I q => h.run pins s σ H Q I (k _ _ _ q)⟩
theorem _root_.L2.PT.imp {X : Cx} {e : Expr} {t t' : TT} (h : PT X e t) (k : ∀ σ H Q, t' σ H Q → t σ H Q) : PT X e t' := ⟨fun pins s σ H Q I q => h.run pins s σ H Q I (k _ _ _ q)⟩
theorem _root_.L2.PW.imp {X : Cx} {e : Expr} {t t' : TT} (h : PW X e t) (k : ∀ σ H Q, t' σ H Q → t σ H Q) : PW X e t' := ⟨fun w pins s σ H Q I q => h.run w pins s σ H Q I (k _ _ _ q)⟩
theorem _root_.L2.PA.imp {X : Cx} {e : List Expr} {t t' : TA} (h : PA X e t) (k : ∀ σ H Q, t' σ H Q → t σ H Q) : PA X e t' := ⟨fun pos pins s σ H Q I q => h.run pos pins s σ H Q I (k _ _ _ q)⟩
theorem _root_.L2.PS.imp {X : Cx} {e : Stmt} {t t' : TS} (h : PS X e t) (k : ∀ D σ H, t' D σ H → t D σ H) : PS X e t' := ⟨fun pins s σ H D I q => h.run pins s σ H D I (k _ _ _ q)⟩
theorem _root_.L2.PSs.imp {X : Cx} {e : List Stmt} {t t' : TS} (h : PSs X e t) (k : ∀ D σ H, t' D σ H → t D σ H) : PSs X e t' := ⟨fun pins s σ H D I q => h.run pins s σ H D I (k _ _ _ q)⟩

/-! ## names, constants, arguments -/
section
variable {X : Cx} {G : Gx} {pos : Pos}
theorem sim_var {i : Nat} {x : Str} (hN : X.N[i]? = some x) (hv : Vis X.env.scope x) (hM : G.M i = false) (hd : (x == ("__debug__" : Str)) = false) (hcd : (x == ("__classdict__" : Str)) = false) : PE X (.Name x pos) (tM G (.var i)) := by
  refine (pe_var hN hv hd hcd).imp fun σ H Q h => ?_
  obtain ⟨U, env, d, e, r⟩ := h
  have r' : Res G σ H (look env i) fun d => Ok1 G.K H U d Q := r
  unfold look at r'
  cases q : env[i]? with
  | none => rw [q] at r'; exact r'.elim
  | some o =>
    cases o with
    | none => rw [q] at r'; exact r'.elim
    | some d =>
      rw [q] at r'
      obtain ⟨v, h1, h2⟩ := e.2.1 i d q fun z => by rw [hM] at z; cases z
      rw [hM, if_neg Bool.false_ne_true] at h2
      exact ⟨v, h1, r' v H [] (Same.refl H) .nil (rep_set (fun a z => .inl z.nil) h2)⟩
theorem sim_mvar {i : Nat} {x : Str} (hN : X.N[i]? = some x) (hv : Vis X.env.scope x) (hM : G.M i = true) (hb : G.bm i = true) (hd : (x == ("__debug__" : Str)) = false) (hcd : (x == ("__classdict__" : Str)) = false) : PE X (.Name x pos) (tM G (.mvar i)) := by
  refine (pe_var hN hv hd hcd).imp fun σ H Q h => ?_
  obtain ⟨U, env, d, e, r⟩ := h
  have r' : Res G σ H ((look env i).b fun d => .ok (sh d)) fun d => Ok1 G.K H U d Q := r
  unfold look at r'
  cases q : env[i]? with
  | none => rw [q] at r'; exact r'.elim
  | some o =>
    cases o with
    | none => rw [q] at r'; exact r'.elim
    | some d =>
      rw [q] at r'
      obtain ⟨v, h1, h2⟩ := e.2.1 i d q fun _ => hb
      rw [hM, if_pos rfl] at h2
      exact ⟨v, h1, r' v H [] (Same.refl H) .nil (rep_set (fun a z => .inl z.nil) h2)⟩
theorem sim_int {i : Int} {j} : PE X (.Constant (.int i) j pos) (tM G (.lit (.int i))) := pe_int.imp fun σ H Q ⟨U, env, d, e, r⟩ => (show Ok1 G.K H U (.int i) Q from r) _ _ [] (Same.refl H) .nil ⟨rfl, rfl⟩
theorem sim_bl {i : Bool} {j} : PE X (.Constant (.bool i) j pos) (tM G (.lit (.bl i))) := pe_bl.imp fun σ H Q ⟨U, env, d, e, r⟩ => (show Ok1 G.K H U (.bl i) Q from r) _ _ [] (Same.refl H) .nil ⟨rfl, rfl⟩
theorem sim_non {j} : PE X (.Constant .none j pos) (tM G (.lit .non)) := pe_non.imp fun σ H Q ⟨U, env, d, e, r⟩ => (show Ok1 G.K H U .non Q from r) _ _ [] (Same.refl H) .nil ⟨rfl, rfl⟩
theorem sim_str {s : Cs} {x : Str} {j} (hx : x = toS s) (k : Sok s) : PE X (.Constant (.str x) j pos) (tM G (.lit (.str s))) := by
  subst hx
  exact pe_str.imp fun σ H Q ⟨U, env, d, e, r⟩ => (show Ok1 G.K H U (.str s) Q from r) _ _ [] (Same.refl H) .nil ⟨rfl, k, rfl⟩
/-- a constant of the module -/
theorem sim_glob {x : Str} {d : D} {v : V} {u : Value} (hg : Gl X x) (hm : X.mg x = some u) (rv : RelV v u) (hr : ∀ H U, rep G.K H U d v []) (hd : (x == ("__debug__" : Str)) = false) : PE X (.Name x pos) (tM G (.lit d)) :=
  (pe_glob hg hm rv hd).imp fun σ H Q ⟨U, env, _, e, r⟩ => (show Ok1 G.K H U d Q from r) _ _ [] (Same.refl H) .nil (hr _ _)
theorem sims_nil : PA X [] (tMs G []) := pa_nil.imp fun σ H Q ⟨U, env, d, e, r⟩ => (show Oks G.K H U [] Q from r) [] H [] (Same.refl H) .nil ⟨rfl, rfl⟩
theorem sims_cons {e : Expr} {es : List Expr} {m : E} {ms : List E} (h : PE X e (tM G m)) (hs : PA X es (tMs G ms)) (hst : starEach (e :: es) X.env = (false, eval e X.env) :: starEach es X.env) : PA X (e :: es) (tMs G (m :: ms)) := by
  refine (pa_cons h hs hst).imp fun σ H Q ⟨U, env, hd, he, r⟩ => ?_
  have r' : Res G σ H ((ev G.C m env).b fun x => (evs G.C ms env).b fun xs => .ok (x :: xs)) fun d => Oks G.K H U d Q := r
  refine tM_then hd he r'.bind fun d v H1 L q s f r1 => ?_
  have il := rep_in _ _ _ r1
  refine tMs_then (U := Or2 U L) (env := env) ((hd.same s).or il) ((he.or f.2).same s) (q.bind.same s) fun ds vs H2 M q2 s2 f2 r2 => ?_
  · rw [or_app'] at r2
    refine (show Oks G.K H U (d :: ds) Q from q2) (v :: vs) H2 (L ++ M) (s.trans s2) (f.app s il f2) ⟨v, vs, L, M, rfl, rfl, rep_same s2 ?_, r2⟩
    rw [← or_app']
    exact rep_or f2.2 r1
/-- a test, as a value; a value, as a test -/
theorem asB_bind {x : R D} {Q : Bool → Prop} {σ : St} {H : Hp} (h : Res G σ H (asB x) Q) : Res G σ H x fun d => ∃ b, d = .bl b ∧ Q b := by
  cases x with
  | ok d =>
    cases d with
    | bl b => exact ⟨b, rfl, h⟩
    | _ => exact h.elim
  | exc _ => exact h
  | bad => exact h
theorem asI_bind {x : R D} {Q : Int → Prop} {σ : St} {H : Hp} (h : Res G σ H (asI x) Q) : Res G σ H x fun d => ∃ b, d = .int b ∧ Q b := by
  cases x with
  | ok d =>
    cases d with
    | int b => exact ⟨b, rfl, h⟩
    | _ => exact h.elim
  | exc _ => exact h
  | bad => exact h
/-- an expression as a test -/
theorem simt_val {e : Expr} {m : E} (h : PE X e (tM G m)) (he : ∀ whole, isTrue e X.env whole = (do let v ← whole; standAt e.pos; holding [v] (truthy v))) : PT X e (tMt G m) := by
  refine (pt_val h he).imp fun σ H Q ⟨U, env, hd, hre, r⟩ => ?_
  refine tM_then hd hre (asB_bind r) fun d v H1 L ⟨b, e1, q⟩ s f r1 => ?_
  subst e1
  obtain ⟨rfl, _⟩ := r1
  exact ⟨b, rfl, q H1 s⟩
end
end Q

set_option maxHeartbeats 1000000
namespace Q
open PySem PySem.Spec L2
open PyProof.Rows hiding St

/-! ## operations on two values -/
def OpOk (K : PySem.W.Frag) (f : D → D → R D) (r : R2) : Prop := ∀ (H : Hp) (U : Addr → Prop) (L M : List Addr) (dx dy d : D) (x y : V) (Q : VK), f dx dy = .ok d → rep K H (Or2 U (L ++ M)) dx x L → rep K H (Or2 U (L ++ M)) dy y M →
  (L ++ M).Nodup → (∀ a ∈ L ++ M, ¬ U a) → Fin K H U (L ++ M) d Q → r x y H Q
theorem OpOk.or_l {K : PySem.W.Frag} {f : D → D → R D} {r r' : R2} (h : OpOk K f r) : OpOk K f (fun x y H Q => r x y H Q ∨ r' x y H Q) := fun H U L M dx dy d x y Q a b c e g i => .inl (h H U L M dx dy d x y Q a b c e g i)
/-- f by cases: where it is f1's, where it is f2's -/
theorem OpOk.or {K : PySem.W.Frag} {f f1 f2 : D → D → R D} {r r' : R2} (h : OpOk K f1 r) (h' : OpOk K f2 r') (c : ∀ x y d, f x y = .ok d → f1 x y = .ok d ∨ f2 x y = .ok d) : OpOk K f (fun x y H Q => r x y H Q ∨ r' x y H Q) := fun H U L M dx dy d x y Q a b z e g i =>
  (c dx dy d a).elim (fun q => .inl (h H U L M dx dy d x y Q q b z e g i)) fun q => .inr (h' H U L M dx dy d x y Q q b z e g i)
/-- it raises nothing -/
def NoExc (f : D → D → R D) : Prop := ∀ x y e, f x y ≠ .exc e
section
variable {X : Cx} {G : Gx} {pos : Pos} {a b c : Expr} {ma mb mc : E}
theorem two_run {f : D → D → R D} {r : R2} {σ : St} {H : Hp} {U : Addr → Prop} {env : Env} {Q : VK} (ok : OpOk G.K f r) (ne : NoExc f) (hd : Dom H U) (he : RepE G H U σ env) (h : Res G σ H ((ev G.C ma env).b fun x => (ev G.C mb env).b fun y => f x y) fun d => Ok1 G.K H U d Q) :
    tM G ma σ H fun x H1 => tM G mb σ H1 fun y H2 => r x y H2 Q := by
  refine tM_two hd he (h.bind.mono fun x _ q => q.bind) fun dx dy x y H' L M k s f' rx ry => ?_
  cases e : f dx dy with
  | ok d =>
    rw [e] at k
    exact ok H' U L M dx dy d x y Q e rx ry f'.1 (fun a ha u => hd a u (f'.2 a ha)) (Ok1.fin k s f')
  | exc x => exact absurd e (ne _ _ _)
  | bad => rw [e] at k; exact k.elim
theorem sim_op {op : Operator} {o : BO} {r : R2} (hr : OpR X (binaryOp op) r) (ok : OpOk G.K (binop o) r) (ne : NoExc (binop o)) (ha : PE X a (tM G ma)) (hb : PE X b (tM G mb)) : PE X (.BinOp a op b pos) (tM G (.bin o ma mb)) :=
  (pe_op hr ha hb).imp fun σ H Q ⟨U, env, hd, he, h⟩ => two_run ok ne hd he h
theorem sim_cmp {op : CmpOp} {o : CO} {r : R2} (hr : OpR X (compareOp op) r) (ok : OpOk G.K (fun x y => ofB (cmpop o x y)) r) (ne : NoExc fun x y => ofB (cmpop o x y)) (ha : PE X a (tM G ma)) (hb : PE X b (tM G mb)) (hm : behindInMarks op b = false) :
    PE X (.Compare a [op] [b] pos) (tM G (.cmp o ma mb)) :=
  (pe_cmpR hr ha hb hm).imp fun σ H Q ⟨U, env, hd, he, h⟩ => two_run ok ne hd he h
theorem simt_cmp {op : CmpOp} {o : CO} {r : R2} (hr : OpR X (compareOp op) r) (ok : OpOk G.K (fun x y => ofB (cmpop o x y)) r) (ne : NoExc fun x y => ofB (cmpop o x y)) (ha : PE X a (tM G ma)) (hb : PE X b (tM G mb)) (hm : behindInMarks op b = false) :
    PT X (.Compare a [op] [b] pos) (tMt G (.cmp o ma mb)) :=
  (pt_cmpR hr ha hb hm).imp fun σ H Q ⟨U, env, hd, he, h⟩ => by
    have h' : Res G σ H ((ev G.C ma env).b fun x => (ev G.C mb env).b fun y => ofB (cmpop o x y)) fun d => Ok1 G.K H U d fun x H' => ∃ k, x = .bl k ∧ Q k H' := by
      refine (asB_bind h).mono fun d _ ⟨b, e, q⟩ => ?_
      subst e
      intro v H' L s _ rr
      exact ⟨b, rr.1, q H' s⟩
    exact two_run ok ne hd he h'
end

/-! ## the operators -/
section
variable {K : PySem.W.Frag}
theorem ref_of_lst {H : Hp} {U : Addr → Prop} {o : O} {ds : List D} {v : V} {L : List Addr} (h : rep K H U (.lst o ds) v L) (n : o ≠ .f) : ∃ a vs L', v = .ref a ∧ H a = some (.lst vs) ∧ reps K H U ds vs L' ∧ (∀ b ∈ L', b ∈ L) ∧ (L.Nodup → L'.Nodup) := by
  obtain ⟨a, vs, L', ⟨e, hl⟩, r, z⟩ := h
  rcases z with ⟨e1, q, e2⟩ | ⟨e1, q, u, e2, e3⟩ | ⟨e1, q, e2, e3⟩
  · exact ⟨a, vs, L', e, q, r, (fun b hb => by rw [e2]; exact List.mem_cons_of_mem _ hb), fun n => by rw [e2] at n; exact (List.nodup_cons.mp n).2⟩
  · exact ⟨a, vs, L', e, q, r, (fun b hb => by rw [e2] at hb; cases hb), fun _ => by rw [e2]; exact .nil⟩
  · exact absurd e1 n
theorem sq_of_lst {H : Hp} {U : Addr → Prop} {o : O} {ds : List D} {v : V} {L : List Addr} (h : rep K H U (.lst o ds) v L) : ∃ a vs L', v = .ref a ∧ SqL K H a vs ∧ reps K H U ds vs L' ∧ (∀ b ∈ L', b ∈ L) ∧ (L.Nodup → L'.Nodup) := by
  obtain ⟨a, vs, L', ⟨e, hl⟩, r, z⟩ := h
  rcases z with ⟨e1, q, e2⟩ | ⟨e1, q, u, e2, e3⟩ | ⟨e1, q, e2, e3⟩
  · exact ⟨a, vs, L', e, .of q, r, (fun b hb => by rw [e2]; exact List.mem_cons_of_mem _ hb), fun n => by rw [e2] at n; exact (List.nodup_cons.mp n).2⟩
  · exact ⟨a, vs, L', e, .of q, r, (fun b hb => by rw [e2] at hb; cases hb), fun _ => by rw [e2]; exact .nil⟩
  · exact ⟨a, vs, L', e, q.sq, r, (fun b hb => by rw [e2] at hb; cases hb), fun _ => by rw [e2]; exact .nil⟩
theorem nodup_app {α : Type} {L M L' M' : List α} (n : (L ++ M).Nodup) (hL : ∀ b ∈ L', b ∈ L) (hM : ∀ b ∈ M', b ∈ M) (nL : L'.Nodup) (nM : M'.Nodup) : (L' ++ M').Nodup :=
  List.nodup_append.mpr ⟨nL, nM, fun a ha b hb => (List.nodup_append.mp n).2.2 a (hL a ha) b (hM b hb)⟩
/-- smaller sets of owned nodes -/
theorem reps_less {H : Hp} {U : Addr → Prop} {N N' : List Addr} {ds : List D} {vs : List V} {L : List Addr} (h : ∀ a ∈ N', a ∈ N) (r : reps K H (Or2 U N) ds vs L) : reps K H (Or2 U N') ds vs L :=
  reps_set (fun a z => .inl (z.elim .inl fun m => .inr (h a m))) r
theorem rep_less {H : Hp} {U : Addr → Prop} {N N' : List Addr} {ds : D} {vs : V} {L : List Addr} (h : ∀ a ∈ N', a ∈ N) (r : rep K H (Or2 U N) ds vs L) : rep K H (Or2 U N') ds vs L :=
  rep_set (fun a z => .inl (z.elim .inl fun m => .inr (h a m))) r
theorem sok_app {s t : Cs} (h : Sok s) (k : Sok t) (z : s.length + t.length ≤ lim) : Sok (s ++ t) := ⟨by rw [List.length_append]; exact z, fun c hc => (List.mem_append.mp hc).elim (h.2 c) (k.2 c)⟩
theorem toS_app {s t : Cs} : toS s ++ toS t = toS (s ++ t) := by
  show (⟨(toS s).cps ++ (toS t).cps⟩ : Str) = _
  simp [toS]
theorem toS_len {s : Cs} : (toS s).length = s.length := by simp [toS, Str.length]

theorem len_of_lst {H : Hp} {U : Addr → Prop} {o : O} {ds : List D} {v : V} {L : List Addr} (h : rep K H U (.lst o ds) v L) : ds.length ≤ lim := by
  obtain ⟨a, vs, L', ⟨e, hl⟩, _⟩ := h
  exact hl
/-! + -/
def fAddI (x y : D) : R D := match x, y with
  | .int i, .int j => .ok (.int (i + j))
  | _, _ => .bad
def fAddS (x y : D) : R D := match x, y with
  | .str a, .str b => if a.length + b.length ≤ lim then .ok (.str (a ++ b)) else .bad
  | _, _ => .bad
def fAddL (x y : D) : R D := match x, y with
  | .lst o a, .lst o' b => if o ≠ .f ∧ o' ≠ .f ∧ a.length + b.length ≤ lim then .ok (.lst .w (a ++ b)) else .bad
  | _, _ => .bad
def fAddT (x y : D) : R D := match x, y with
  | .tup a, .tup b => if a.length + b.length ≤ lim then .ok (.tup (a ++ b)) else .bad
  | _, _ => .bad
theorem addI_ok : OpOk K fAddI (rI0 fun i j => .int (i + j)) := by
  intro H U L M dx dy d x y Q e rx ry n hu fin
  unfold fAddI at e
  split at e <;> cases e
  obtain ⟨rfl, rfl⟩ := rx
  obtain ⟨rfl, rfl⟩ := ry
  exact ⟨_, _, rfl, rfl, fin.int⟩
theorem addS_ok : OpOk K fAddS (fun x y H Q => ∃ i j, x = .str i ∧ y = .str j ∧ i.length + j.length ≤ sizeLine ∧ Q (.str (i ++ j)) H) := by
  intro H U L M dx dy d x y Q e rx ry n hu fin
  unfold fAddS at e
  split at e
  · split at e
    · rename_i z
      cases e
      obtain ⟨rfl, k1, rfl⟩ := rx
      obtain ⟨rfl, k2, rfl⟩ := ry
      refine ⟨_, _, rfl, rfl, by rw [toS_len, toS_len, ← lim_eq]; exact z, ?_⟩
      rw [toS_app]
      exact fin.str (sok_app k1 k2 z)
    · cases e
  · cases e
theorem addL_ok : OpOk K fAddL rCat := by
  intro H U L M dx dy d x y Q e rx ry n hu fin
  unfold fAddL at e
  split at e
  · split at e
    · rename_i z
      cases e
      obtain ⟨n1, n2, z⟩ := z
      have i1 := rep_in _ _ _ rx
      have i2 := rep_in _ _ _ ry
      obtain ⟨p, vs, L', rfl, hp, r1, s1, m1⟩ := ref_of_lst rx n1
      obtain ⟨q, ws, M', rfl, hq, r2, s2, m2⟩ := ref_of_lst ry n2
      obtain ⟨nL, nM, _⟩ := List.nodup_append.mp n
      have sub : ∀ b ∈ L' ++ M', b ∈ L ++ M := fun b hb => (List.mem_append.mp hb).elim (fun h => List.mem_append_left _ (s1 b h)) fun h => List.mem_append_right _ (s2 b h)
      refine ⟨p, q, vs, ws, rfl, rfl, hp, hq, by rw [reps_length r1, reps_length r2, ← lim_eq]; exact z, ?_⟩
      exact fin.newL (by rw [List.length_append]; exact z) (fun a ha => (List.mem_append.mp ha).elim (i1 a) (i2 a)) (nodup_app n s1 s2 (m1 nL) (m2 nM)) sub (reps_append (reps_less sub r1) (reps_less sub r2))
    · cases e
  · cases e
theorem addT_ok : OpOk K fAddT (rCatA K) := by
  intro H U L M dx dy d x y Q e rx ry n hu fin
  unfold fAddT at e
  split at e
  · split at e
    · rename_i ds es z
      cases e
      obtain ⟨p, vs, ⟨rfl, b1⟩, hp, r1⟩ := rx
      obtain ⟨q, ws, ⟨rfl, b2⟩, hq, r2⟩ := ry
      have l1 := reps_length r1
      have l2 := reps_length r2
      refine ⟨p, q, vs, ws, rfl, rfl, hp, hq, by rw [l1, l2, ← lim_eq]; exact z, fun e1 => ?_, fun _ e2 => ?_, fun _ _ => ?_⟩
      · have z1 : ds = [] := List.length_eq_zero_iff.mp (by rw [← l1, e1]; rfl)
        subst z1
        refine fin.old (v := .ref q) (List.nodup_append.mp n).2.1 (fun a ha => List.mem_append_right _ ha) ⟨q, ws, ⟨rfl, b2⟩, hq, ?_⟩
        exact reps_less (fun a ha => List.mem_append_right _ ha) r2
      · have z2 : es = [] := List.length_eq_zero_iff.mp (by rw [← l2, e2]; rfl)
        subst z2
        rw [List.append_nil] at fin
        refine fin.old (v := .ref p) (List.nodup_append.mp n).1 (fun a ha => List.mem_append_left _ ha) ⟨p, vs, ⟨rfl, b1⟩, hp, ?_⟩
        exact reps_less (fun a ha => List.mem_append_left _ ha) r1
      · exact fin.newT (by rw [List.length_append]; exact z) n (fun a ha => ha) (reps_append r1 r2)
    · cases e
  · cases e
def fAddP (x y : D) : R D := match x, y with
  | .tup a, .ptu ks => fAddT (.tup a) (.tup (ks.map fun kv => D.tup [.str kv.1, .int kv.2]))
  | _, _ => .bad
theorem addP_ok : OpOk K fAddP (rCatA K) := by
  intro H U L M dx dy d x y Q e rx ry n hu fin
  unfold fAddP at e
  split at e
  · exact addT_ok H U L M _ _ d x y Q e rx (ptu_tup ry) n hu fin
  · cases e
def fAddTP (x y : D) : R D := match y with
  | .ptu _ => fAddP x y
  | _ => fAddT x y
theorem addTP_ok : OpOk K fAddTP (rCatA K) := by
  intro H U L M dx dy d x y Q e rx ry n hu fin
  unfold fAddTP at e
  split at e
  · exact addP_ok H U L M _ _ d x y Q e rx ry n hu fin
  · exact addT_ok H U L M _ _ d x y Q e rx ry n hu fin
theorem add_ok : OpOk K (binop .add) (fun x y H Q => (rI0 (fun i j => .int (i + j)) x y H Q ∨ ∃ i j, x = .str i ∧ y = .str j ∧ i.length + j.length ≤ sizeLine ∧ Q (.str (i ++ j)) H) ∨ rCat x y H Q ∨ rCatA K x y H Q) := by
  refine OpOk.or (f1 := fun x y => match x, y with | .int _, _ => fAddI x y | _, _ => fAddS x y) (f2 := fun x y => match x, y with | .lst _ _, _ => fAddL x y | _, .ptu _ => fAddP x y | _, _ => fAddT x y)
    (OpOk.or addI_ok addS_ok fun x y d e => ?_) (OpOk.or addL_ok addTP_ok fun x y d e => ?_) fun x y d e => ?_
  · cases x <;> first | exact .inl e | exact .inr e
  · cases x <;> cases y <;> first | exact .inl e | exact .inr e
  · cases x <;> cases y <;> first | exact .inl e | exact .inr e | cases e
theorem add_ne : NoExc (binop .add) := by
  intro x y e
  cases x <;> cases y <;> simp only [binop, ne_eq, reduceCtorEq, not_false_eq_true] <;> split <;> simp
/-! - -/
theorem sub_ok : OpOk K (binop .sub) (rI0 fun i j => .int (i - j)) := by
  intro H U L M dx dy d x y Q e rx ry n hu fin
  cases dx <;> cases dy <;> cases e
  obtain ⟨rfl, rfl⟩ := rx
  obtain ⟨rfl, rfl⟩ := ry
  exact ⟨_, _, rfl, rfl, fin.int⟩
theorem sub_ne : NoExc (binop .sub) := by
  intro x y e
  cases x <;> cases y <;> simp [binop]
/-! // % ** -/
theorem fdiv_ok : OpOk K (binop .fdiv) (rI CDiv fun i j => .int (i / j)) := by
  intro H U L M dx dy d x y Q e rx ry n hu fin
  cases dx <;> cases dy <;> try cases e
  rename_i i j
  have e' : (if 0 < j ∧ j < 1073741824 then R.ok (D.int (i / j)) else .bad) = .ok d := e
  split at e' <;> cases e'
  rename_i z
  obtain ⟨rfl, rfl⟩ := rx
  obtain ⟨rfl, rfl⟩ := ry
  exact ⟨_, _, rfl, rfl, z, fin.int⟩
theorem fdiv_ne : NoExc (binop .fdiv) := by
  intro x y e
  cases x <;> cases y <;> simp only [binop, ne_eq, reduceCtorEq, not_false_eq_true] <;> split <;> simp
theorem mod_ok : OpOk K (binop .mod) (rI (fun _ j => 0 < j) fun i j => .int (i % j)) := by
  intro H U L M dx dy d x y Q e rx ry n hu fin
  cases dx <;> cases dy <;> try cases e
  rename_i i j
  have e' : (if 0 < j then R.ok (D.int (i % j)) else .bad) = .ok d := e
  split at e' <;> cases e'
  rename_i z
  obtain ⟨rfl, rfl⟩ := rx
  obtain ⟨rfl, rfl⟩ := ry
  exact ⟨_, _, rfl, rfl, z, fin.int⟩
theorem mod_ne : NoExc (binop .mod) := by
  intro x y e
  cases x <;> cases y <;> simp only [binop, ne_eq, reduceCtorEq, not_false_eq_true] <;> split <;> simp
theorem pow_ok : OpOk K (binop .pow) (rI CPow fun i j => .int (i ^ j.toNat)) := by
  intro H U L M dx dy d x y Q e rx ry n hu fin
  cases dx <;> cases dy <;> try cases e
  rename_i i j
  have e' : (if 0 ≤ j ∧ j ≤ 1000000 ∧ i.natAbs < 2 ^ 64 then R.ok (D.int (i ^ j.toNat)) else .bad) = .ok d := e
  split at e' <;> cases e'
  rename_i z
  obtain ⟨rfl, rfl⟩ := rx
  obtain ⟨rfl, rfl⟩ := ry
  exact ⟨_, _, rfl, rfl, z, fin.int⟩
theorem pow_ne : NoExc (binop .pow) := by
  intro x y e
  cases x <;> cases y <;> simp only [binop, ne_eq, reduceCtorEq, not_false_eq_true] <;> split <;> simp
/-! * -/
def fMulI (x y : D) : R D := match x, y with
  | .int i, .int j => if small i || small j then .ok (.int (i * j)) else .bad
  | _, _ => .bad
def fMulL (x y : D) : R D := match x, y with
  | .lst o a, .int k => if o ≠ .f ∧ -(2 ^ 63) ≤ k ∧ k < 2 ^ 63 ∧ a.length * k.toNat ≤ lim then .ok (.lst .w (List.replicate k.toNat (shs a)).flatten) else .bad
  | _, _ => .bad
def fMulT (x y : D) : R D := match x, y with
  | .tup a, .int k => if a ≠ [] ∧ 0 ≤ k ∧ k ≤ 1000 ∧ a.length ≤ 1000 then .ok (.tup (List.replicate k.toNat (shs a)).flatten) else .bad
  | _, _ => .bad
/-- a text, some times -/
def fMulS (x y : D) : R D := match x, y with
  | .str a, .int k => if k = 0 ∨ k = 1 then .ok (.str (if k = 1 then a else [])) else if 2 ≤ k ∧ k ≤ 1000 ∧ a.length ≤ 1000 then .ok (.str (List.replicate k.toNat a).flatten) else .bad
  | _, _ => .bad
theorem fold_flat {α : Type} (a : List α) : ∀ (k : Nat) (acc : List α), List.foldl (fun x y => x ++ y) acc.toArray (List.replicate k a.toArray) = (acc ++ (List.replicate k a).flatten).toArray
  | 0, acc => by simp
  | k + 1, acc => by
    have e : acc.toArray ++ a.toArray = (acc ++ a).toArray := by simp
    rw [List.replicate_succ, List.foldl_cons, e, fold_flat a k, List.replicate_succ, List.flatten_cons, List.append_assoc]
def rRepS : R2 := fun x y H Q => ∃ (s : Cs) (k : Int), x = .str (toS s) ∧ y = .int k ∧ (((k = 0 ∨ k = 1) ∧ Q (.str (if k = 1 then toS s else Str.empty)) H) ∨ ((2 ≤ k ∧ k ≤ 1000 ∧ s.length ≤ 1000) ∧ Q (.str (toS (List.replicate k.toNat s).flatten)) H))
theorem flat_len0 {α : Type} (k : Nat) (a : List α) : (List.replicate k a).flatten.length = k * a.length := by
  induction k with
  | zero => simp
  | succ k ih => rw [List.replicate_succ, List.flatten_cons, List.length_append, ih, Nat.succ_mul]; omega
theorem op_repS {X : Cx} : OpR X (binaryOp .Mult) rRepS := by
  intro pins s σ H x y v u Q I rx ry h
  obtain ⟨z, k, rfl, rfl, h⟩ := h
  obtain ⟨t, rfl⟩ := rx
  obtain ⟨t2, rfl⟩ := ry
  rcases h with ⟨hk, q⟩ | ⟨⟨k2, k3, zl⟩, q⟩
  · rcases hk with rfl | rfl
    · rw [if_neg (by decide)] at q
      exact PySem.P.mul_str_none (by decide) (by decide) ⟨.str Str.empty, H, I.tok _, ⟨_, rfl⟩, q⟩
    · rw [if_pos rfl] at q
      exact PySem.P.mul_str (by decide) (fun _ h => by simp at h) (fun _ h => by simp at h) (show (if (1 : Int) < 1 then Made.str Str.empty else if ((1 : Int) == 1 || (toS z).length == 0) = true then Made.val (.str (toS z) t) else _).post _ _ from by
        rw [if_neg (by decide), if_pos (by simp)]
        exact ⟨.str (toS z), H, I, ⟨t, rfl⟩, q⟩)
  · have hl : (toS z).length = z.length := by simp [toS, Str.length]
    have hm : (toS z).length * k.toNat ≤ 1000 * 1000 := by rw [hl]; exact Nat.mul_le_mul zl (by omega)
    refine PySem.P.mul_str (by rw [decide_eq_false (by omega), decide_eq_false (by omega)]; rfl) (fun _ _ => ?_) (fun _ _ => ?_) ?_
    · have : (2 : Int) ^ 62 / 1000 ≤ (2 ^ 63 - 1) / k := by
        refine Int.le_ediv_of_mul_le (by omega) ?_
        have : (2 : Int) ^ 62 / 1000 * k ≤ 2 ^ 62 / 1000 * 1000 := Int.mul_le_mul_of_nonneg_left k3 (by decide)
        omega
      rw [hl]; omega
    · unfold Builtin.Str.tooLong
      rw [sizeLine_eq]
      exact decide_eq_false (by omega)
    · rw [if_neg (by omega)]
      have e : (⟨(List.replicate k.toNat (toS z).cps).foldl (· ++ ·) #[]⟩ : Str) = toS (List.replicate k.toNat z).flatten := by
        have := fold_flat z k.toNat []
        rw [List.nil_append] at this
        exact congrArg Str.mk this
      by_cases z0 : ((k == 1) || (toS z).length == 0) = true
      · rw [if_pos z0]
        have hz : z = [] := by
          rcases (Bool.or_eq_true _ _).mp z0 with e | e
          · have := eq_of_beq e; omega
          · have := eq_of_beq e; rw [hl] at this; exact List.eq_nil_of_length_eq_zero this
        subst hz
        have e2 : (List.replicate k.toNat ([] : Cs)).flatten = [] := by simp
        rw [e2] at q
        exact ⟨.str (toS []), H, I, ⟨t, rfl⟩, q⟩
      · rw [if_neg z0, e]
        refine ⟨?_, .str _, H, I.tok _, ⟨_, rfl⟩, q⟩
        have : (toS (List.replicate k.toNat z).flatten).length = k.toNat * z.length := by
          have e3 : ∀ s : Cs, (toS s).length = s.length := fun s => by simp [toS, Str.length]
          rw [e3, flat_len0]
        rw [hl, Nat.mul_comm] at hm
        first
          | (rw [this, sizeLine_eq]; omega)
          | (show (toS (List.replicate k.toNat z).flatten).length ≤ _; rw [this, sizeLine_eq]; omega)
theorem mulS_ok : OpOk K fMulS rRepS := by
  intro H U L M dx dy d x y Q e rx ry n hu fin
  cases dx <;> cases dy <;> try cases e
  rename_i a k
  have e' : (if k = 0 ∨ k = 1 then R.ok (D.str (if k = 1 then a else [])) else if 2 ≤ k ∧ k ≤ 1000 ∧ a.length ≤ 1000 then R.ok (D.str (List.replicate k.toNat a).flatten) else .bad) = .ok d := e
  obtain ⟨rfl, sk, rfl⟩ := rx
  obtain ⟨rfl, rfl⟩ := ry
  refine ⟨_, k, rfl, rfl, ?_⟩
  by_cases hk : k = 0 ∨ k = 1
  · rw [if_pos hk] at e'
    cases e'
    refine .inl ⟨hk, ?_⟩
    rcases hk with rfl | rfl
    · rw [if_neg (by decide)] at fin ⊢
      exact fin.str ⟨Nat.zero_le _, fun c h => nomatch h⟩
    · rw [if_pos rfl] at fin ⊢
      exact fin.str sk
  · rw [if_neg hk] at e'
    split at e' <;> cases e'
    rename_i hh
    refine .inr ⟨hh, fin.str ⟨?_, fun c hc => ?_⟩⟩
    · rw [flat_len0]
      exact Nat.le_trans (Nat.mul_le_mul (show k.toNat ≤ 1000 by omega) hh.2.2) (by decide)
    · obtain ⟨l, h1, h2⟩ := List.mem_flatten.mp hc
      exact sk.2 c ((List.mem_replicate.mp h1).2 ▸ h2)
theorem mulI_ok : OpOk K fMulI (rI CMul fun i j => .int (i * j)) := by
  intro H U L M dx dy d x y Q e rx ry n hu fin
  cases dx <;> cases dy <;> try cases e
  rename_i i j
  have e' : (if (small i || small j) = true then R.ok (D.int (i * j)) else .bad) = .ok d := e
  split at e' <;> cases e'
  rename_i z
  obtain ⟨rfl, rfl⟩ := rx
  obtain ⟨rfl, rfl⟩ := ry
  refine ⟨_, _, rfl, rfl, ?_, fin.int⟩
  rcases (Bool.or_eq_true _ _).mp z with z | z
  · exact .inl (of_decide_eq_true z)
  · exact .inr (of_decide_eq_true z)
theorem flat_len {α : Type} (k : Nat) (a : List α) : (List.replicate k a).flatten.length = k * a.length := by
  induction k with
  | zero => simp
  | succ k ih => rw [List.replicate_succ, List.flatten_cons, List.length_append, ih, Nat.succ_mul]; omega
theorem reps_rep {H : Hp} {U : Addr → Prop} {ds : List D} {vs : List V} (r : reps K H U ds vs []) : ∀ k : Nat, reps K H U (List.replicate k ds).flatten (List.replicate k vs).flatten []
  | 0 => ⟨rfl, rfl⟩
  | k + 1 => by
    rw [List.replicate_succ, List.replicate_succ, List.flatten_cons, List.flatten_cons]
    exact reps_append r (reps_rep r k)
theorem mulL_ok : OpOk K fMulL rRep := by
  intro H U L M dx dy d x y Q e rx ry n hu fin
  cases dx <;> cases dy <;> try cases e
  rename_i o a k
  have e' : (if o ≠ .f ∧ -(2 ^ 63) ≤ k ∧ k < 2 ^ 63 ∧ a.length * k.toNat ≤ lim then R.ok (D.lst .w (List.replicate k.toNat (shs a)).flatten) else .bad) = .ok d := e
  split at e' <;> cases e'
  rename_i z
  obtain ⟨n1, z1, z2, z3⟩ := z
  have i1 := rep_in _ _ _ rx
  obtain ⟨p, vs, L', rfl, hp, r1, s1, m1⟩ := ref_of_lst rx n1
  obtain ⟨rfl, rfl⟩ := ry
  refine ⟨p, k, vs, rfl, rfl, hp, z1, z2, by rw [reps_length r1, ← lim_eq]; exact z3, ?_⟩
  refine fin.newL (by rw [flat_len, shs_length, Nat.mul_comm]; exact z3) (fun a ha => i1 a (by simpa using ha)) .nil (fun a ha => by cases ha) ?_
  exact reps_rep (reps_shN r1 (fun a ha => List.mem_append_left _ (s1 a ha)) hu) _
theorem tup_mul1 (l : Addr) (items : Array Value) (n : Nat) (dd : Option Addr) (sl : Array (Option Value)) (u : Tok) :
    Meets (Builtin.«tuple.__mul__» ⟨[.ref l, .int 1 u], []⟩) (fun _ R s => s.heap.get? l = some { cls := .type "tuple", dict := dd, data := .seq items n, slots := sl } ∧ R (.ok (.ret (Value.ref l))) s) :=
  .of_wp fun prog w A R s h => by
    obtain ⟨hp, g, d, tk, os⟩ := s
    obtain ⟨hl, h⟩ := h
    have f1 := AutoSeq1.idx_int
    wp_walk using AutoSeq1.wpAny_loadPart' hl
    repeat (first
      | (refine wpAny_ite_false (by decide) ?_; wp_walk using AutoSeq1.wpAny_loadPart' hl)
      | (refine wpAny_ite_true (by simp) ?_; wp_walk using AutoSeq1.wpAny_loadPart' hl))
    exact ⟨_, rfl, h⟩
theorem tup_mul0 (l : Addr) (items : Array Value) (n : Nat) (dd : Option Addr) (sl : Array (Option Value)) (u : Tok) (hi : items.isEmpty = false) :
    Meets (Builtin.«tuple.__mul__» ⟨[.ref l, .int 0 u], []⟩) (fun _ R s => s.heap.get? l = some { cls := .type "tuple", dict := dd, data := .seq items n, slots := sl } ∧ R (.ok (.ret (Value.ref s.heap.objs.size))) { s with heap := s.heap.push { cls := Value.type "tuple", data := Data.seq #[] }, toks := s.toks }) :=
  .of_wp fun prog w A R s h => by
    obtain ⟨hp, g, d, tk, os⟩ := s
    obtain ⟨hl, h⟩ := h
    have f1 := AutoSeq1.idx_int
    wp_walk using AutoSeq1.wpAny_loadPart' hl
    repeat (first
      | (refine wpAny_ite_false (by decide) ?_; wp_walk using AutoSeq1.wpAny_loadPart' hl)
      | (refine wpAny_ite_false (by rw [hi]; decide) ?_; wp_walk using AutoSeq1.wpAny_loadPart' hl)
      | (refine wpAny_ite_true (by simp) ?_; wp_walk using AutoSeq1.wpAny_loadPart' hl))
    exact ⟨_, rfl, h⟩
def rRepT0 (K : PySem.W.Frag) : R2 := fun x y H Q => ∃ l k xs, x = .ref l ∧ y = .int k ∧ SqT K H l xs ∧ xs ≠ [] ∧ 0 ≤ k ∧ k ≤ 1000 ∧ xs.length ≤ 1000 ∧ (∀ p, H p = none → Q (.ref p) (upd H p (.tup (List.replicate k.toNat xs).flatten))) ∧ (k = 1 → Q (.ref l) H)
theorem op_repT0 {X : Cx} : OpR X (binaryOp .Mult) (rRepT0 X.K) := by
  intro pins s σ H x y v u Q I rx ry h
  obtain ⟨l, k, xs, rfl, rfl, hT, hne, h1, h2, hz, q, q1⟩ := h
  by_cases k2 : 2 ≤ k
  · exact op_repT pins s σ H _ _ v u Q I rx ry ⟨l, k, xs, rfl, rfl, hT, hne, k2, h2, hz, q⟩
  cases rx
  obtain ⟨t, rfl⟩ := ry
  obtain ⟨its, r, ⟨⟨cls, dd, data, sl⟩, ho, hc, n, hd⟩, hs⟩ := I.tuple hT
  simp only at hc hd
  subst hc hd
  have hle : its.length = xs.length := r.length.symm
  have hi : its.toArray.isEmpty = false := by
    cases its with
    | nil => exact absurd (List.eq_nil_of_length_eq_zero hle.symm) hne
    | cons a b => rfl
  rcases (show k = 0 ∨ k = 1 by omega) with rfl | rfl
  · refine wpAny_binaryOp_repeat_ref (T := "tuple") (U := "int") (by decide) ⟨_, ho, rfl⟩ (fun s' => typeIs_int s' 0 t) noFill_tuple_mul F.fills_int_mul F.slot_int_rmul repeat_tuple F.slot_int_index.lookup
      (call_meets F.slot_int_rmul (typeIs_int s 0 t) F.entry_int_rmul (F.args_int_rmul_2 _ _) (int_rmul_tuple 0 t l its.toArray n dd sl)
        ⟨ho, rfl, ⟨_, ho, rfl⟩, call_meets F.slot_tuple_mul ⟨_, ho, rfl⟩ F.entry_tuple_mul (F.args_tuple_mul_2 _ _) (tup_mul0 l its.toArray n dd sl t hi) ⟨ho, ?_⟩⟩)
    refine ⟨.ref s.heap.objs.size, _, I.laid (t' := s.toks) (o := .tup []) (fun b ob q => Heap.get?_push_of_some _ q) (Nat.le_refl _) ?_, rfl, q _ (I.hok.fresh (Nat.le_refl _))⟩
    exact ⟨Nat.zero_le _, [], .nil, IsTup.new _ _⟩
  · exact wpAny_binaryOp_repeat_ref (T := "tuple") (U := "int") (by decide) ⟨_, ho, rfl⟩ (fun s' => typeIs_int s' 1 t) noFill_tuple_mul F.fills_int_mul F.slot_int_rmul repeat_tuple F.slot_int_index.lookup
      (call_meets F.slot_int_rmul (typeIs_int s 1 t) F.entry_int_rmul (F.args_int_rmul_2 _ _) (int_rmul_tuple 1 t l its.toArray n dd sl)
        ⟨ho, rfl, ⟨_, ho, rfl⟩, call_meets F.slot_tuple_mul ⟨_, ho, rfl⟩ F.entry_tuple_mul (F.args_tuple_mul_2 _ _) (tup_mul1 l its.toArray n dd sl t) ⟨ho, ⟨.ref l, H, I, rfl, q1 rfl⟩⟩⟩)
theorem mulT_ok : OpOk K fMulT (rRepT0 K) := by
  intro H U L M dx dy d x y Q e rx ry n hu fin
  cases dx <;> cases dy <;> try cases e
  rename_i a k
  have e' : (if a ≠ [] ∧ 0 ≤ k ∧ k ≤ 1000 ∧ a.length ≤ 1000 then R.ok (D.tup (List.replicate k.toNat (shs a)).flatten) else .bad) = .ok d := e
  split at e' <;> cases e'
  rename_i z
  obtain ⟨n1, z1, z2, z3⟩ := z
  obtain ⟨p, vs, ⟨rfl, b1⟩, hp, r1⟩ := rx
  obtain ⟨rfl, rfl⟩ := ry
  have l1 := reps_length r1
  have r2 : reps K H (Or2 U []) (shs a) vs [] := reps_shN r1 (fun a ha => List.mem_append_left _ ha) hu
  refine ⟨p, k, vs, rfl, rfl, hp, fun q => n1 (List.length_eq_zero_iff.mp (by rw [← l1, q]; rfl)), z1, z2, by rw [l1]; exact z3, ?_, fun h1 => ?_⟩
  · refine fin.newT (by rw [flat_len, shs_length]; exact Nat.le_trans (Nat.mul_le_mul (show k.toNat ≤ 1000 by omega) z3) (by decide)) .nil (fun a ha => by cases ha) ?_
    exact reps_rep r2 _
  · subst h1
    refine fin.old (L := []) .nil (fun a ha => by cases ha) ?_
    have e2 : (List.replicate (1 : Int).toNat (shs a)).flatten = shs a := by
      show (List.replicate 1 (shs a)).flatten = _
      simp
    rw [e2]
    exact ⟨p, vs, ⟨rfl, by rw [shs_length]; exact b1⟩, hp, r2⟩
theorem mul_ok : OpOk K (binop .mul) (fun x y H Q => rI CMul (fun i j => .int (i * j)) x y H Q ∨ rRep x y H Q ∨ rRepT0 K x y H Q ∨ rRepS x y H Q) := by
  refine OpOk.or (f2 := fun x y => match x, y with | .lst _ _, _ => fMulL x y | .str _, _ => fMulS x y | _, _ => fMulT x y) mulI_ok (OpOk.or (f2 := fun x y => match x, y with | .str _, _ => fMulS x y | _, _ => fMulT x y) mulL_ok (OpOk.or mulT_ok mulS_ok fun x y d e => ?_) fun x y d e => ?_) fun x y d e => ?_
  · cases x <;> first | exact .inl e | exact .inr e
  · cases x <;> first | exact .inl e | exact .inr e
  · cases x <;> cases y <;> first | exact .inl e | exact .inr e | cases e
theorem mul_ne : NoExc (binop .mul) := by
  intro x y e h
  cases x <;> cases y <;> simp only [binop, reduceCtorEq] at h <;> (repeat' split at h) <;> first | cases h | contradiction
end
section
variable {X : Cx} {G : Gx} {pos : Pos} {a b : Expr} {ma mb : E}
def opOf : BO → Operator
  | .add => .Add
  | .sub => .Sub
  | .mul => .Mult
  | .fdiv => .FloorDiv
  | .mod => .Mod
  | .pow => .Pow
theorem sim_bin (hK : G.K = X.K) (o : BO) (ha : PE X a (tM G ma)) (hb : PE X b (tM G mb)) : PE X (.BinOp a (opOf o) b pos) (tM G (.bin o ma mb)) := by
  cases o with
  | add => exact sim_op ((op_add.or op_add_str).or (op_cat.or op_catA)) (hK ▸ add_ok) add_ne ha hb
  | sub => exact sim_op op_sub sub_ok sub_ne ha hb
  | mul => exact sim_op (op_mul.or (op_rep.or (op_repT0.or op_repS))) (hK ▸ mul_ok) mul_ne ha hb
  | fdiv => exact sim_op op_fdiv fdiv_ok fdiv_ne ha hb
  | mod => exact sim_op op_mod mod_ok mod_ne ha hb
  | pow => exact sim_op op_pow pow_ok pow_ne ha hb
theorem sim_neg (ha : PE X a (tM G ma)) : PE X (.UnaryOp .USub a pos) (tM G (.neg ma)) :=
  (pe_un un_neg ha).imp fun σ H Q ⟨U, env, hd, he, h⟩ => by
    have h' : Res G σ H ((asI (ev G.C ma env)).b fun i => .ok (.int (-i))) fun d => Ok1 G.K H U d Q := h
    refine tM_then hd he (asI_bind h'.bind) fun d v H1 L ⟨i, e, q⟩ s f r => ?_
    subst e
    obtain ⟨rfl, rfl⟩ := r
    exact ⟨i, rfl, (Ok1.fin (show Ok1 G.K H U (.int (-i)) Q from q) s (N := []) .nil).int⟩
end
end Q

set_option maxHeartbeats 1000000
namespace Q
open PySem PySem.Spec L2
open PyProof.Rows hiding St
open PySem.SeqAt PySem.AutoSeq1 PySem.MeetsSeq PySem.MeetsSeq2 PySem.MeetsSeq3

/-! ## two lists whose items may be dicts -/
section
variable {P : Program} {w : World}
theorem unlike_loop (p q : Addr) (xa xb : Array Value) (na nb : Nat) (da db : Option Addr) (la lb : Array (Option Value)) (same : xa.size = xb.size) (g : Nat → Bool) (r : Nat) :
    ∀ j : Nat, xa.size - j = r → MeetsIn P w (Builtin.«list.__eq__.loop» ⟨[.ref p, .ref q, rawInt j, rawInt 3], []⟩)
      (fun B R t => t.heap.get? p = some { cls := .type "list", dict := da, data := .seq xa na, slots := la } ∧ t.heap.get? q = some { cls := .type "list", dict := db, data := .seq xb nb, slots := lb } ∧
        (∀ k (k1 : k < xa.size) (k2 : k < xb.size), EqP P w B.in1 t xa[k] xb[k] (g k)) ∧ R (.ok (.ret (.bool (!((List.range xa.size).drop j).all g)))) t) := by
  induction r with
  | zero =>
    intro j hj B R t z
    obtain ⟨th, tg, td, tt, tos⟩ := t; obtain ⟨zp, zq, zi, z⟩ := z
    wp_walk using wpAny_loadPart' zp, wpAny_loadPart' zq
    have o1 : xa[((j : Nat) : Int).toNat]? = none := by simp; omega
    have o2 : xb[((j : Nat) : Int).toNat]? = none := by simp; omega
    have od : (List.range xa.size).drop j = [] := by simp; omega
    rw [od] at z
    rw [o1, o2]
    wp_walk using wpAny_loadPart' zp, wpAny_loadPart' zq
    show R (.ok (.ret (.bool (xa.size != xb.size)))) _
    rw [same]
    simpa using z
  | succ r ih =>
    intro j hj B R t z
    obtain ⟨th, tg, td, tt, tos⟩ := t; obtain ⟨zp, zq, zi, z⟩ := z
    wp_walk using wpAny_loadPart' zp, wpAny_loadPart' zq
    have ja : j < xa.size := by omega
    have jb : j < xb.size := by omega
    have o1 : xa[((j : Nat) : Int).toNat]? = some xa[j] := by simp [ja]
    have o2 : xb[((j : Nat) : Int).toNat]? = some xb[j] := by simp [jb]
    have od : (List.range xa.size).drop j = j :: (List.range xa.size).drop (j + 1) := by simp [List.drop_eq_getElem_cons, ja]
    have oc : ((j : Int) + 1) = ((j + 1 : Nat) : Int) := by push_cast; rfl
    rw [od, List.all_cons] at z
    rw [o1, o2]
    refine wpAny_bind (zi j ja jb _ _ ?_)
    cases gj : g j with
    | true =>
      rw [gj] at z
      wp_walk
      rw [oc]
      refine ⟨plainId_quiet plain_eq_loop _, codeAny_builtin entry_eq_loop ?_⟩
      rw [Around.under_plainId plain_eq_loop _]
      exact ih (j + 1) (by omega) B R _ ⟨zp, zq, zi, by simpa using z⟩
    | false =>
      rw [gj] at z
      wp_walk using wpAny_loadPart' zp, wpAny_loadPart' zq
      rw [o1, o2]
      wp_walk
      simpa using z
theorem unlike_lists (p q : Addr) (xa xb : Array Value) (na nb : Nat) (da db : Option Addr) (la lb : Array (Option Value)) (same : xa.size = xb.size) (g : Nat → Bool) :
    MeetsIn P w (Builtin.«list.__ne__» ⟨[.ref p, .ref q], []⟩)
      (fun B R t => t.heap.get? p = some { cls := .type "list", dict := da, data := .seq xa na, slots := la } ∧ t.heap.get? q = some { cls := .type "list", dict := db, data := .seq xb nb, slots := lb } ∧
        (∀ k (k1 : k < xa.size) (k2 : k < xb.size), EqP P w B.in1 t xa[k] xb[k] (g k)) ∧ R (.ok (.ret (.bool (!(List.range xa.size).all g)))) t) := by
  intro B R t z
  obtain ⟨th, tg, td, tt, tos⟩ := t; obtain ⟨zp, zq, zi, z⟩ := z
  have f3 := AutoSeq1.sub_list_list
  have nes : ¬ (xa.size != xb.size) = true := by simp [same]
  wp_walk using wpAny_loadPart' zp, wpAny_loadPart' zq
  refine ⟨plainId_quiet plain_eq_loop _, codeAny_builtin entry_eq_loop ?_⟩
  rw [Around.under_plainId plain_eq_loop _]
  exact unlike_loop p q xa xb na nb da db la lb same g _ 0 rfl B R _ ⟨zp, zq, zi, by simpa using z⟩
theorem unlike_rc {B : Around} {t : Shared} {p q : Addr} {xa xb : Array Value} {g : Nat → Bool} (hp : t.heap.IsList p xa) (hq : t.heap.IsList q xb) (same : xa.size = xb.size) (hu : B.units < cLine)
    (hi : ∀ k (k1 : k < xa.size) (k2 : k < xb.size), EqP P w B.in1 t xa[k] xb[k] (g k)) (E Q : Value → Shared → Prop) (z : Q (.bool (!(List.range xa.size).all g)) t) : wpAny (model P w) B (richCompare .NotEq (.ref p) (.ref q)) Q E t := by
  obtain ⟨⟨cl, da, dt, la⟩, ep, c1, na, d1⟩ := id hp
  obtain ⟨⟨cl2, db, dt2, lb⟩, eq, c2, nb, d2⟩ := id hq
  simp only at c1 d1 c2 d2
  subst c1 d1 c2 d2
  have ta : t.TypeIs (.ref p) "list" := ⟨_, ep, rfl⟩
  have tb : t.TypeIs (.ref q) "list" := ⟨_, eq, rfl⟩
  exact wpAny_richCompare_same_room (op := .NotEq) ta tb F.slot_list_ne (call_meetsIn F.slot_list_ne ta F.entry_list_ne (F.args_list_ne_2 _ _) (unlike_lists p q xa xb na nb da db la lb same g)
    ⟨ep, eq, hi, show Value.bool (!(List.range xa.size).all g) ≠ Value.notImplemented ∧ Q (.bool (!(List.range xa.size).all g)) t from ⟨(fun x => nomatch x), z⟩⟩) hu
end
/-- items that are equal: plain data, or dicts of plain values -/
def ItE (K : PySem.W.Frag) (H : Hp) (x y : V) : Prop := (∃ d e, Dp K H x d ∧ Dp K H y e ∧ SeqAt.shaped d = true ∧ SeqAt.shaped e = true ∧ PyData.eqv d e = true) ∨ EqV K H 2 x y
def rEqW (K : PySem.W.Frag) : R2 := fun x y H Q => ∃ a b xs ys, x = .ref a ∧ y = .ref b ∧ SqL K H a xs ∧ SqL K H b ys ∧ Paired (ItE K H) xs ys ∧ Q (.bl true) H
def rNeW (K : PySem.W.Frag) : R2 := fun x y H Q => ∃ a b xs ys, x = .ref a ∧ y = .ref b ∧ SqL K H a xs ∧ SqL K H b ys ∧ Paired (ItE K H) xs ys ∧ Q (.bl false) H
section
variable {X : Cx} {pins : List (Addr × Obj)} {σ : St} {H : Hp} {s : Shared}
theorem itE_run (I : Inv X pins σ H s) {A : Around} (hu : A.units + 64 < cLine) (x y : V) (v u : Value) (h : ItE X.K H x y) (rx : RelV x v) (ry : RelV y u) : SeqAt.EqP X.prog X.w A s v u true := by
  rcases h with ⟨d, e, hd, he, sd, se, q⟩ | h
  · obtain ⟨as, r1⟩ := Dp.reads I d x v hd rx
    obtain ⟨bs, r2⟩ := Dp.reads I e y u he ry
    have := (eqAt_reads d e A s v u as bs r1 r2 (canLay_of_shaped sd) (canLay_of_shaped se) (room_of_shaped sd hu)).eqP (prog := X.prog) (w := X.w)
    rw [q] at this
    exact this
  · exact eqV_run I 2 A (by omega) x y v u h rx ry
theorem op_eqW (hu : X.A.units + 65 < cLine) : OpR X (compareOp .Eq) (rEqW X.K) := by
  intro pins s σ H x y v u Q I rx ry h
  obtain ⟨a, b, xs, ys, rfl, rfl, ha, hb, hp, q⟩ := h
  cases (show v = Value.ref a from rx)
  cases (show u = Value.ref b from ry)
  obtain ⟨us, r1, p1, _⟩ := I.list ha
  obtain ⟨ws, r2, p2, _⟩ := I.list hb
  have hsz : us.toArray.size = ws.toArray.size := by
    rw [List.size_toArray, List.size_toArray, ← r1.length, ← r2.length]
    exact Paired.length hp
  have hu1 : X.A.in1.units + 64 < cLine := by show X.A.units + 1 + 64 < cLine; omega
  refine SeqAt.rcP_lists (e := fun _ => true) p1.isList p2.isList hsz (by omega) (fun j h1 h2 => ?_) _ _ ?_
  · have k := items_run (itE_run I hu1) hp r1 r2 j (by simpa using h1) (by simpa using h2)
    simpa using k
  · rw [show ((List.range us.toArray.size).all fun _ => true) = true from List.all_eq_true.mpr fun _ _ => rfl]
    exact ⟨.bl true, H, I, rfl, q⟩
theorem op_neW (hu : X.A.units + 65 < cLine) : OpR X (compareOp .NotEq) (rNeW X.K) := by
  intro pins s σ H x y v u Q I rx ry h
  obtain ⟨a, b, xs, ys, rfl, rfl, ha, hb, hp, q⟩ := h
  cases (show v = Value.ref a from rx)
  cases (show u = Value.ref b from ry)
  obtain ⟨us, r1, p1, _⟩ := I.list ha
  obtain ⟨ws, r2, p2, _⟩ := I.list hb
  have hsz : us.toArray.size = ws.toArray.size := by
    rw [List.size_toArray, List.size_toArray, ← r1.length, ← r2.length]
    exact Paired.length hp
  have hu1 : X.A.in1.units + 64 < cLine := by show X.A.units + 1 + 64 < cLine; omega
  refine unlike_rc (g := fun _ => true) p1.isList p2.isList hsz (by omega) (fun j h1 h2 => ?_) _ _ ?_
  · have k := items_run (itE_run I hu1) hp r1 r2 j (by simpa using h1) (by simpa using h2)
    simpa using k
  · rw [show ((List.range us.toArray.size).all fun _ => true) = true from List.all_eq_true.mpr fun _ _ => rfl]
    exact ⟨.bl false, H, I, rfl, q⟩
end
end Q

set_option maxHeartbeats 1000000
namespace Q
open PySem PySem.Spec L2
open PyProof.Rows hiding St

/-! ## data as the library compares it -/
mutual
def py : D → PyData
  | .non => .none
  | .bl b => .bool b
  | .int i => .int i
  | .str s => .str (toS s)
  | .tup ds => .tuple (pys ds)
  | .lst _ ds => .list (pys ds)
  | .dic _ _ => .none
  | .dct _ _ => .none
  | .ptu _ => .none
  | .fn _ => .none
termination_by structural x => x
def pys : List D → List PyData
  | [] => []
  | d :: r => py d :: pys r
termination_by structural x => x
end
theorem pys_map : ∀ ds : List D, pys ds = ds.map py
  | [] => rfl
  | d :: r => by rw [List.map_cons, ← pys_map r]; rfl
section
variable {K : PySem.W.Frag} {H : Hp} {U : Addr → Prop}
mutual
theorem dp_of : ∀ (d : D) (v : V) (L : List Addr), dep d < 100 → rep K H U d v L → Dp K H v (py d)
  | .non, v, L, n, h => by obtain ⟨rfl, _⟩ := h; exact .non
  | .bl b, v, L, n, h => by obtain ⟨rfl, _⟩ := h; exact .bl b
  | .int i, v, L, n, h => by obtain ⟨rfl, _⟩ := h; exact .int i
  | .str s, v, L, n, h => by obtain ⟨rfl, _, _⟩ := h; exact .str _
  | .tup ds, v, L, n, h => by
    obtain ⟨a, vs, ⟨rfl, _⟩, q, r⟩ := h
    have n' : deps ds + 1 < 100 := n
    exact .tup q (dps_of ds vs L (by omega) r)
  | .lst o ds, v, L, n, h => by
    obtain ⟨a, vs, L', rfl, q, r, _⟩ := sq_of_lst h
    have n' : deps ds + 1 < 100 := n
    exact .lst q (dps_of ds vs L' (by omega) r)
  | .dic o ds, v, L, n, h => absurd (show (100 : Nat) < 100 from n) (by omega)
  | .dct o ds, v, L, n, h => absurd (show (100 : Nat) < 100 from n) (by omega)
  | .ptu ks, v, L, n, h => absurd (show (100 : Nat) < 100 from n) (by omega)
  | .fn ks, v, L, n, h => absurd (show (100 : Nat) < 100 from n) (by omega)
termination_by structural d => d
theorem dps_of : ∀ (ds : List D) (vs : List V) (L : List Addr), deps ds < 100 → reps K H U ds vs L → DpAll K H vs (pys ds)
  | [], vs, L, n, h => by obtain ⟨rfl, _⟩ := h; exact .nil
  | d :: r, vs, L, n, h => by
    obtain ⟨v, vr, L1, L2, rfl, e2, h1, h2⟩ := h
    have n' : max (dep d) (deps r) < 100 := n
    exact .cons (dp_of d v L1 (by omega) h1) (dps_of r vr L2 (by omega) h2)
termination_by structural d => d
end
mutual
theorem lay_of : ∀ (d : D) (v : V) (L : List Addr), rep K H U d v L → (py d).canLay0 = true
  | .non, v, L, h => rfl
  | .bl b, v, L, h => rfl
  | .int i, v, L, h => rfl
  | .str s, v, L, h => by
    obtain ⟨_, k, _⟩ := h
    show (toS s).cps.all (fun c => decide (c < 0x110000)) = true
    have e : (toS s).cps.all (fun c => decide (c < 0x110000)) = s.all (fun c => decide (c < 0x110000)) := by simp [toS]
    rw [e]
    exact List.all_eq_true.mpr fun c hc => decide_eq_true (Nat.lt_trans (k.2 c hc) (by decide))
  | .tup ds, v, L, h => by
    obtain ⟨a, vs, _, q, r⟩ := h
    exact lays_of ds vs L r
  | .lst o ds, v, L, h => by
    obtain ⟨a, vs, L', _, q, r, _⟩ := sq_of_lst h
    exact lays_of ds vs L' r
  | .dic o ds, v, L, h => rfl
  | .dct o ds, v, L, h => rfl
  | .ptu ks, v, L, h => rfl
  | .fn ks, v, L, h => rfl
termination_by structural d => d
theorem lays_of : ∀ (ds : List D) (vs : List V) (L : List Addr), reps K H U ds vs L → PyData.canLayAll0 (pys ds) = true
  | [], vs, L, h => rfl
  | d :: r, vs, L, h => by
    obtain ⟨v, vr, L1, L2, rfl, e2, h1, h2⟩ := h
    show ((py d).canLay0 && PyData.canLayAll0 (pys r)) = true
    rw [lay_of d v L1 h1, lays_of r vr L2 h2]
    rfl
termination_by structural d => d
end
end
mutual
theorem depth_le : ∀ d : D, (py d).depth ≤ dep d
  | .non => Nat.le_refl _
  | .bl b => Nat.le_refl _
  | .int i => Nat.le_refl _
  | .str s => Nat.le_refl _
  | .tup ds => Nat.succ_le_succ (depths_le ds)
  | .lst o ds => Nat.succ_le_succ (depths_le ds)
  | .dic o ds => Nat.zero_le _
  | .dct o ds => Nat.zero_le _
  | .ptu ks => Nat.zero_le _
  | .fn ks => Nat.zero_le _
termination_by structural d => d
theorem depths_le : ∀ d : List D, PyData.depthAll (pys d) ≤ deps d
  | [] => Nat.le_refl _
  | d :: r => by
    have h1 := depth_le d
    have h2 := depths_le r
    show max (py d).depth (PyData.depthAll (pys r)) ≤ max (dep d) (deps r)
    omega
termination_by structural d => d
end
theorem shaped_of {K : PySem.W.Frag} {H : Hp} {U : Addr → Prop} {d : D} {v : V} {L : List Addr} (n : dep d ≤ 64) (h : rep K H U d v L) : SeqAt.shaped (py d) = true := by
  unfold SeqAt.shaped
  rw [lay_of d v L h, decide_eq_true (Nat.le_trans (depth_le d) n)]
  rfl
theorem toS_beq {s t : Cs} : (toS s == toS t) = (s == t) := by
  by_cases h : s = t
  · subst h; simp
  · rw [beq_eq_false_iff_ne.mpr h]
    exact beq_eq_false_iff_ne.mpr fun e => h (toS_inj e)
mutual
theorem deq_eqv : ∀ (x y : D), dep x < 100 → dep y < 100 → deq x y = PyData.eqv (py x) (py y)
  | .non, y, n, m => by cases y <;> first | rfl | (exact absurd (show (100 : Nat) < 100 from m) (by omega))
  | .bl a, y, n, m => by cases y <;> first | rfl | (exact absurd (show (100 : Nat) < 100 from m) (by omega))
  | .int a, y, n, m => by cases y <;> first | rfl | (exact absurd (show (100 : Nat) < 100 from m) (by omega))
  | .str s, y, n, m => by
    cases y <;> first | rfl | (exact absurd (show (100 : Nat) < 100 from m) (by omega)) | skip
    exact toS_beq.symm
  | .tup xs, y, n, m => by
    cases y <;> first | rfl | (exact absurd (show (100 : Nat) < 100 from m) (by omega)) | skip
    rename_i ys
    have n' : deps xs + 1 < 100 := n
    have m' : deps ys + 1 < 100 := m
    exact deqs_eqv xs ys (by omega) (by omega)
  | .lst o xs, y, n, m => by
    cases y <;> first | rfl | (exact absurd (show (100 : Nat) < 100 from m) (by omega)) | skip
    rename_i ys
    have n' : deps xs + 1 < 100 := n
    have m' : deps ys + 1 < 100 := m
    exact deqs_eqv xs ys (by omega) (by omega)
  | .dic o ds, y, n, m => absurd (show (100 : Nat) < 100 from n) (by omega)
  | .dct o ds, y, n, m => absurd (show (100 : Nat) < 100 from n) (by omega)
  | .ptu ks, y, n, m => absurd (show (100 : Nat) < 100 from n) (by omega)
  | .fn ks, y, n, m => absurd (show (100 : Nat) < 100 from n) (by omega)
termination_by structural d => d
theorem deqs_eqv : ∀ (x y : List D), deps x < 100 → deps y < 100 → deqs x y = PyData.eqvAll (pys x) (pys y)
  | [], y, n, m => by cases y <;> rfl
  | x :: xs, y, n, m => by
    cases y with
    | nil => rfl
    | cons y ys =>
      have n' : max (dep x) (deps xs) < 100 := n
      have m' : max (dep y) (deps ys) < 100 := m
      show (deq x y && deqs xs ys) = (PyData.eqv (py x) (py y) && PyData.eqvAll (pys xs) (pys ys))
      rw [deq_eqv x y (by omega) (by omega), deqs_eqv xs ys (by omega) (by omega)]
termination_by structural d => d
end

/-! ## == and != -/
theorem repk_length {K : PySem.W.Frag} {H : Hp} {U : Addr → Prop} : ∀ {ds : List (Ky × D)} {vs : List (Key × V)} {L : List Addr}, repk K H U ds vs L → vs.length = ds.length
  | [], vs, L, h => by rw [h.1]; rfl
  | d :: r, vs, L, h => by
    obtain ⟨v, vr, L1, L2, e, e2, h1, h2⟩ := h
    rw [e, List.length_cons, List.length_cons, repk_length h2]
theorem kyK_dec {a b : Ky} : decide (kyK a = kyK b) = decide (a = b) := by
  by_cases h : a = b
  · subst h; simp
  · rw [decide_eq_false h, decide_eq_false fun e => h (kyK_inj e)]
section
variable {K : PySem.W.Frag} {H : Hp} {U : Addr → Prop}
theorem repk_look : ∀ {ds : List (Ky × D)} {vs : List (Key × V)} {L : List Addr} {k : Ky} {d : D}, repk K H U ds vs L → lookD ds k = some d → ∃ v M, valV vs (kyK k) = some v ∧ rep K H U d v M ∧ (∀ a ∈ M, a ∈ L) ∧ (L.Nodup → M.Nodup)
  | [], vs, L, k, d, h, e => by cases e
  | (k', d') :: r, vs, L, k, d, h, e => by
    obtain ⟨v, vr, L1, L2, e1, e2, h1, h2⟩ := h
    subst e1 e2
    obtain ⟨h1k, h1d⟩ := h1
    by_cases q : k' = k
    · subst q
      have ed : d' = d := by simpa [lookD, List.find?_cons] using e
      subst ed
      exact ⟨v.2, L1, valV_pos h1k, h1d, fun a ha => List.mem_append_left _ ha, fun n => (List.nodup_append.mp n).1⟩
    · have e' : lookD r k = some d := by simpa [lookD, List.find?_cons, q] using e
      obtain ⟨w, M, q1, q2, q3, q4⟩ := repk_look h2 e'
      refine ⟨w, M, ?_, q2, fun a ha => List.mem_append_right _ (q3 a ha), fun n => q4 (List.nodup_append.mp n).2.1⟩
      rw [valV_neg (by rw [h1k]; exact fun z => q (kyK_inj z))]
      exact q1
theorem repk_lookN : ∀ {ds : List (Ky × D)} {vs : List (Key × V)} {L : List Addr} {k : Ky}, repk K H U ds vs L → lookD ds k = none → valV vs (kyK k) = none
  | [], vs, L, k, h, e => by obtain ⟨rfl, _⟩ := h; rfl
  | (k', d') :: r, vs, L, k, h, e => by
    obtain ⟨v, vr, L1, L2, e1, e2, h1, h2⟩ := h
    subst e1 e2
    obtain ⟨h1k, h1d⟩ := h1
    by_cases q : k' = k
    · subst q
      simp [lookD, List.find?_cons] at e
    · have e' : lookD r k = none := by simpa [lookD, List.find?_cons, q] using e
      rw [valV_neg (by rw [h1k]; exact fun z => q (kyK_inj z))]
      exact repk_lookN h2 e'
theorem repk_mem : ∀ {ds : List (Ky × D)} {vs : List (Key × V)} {L : List Addr}, repk K H U ds vs L → ∀ p ∈ vs, ∃ q ∈ ds, ∃ M, repp K H U q p M
  | [], vs, L, h, p, hp => by obtain ⟨rfl, _⟩ := h; cases hp
  | d :: r, vs, L, h, p, hp => by
    obtain ⟨v, vr, L1, L2, e1, e2, h1, h2⟩ := h
    subst e1
    rcases List.mem_cons.mp hp with rfl | hp
    · exact ⟨d, List.mem_cons_self, L1, h1⟩
    · obtain ⟨q, hq, M, z⟩ := repk_mem h2 p hp
      exact ⟨q, List.mem_cons_of_mem _ hq, M, z⟩
theorem sameF_rep {d e : D} {v w : V} {L M : List Addr} (s : sameF d e = true) (h : rep K H U d v L) (h' : rep K H U e w M) : v = w ∧ flatB v = true := by
  cases d <;> cases e <;> first | cases s | skip
  · obtain ⟨rfl, _⟩ := h; obtain ⟨rfl, _⟩ := h'; exact ⟨rfl, rfl⟩
  · obtain ⟨rfl, _⟩ := h; obtain ⟨rfl, _⟩ := h'; rw [eq_of_beq (show (_ == _) = true from s)]; exact ⟨rfl, rfl⟩
  · obtain ⟨rfl, _⟩ := h; obtain ⟨rfl, _⟩ := h'; rw [eq_of_beq (show (_ == _) = true from s)]; exact ⟨rfl, rfl⟩
  · obtain ⟨rfl, _⟩ := h; obtain ⟨rfl, _⟩ := h'; rw [eq_of_beq (show (_ == _) = true from s)]; exact ⟨rfl, rfl⟩
theorem dicEq_ok {a b : List (Ky × D)} {ks ls : List (Key × V)} {L M : List Addr} (e : dicEq a b = true) (h : repk K H U a ks L) (h' : repk K H U b ls M) : ks.length = ls.length ∧ ∀ p ∈ ks, valV ls p.1 = some p.2 ∧ flatB p.2 = true := by
  obtain ⟨e1, e2⟩ := Bool.and_eq_true_iff.mp e
  refine ⟨by rw [repk_length h, repk_length h']; exact of_decide_eq_true e1, fun p hp => ?_⟩
  obtain ⟨⟨k, d⟩, hq, N, z1, z2⟩ := repk_mem h p hp
  have q := List.all_eq_true.mp e2 (k, d) hq
  dsimp only at q z1 z2
  split at q
  · rename_i x hx
    obtain ⟨v, M', q1, q2, _⟩ := repk_look h' hx
    obtain ⟨rfl, f⟩ := sameF_rep q z2 q2
    rw [z1]
    exact ⟨q1, f⟩
  · cases q
end
section
variable {K : PySem.W.Frag}
theorem ofB_ok {x : R Bool} {d : D} (h : ofB x = .ok d) : ∃ b, x = .ok b ∧ d = .bl b := by
  cases x with
  | ok b => exact ⟨b, rfl, (R.ok.inj h).symm⟩
  | exc e => cases h
  | bad => cases h
theorem nt_ok {x : R Bool} {b : Bool} (h : x.nt = .ok b) : x = .ok (!b) := by
  cases x with
  | ok c => have := R.ok.inj h; subst this; simp
  | exc e => cases h
  | bad => cases h
theorem eqD_cases {x y : D} {b : Bool} (h : eqD x y = .ok b) : (∃ o o' p q, x = .dic o p ∧ y = .dic o' q ∧ dicEq p q = true ∧ b = true) ∨ (dep x ≤ 64 ∧ dep y ≤ 64 ∧ b = deq x y) ∨ (∃ o o' p q, x = .lst o p ∧ y = .lst o' q ∧ itemsEq p q = true ∧ b = true) ∨ ∃ ks, x = .ptu ks ∧ y = .ptu [] ∧ b = ks.isEmpty := by
  unfold eqD at h
  split at h
  · split at h <;> cases h
    rename_i z
    exact .inl ⟨_, _, _, _, rfl, rfl, z, rfl⟩
  · split at h
    · cases h
      rename_i z
      exact .inr (.inl ⟨z.1, z.2, rfl⟩)
    · split at h <;> cases h
      rename_i z
      exact .inr (.inr (.inl ⟨_, _, _, _, rfl, rfl, z, rfl⟩))
  · split at h <;> cases h
    rename_i z
    subst z
    exact .inr (.inr (.inr ⟨_, rfl, rfl, rfl⟩))
  · split at h <;> cases h
    rename_i z
    exact .inr (.inl ⟨z.1, z.2, rfl⟩)
theorem dep_odds (ks : List (Cs × Int)) : dep (.tup (ks.map fun kv => D.tup [.str kv.1, .int kv.2])) ≤ 2 := by
  have : deps (ks.map fun kv => D.tup [.str kv.1, .int kv.2]) ≤ 1 := by
    induction ks with
    | nil => exact Nat.zero_le _
    | cons k r ih => exact Nat.max_le.mpr ⟨Nat.le_refl 1, ih⟩
  show deps _ + 1 ≤ 2
  omega
theorem deq_odds (ks : List (Cs × Int)) : deq (.tup (ks.map fun kv => D.tup [.str kv.1, .int kv.2])) (.tup []) = ks.isEmpty := by cases ks <;> rfl
theorem itemEq_rep {H : Hp} {U : Addr → Prop} {x y : D} {v u : V} {L M : List Addr} (h : itemEq x y = true) (rx : rep K H U x v L) (ry : rep K H U y u M) : ItE K H v u := by
  have flat : ∀ d e : D, dep d ≤ 64 → dep e ≤ 64 → deq d e = true → rep K H U d v L → rep K H U e u M → ItE K H v u := fun d e h1 h2 h3 r1 r2 => .inl ⟨py d, py e, dp_of _ _ _ (by omega) r1, dp_of _ _ _ (by omega) r2, shaped_of h1 r1, shaped_of h2 r2, by rw [← deq_eqv d e (by omega) (by omega)]; exact h3⟩
  unfold itemEq at h
  split at h
  · obtain ⟨a, ks, L', rfl, r1, h1, _⟩ := rx
    obtain ⟨a', ls, M', rfl, r2, h2, _⟩ := ry
    obtain ⟨q1, q2⟩ := dicEq_ok h r1.1 r2.1
    refine .inr (.inr (.inr (.inr ⟨a, a', ks, ls, rfl, rfl, h1, h2, q1, fun p hp => ?_⟩)))
    obtain ⟨e1, e2⟩ := q2 p hp
    exact ⟨_, e1, .inl ⟨rfl, e2⟩⟩
  · obtain ⟨h1, h2⟩ := Bool.and_eq_true_iff.mp h
    obtain ⟨h2, h3⟩ := Bool.and_eq_true_iff.mp h2
    exact flat _ _ (of_decide_eq_true h1) (of_decide_eq_true h2) h3 rx ry
theorem itemsEq_rep {H : Hp} {U : Addr → Prop} : ∀ {xs ys : List D} {vs us : List V} {L M : List Addr}, itemsEq xs ys = true → reps K H U xs vs L → reps K H U ys us M → Paired (ItE K H) vs us
  | [], [], vs, us, L, M, h, rx, ry => by
    obtain ⟨rfl, _⟩ := rx
    obtain ⟨rfl, _⟩ := ry
    exact .nil
  | x :: xs, y :: ys, vs, us, L, M, h, rx, ry => by
    obtain ⟨h1, h2⟩ := Bool.and_eq_true_iff.mp (show (itemEq x y && itemsEq xs ys) = true from h)
    obtain ⟨v, vr, L1, L2, rfl, _, r1, r2⟩ := rx
    obtain ⟨u, ur, M1, M2, rfl, _, q1, q2⟩ := ry
    exact .cons (itemEq_rep h1 r1 q1) (itemsEq_rep h2 r2 q2)
  | [], y :: ys, vs, us, L, M, h, rx, ry => nomatch h
  | x :: xs, [], vs, us, L, M, h, rx, ry => nomatch h
theorem lst_sq {H : Hp} {U : Addr → Prop} {o : O} {ds : List D} {v : V} {L : List Addr} (h : rep K H U (.lst o ds) v L) : ∃ a vs L', v = .ref a ∧ SqL K H a vs ∧ reps K H U ds vs L' := by
  obtain ⟨a, vs, L', ⟨rfl, _⟩, r, z⟩ := h
  refine ⟨a, vs, L', rfl, ?_, r⟩
  rcases z with ⟨_, q, _⟩ | ⟨_, q, _⟩ | ⟨_, q, _⟩
  · exact .of q
  · exact .of q
  · exact q.sq
theorem eq_ok : OpOk K (fun x y => ofB (cmpop .eq x y)) (fun x y H Q => rEqD K x y H Q ∨ rEqDA x y H Q ∨ rEqW K x y H Q) := by
  intro H U L M dx dy d x y Q e rx ry n hu fin
  have e1 := ofB_ok e
  clear e
  obtain ⟨b, e, rfl⟩ := e1
  rcases eqD_cases e with ⟨o, o', p, q, rfl, rfl, z, rfl⟩ | ⟨z1, z2, rfl⟩ | ⟨o, o', p, q, rfl, rfl, z, rfl⟩ | ⟨ks, rfl, rfl, rfl⟩
  · obtain ⟨a, ks, L', rfl, r1, h1, _⟩ := rx
    obtain ⟨a', ls, M', rfl, r2, h2, _⟩ := ry
    obtain ⟨q1, q2⟩ := dicEq_ok z r1.1 r2.1
    exact .inr (.inl ⟨a, a', ks, ls, rfl, rfl, h1, h2, q1, q2, fin.bl⟩)
  · refine .inl ⟨py dx, py dy, dp_of _ _ _ (by omega) rx, dp_of _ _ _ (by omega) ry, shaped_of z1 rx, shaped_of z2 ry, ?_⟩
    rw [← deq_eqv dx dy (by omega) (by omega)]
    exact fin.bl
  · obtain ⟨a, vs, L', rfl, h1, r1⟩ := lst_sq rx
    obtain ⟨a', us, M', rfl, h2, r2⟩ := lst_sq ry
    exact .inr (.inr ⟨a, a', vs, us, rfl, rfl, h1, h2, itemsEq_rep z r1 r2, fin.bl⟩)
  · have d1 := dep_odds ks
    have rx' := ptu_tup rx
    have ry' : rep K H _ (.tup []) y M := ptu_tup ry
    refine .inl ⟨py (.tup (ks.map fun kv => D.tup [.str kv.1, .int kv.2])), py (.tup []), dp_of _ _ _ (by omega) rx', dp_of _ _ _ (by decide) ry', shaped_of (by omega) rx', shaped_of (by decide) ry', ?_⟩
    rw [← deq_eqv _ _ (by omega) (by decide), deq_odds]
    exact fin.bl
theorem ne_ok : OpOk K (fun x y => ofB (cmpop .ne x y)) (fun x y H Q => rNeD K x y H Q ∨ rNeDA x y H Q ∨ rNeW K x y H Q) := by
  intro H U L M dx dy d x y Q e rx ry n hu fin
  have e1 := ofB_ok e
  clear e
  obtain ⟨b, e, rfl⟩ := e1
  have e' : eqD dx dy = .ok (!b) := nt_ok e
  rcases eqD_cases e' with ⟨o, o', p, q, rfl, rfl, z, zb⟩ | ⟨z1, z2, zb⟩ | ⟨o, o', p, q, rfl, rfl, z, zb⟩ | ⟨ks, rfl, rfl, zb⟩
  · obtain ⟨a, ks, L', rfl, r1, h1, _⟩ := rx
    obtain ⟨a', ls, M', rfl, r2, h2, _⟩ := ry
    obtain ⟨q1, q2⟩ := dicEq_ok z r1.1 r2.1
    have hb : b = false := by simpa using zb
    subst hb
    exact .inr (.inl ⟨a, a', ks, ls, rfl, rfl, h1, h2, q1, q2, fin.bl⟩)
  · refine .inl ⟨py dx, py dy, dp_of _ _ _ (by omega) rx, dp_of _ _ _ (by omega) ry, shaped_of z1 rx, shaped_of z2 ry, ?_⟩
    rw [← deq_eqv dx dy (by omega) (by omega), ← zb, Bool.not_not]
    exact fin.bl
  · obtain ⟨a, vs, L', rfl, h1, r1⟩ := lst_sq rx
    obtain ⟨a', us, M', rfl, h2, r2⟩ := lst_sq ry
    have hb : b = false := by simpa using zb
    subst hb
    exact .inr (.inr ⟨a, a', vs, us, rfl, rfl, h1, h2, itemsEq_rep z r1 r2, fin.bl⟩)
  · have d1 := dep_odds ks
    have rx' := ptu_tup rx
    have ry' : rep K H _ (.tup []) y M := ptu_tup ry
    refine .inl ⟨py (.tup (ks.map fun kv => D.tup [.str kv.1, .int kv.2])), py (.tup []), dp_of _ _ _ (by omega) rx', dp_of _ _ _ (by decide) ry', shaped_of (by omega) rx', shaped_of (by decide) ry', ?_⟩
    rw [← deq_eqv _ _ (by omega) (by decide), deq_odds, ← zb, Bool.not_not]
    exact fin.bl
theorem eqD_ne {x y : D} {e : Ex} : eqD x y ≠ .exc e := by
  unfold eqD
  split <;> split <;> (try split) <;> simp
theorem nt_ne {x : R Bool} {e : Ex} (h : x ≠ .exc e) : x.nt ≠ .exc e := by
  cases x <;> simp_all [R.nt]
theorem ofB_ne {x : R Bool} {e : Ex} (h : x ≠ .exc e) : ofB x ≠ .exc e := by
  cases x <;> simp_all [ofB]

/-! ## order -/
theorem intsOf_some : ∀ {ds : List D} {ns : List Int}, intsOf ds = some ns → ds = ns.map D.int
  | [], ns, h => by cases h; rfl
  | d :: r, ns, h => by
    cases d <;> first | cases h | skip
    rename_i i
    obtain ⟨ms, e1, e2⟩ := Option.map_eq_some_iff.mp (show (intsOf r).map (i :: ·) = some ns from h)
    rw [← e2, intsOf_some e1]
    rfl
theorem strsOf_some : ∀ {ds : List D} {ns : List Cs}, strsOf ds = some ns → ds = ns.map D.str
  | [], ns, h => by cases h; rfl
  | d :: r, ns, h => by
    cases d <;> first | cases h | skip
    rename_i i
    obtain ⟨ms, e1, e2⟩ := Option.map_eq_some_iff.mp (show (strsOf r).map (i :: ·) = some ns from h)
    rw [← e2, strsOf_some e1]
    rfl
theorem blsOf_some : ∀ {ds : List D} {ns : List Bool}, blsOf ds = some ns → ds = ns.map D.bl
  | [], ns, h => by cases h; rfl
  | d :: r, ns, h => by
    cases d <;> first | cases h | skip
    rename_i i
    obtain ⟨ms, e1, e2⟩ := Option.map_eq_some_iff.mp (show (blsOf r).map (i :: ·) = some ns from h)
    rw [← e2, blsOf_some e1]
    rfl
theorem ltD_cases {x y : D} {b : Bool} (h : ltD x y = .ok b) : (∃ i j, x = .int i ∧ y = .int j ∧ b = decide (i < j)) ∨ (∃ i j, x = .str i ∧ y = .str j ∧ b = decide (i < j)) ∨ ∃ p q, x = .tup (p.map D.int) ∧ y = .tup (q.map D.int) ∧ b = HT.lexLt p q := by
  unfold ltD at h
  split at h
  · cases h; exact .inl ⟨_, _, rfl, rfl, rfl⟩
  · cases h; exact .inr (.inl ⟨_, _, rfl, rfl, rfl⟩)
  · split at h <;> cases h
    rename_i e1 e2
    exact .inr (.inr ⟨_, _, by rw [intsOf_some e1], by rw [intsOf_some e2], rfl⟩)
  · cases h
theorem ltD_ne {x y : D} {e : Ex} : ltD x y ≠ .exc e := by
  unfold ltD
  split <;> (try split) <;> simp
theorem tupI {H : Hp} {U : Addr → Prop} {p : List Int} {v : V} {L : List Addr} (h : rep K H U (.tup (p.map D.int)) v L) : ∃ a, v = .ref a ∧ SqT K H a (p.map V.int) := by
  obtain ⟨a, vs, ⟨e, _⟩, q, r⟩ := h
  obtain ⟨rfl, _⟩ := reps_ints r
  exact ⟨a, e, q⟩
theorem toS_list {s : Cs} : (toS s).cps.toList = s := by simp [toS]
def rLtX (K : PySem.W.Frag) : R2 := fun x y H Q => rI0 (fun i j => .bl (decide (i < j))) x y H Q ∨ (∃ i j, x = .str i ∧ y = .str j ∧ Q (.bl (decide (i.cps.toList < j.cps.toList))) H) ∨ rLtT K x y H Q
theorem lt_ok : OpOk K (fun x y => ofB (cmpop .lt x y)) (fun x y H Q => rI0 (fun i j => .bl (decide (i < j))) x y H Q ∨ (∃ i j, x = .str i ∧ y = .str j ∧ Q (.bl (decide (i.cps.toList < j.cps.toList))) H) ∨ rLtT K x y H Q) := by
  intro H U L M dx dy d x y Q e rx ry n hu fin
  have e1 := ofB_ok e
  clear e
  obtain ⟨b, e, rfl⟩ := e1
  rcases ltD_cases e with ⟨i, j, rfl, rfl, rfl⟩ | ⟨i, j, rfl, rfl, rfl⟩ | ⟨p, q, rfl, rfl, rfl⟩
  · obtain ⟨rfl, _⟩ := rx; obtain ⟨rfl, _⟩ := ry
    exact .inl ⟨_, _, rfl, rfl, fin.bl⟩
  · obtain ⟨rfl, _⟩ := rx; obtain ⟨rfl, _⟩ := ry
    refine .inr (.inl ⟨_, _, rfl, rfl, ?_⟩)
    rw [toS_list, toS_list]
    exact fin.bl
  · obtain ⟨a, rfl, ha⟩ := tupI rx
    obtain ⟨a', rfl, ha'⟩ := tupI ry
    exact .inr (.inr ⟨a, a', p, q, rfl, rfl, ha, ha', fin.bl⟩)
theorem lexAt_gt : ∀ (ns ms : List Int) (f g : Nat → Int) (z : Bool) (k : Nat), (∀ j, j < ns.length → f (k + j) = ns.getD j 0) → (∀ j, j < ms.length → g (k + j) = ms.getD j 0) → z = decide (ns.length > ms.length) →
    Ob.lexAt (fun j => decide (f j = g j)) (fun j => decide (g j < f j)) z k (min ns.length ms.length) = HT.lexLt ms ns
  | [], [], f, g, z, k, hf, hg, hz => by rw [hz]; rfl
  | [], m :: ms, f, g, z, k, hf, hg, hz => by rw [hz]; simp [Ob.lexAt, HT.lexLt]
  | n :: ns, [], f, g, z, k, hf, hg, hz => by rw [hz]; simp [Ob.lexAt, HT.lexLt]
  | n :: ns, m :: ms, f, g, z, k, hf, hg, hz => by
    have f0 : f k = n := by simpa using hf 0 (by simp)
    have g0 : g k = m := by simpa using hg 0 (by simp)
    have e : min (n :: ns).length (m :: ms).length = min ns.length ms.length + 1 := by simp only [List.length_cons]; omega
    rw [e, Ob.lexAt_succ, HT.lexLt_cons, f0, g0]
    by_cases q : n = m
    · subst q
      rw [if_pos (by simp), if_pos rfl]
      refine lexAt_gt ns ms f g z (k + 1) (fun j hj => ?_) (fun j hj => ?_) (by rw [hz]; simp only [List.length_cons, Nat.add_lt_add_iff_right, gt_iff_lt])
      · have := hf (j + 1) (by simpa using hj)
        rw [show k + 1 + j = k + (j + 1) by omega]; simpa using this
      · have := hg (j + 1) (by simpa using hj)
        rw [show k + 1 + j = k + (j + 1) by omega]; simpa using this
    · rw [if_neg (by simpa using q), if_neg fun z => q z.symm]
def rGtT (K : PySem.W.Frag) : R2 := fun x y H Q => ∃ a b ns ms, x = .ref a ∧ y = .ref b ∧ SqT K H a (ns.map V.int) ∧ SqT K H b (ms.map V.int) ∧ Q (.bl (HT.lexLt ms ns)) H
theorem op_gtT {X : Cx} (hu : X.A.units < cLine) : OpR X (compareOp .Gt) (rGtT X.K) := by
  intro pins s σ H x y v u Q I rx ry h
  obtain ⟨a, b, ns, ms, rfl, rfl, ha, hb, q⟩ := h
  cases rx
  cases ry
  obtain ⟨its, r1, p1, _⟩ := I.tuple ha
  obtain ⟨its2, r2, p2, _⟩ := I.tuple hb
  have i1 : IntsAre its ns := Vals.ints r1
  have i2 : IntsAre its2 ms := Vals.ints r2
  have e1 : its.toArray.size = ns.length := by rw [List.size_toArray]; exact i1.length
  have e2 : its2.toArray.size = ms.length := by rw [List.size_toArray]; exact i2.length
  have at1 : ∀ j (h1 : j < its.toArray.size), ∃ t, its.toArray[j] = .int (ns.getD j 0) t := fun j h1 => PyProof.Rows.IntsAre.int_at i1 _ _ (by simp at h1; simp [h1])
  have at2 : ∀ j (h1 : j < its2.toArray.size), ∃ t, its2.toArray[j] = .int (ms.getD j 0) t := fun j h1 => PyProof.Rows.IntsAre.int_at i2 _ _ (by simp at h1; simp [h1])
  have R := Ob.RcOp.tuples_gt (A := X.A) (s := s) (e := fun j => decide (ns.getD j 0 = ms.getD j 0)) (r := fun j => decide (ms.getD j 0 < ns.getD j 0)) p1 p2 hu (fun j h1 h2 => by
    obtain ⟨t, et⟩ := at1 j h1
    obtain ⟨t', et'⟩ := at2 j h2
    rw [et, et']
    have z : (ns.getD j 0 == ms.getD j 0) = decide (ns.getD j 0 = ms.getD j 0) := by
      by_cases q : ns.getD j 0 = ms.getD j 0
      · rw [decide_eq_true q]; exact beq_iff_eq.mpr q
      · rw [decide_eq_false q]; exact beq_eq_false_iff_ne.mpr q
    rw [← z]
    exact SeqAt.EqAt.int_int _ _ _ _) (fun j h1 h2 _ => by
    obtain ⟨t, et⟩ := at1 j h1
    obtain ⟨t', et'⟩ := at2 j h2
    rw [et, et']
    exact Ob.RcOp.gt_int _ _ _ _)
  rw [e1, e2, lexAt_gt ns ms (fun j => ns.getD j 0) (fun j => ms.getD j 0) _ 0 (fun j _ => by rw [Nat.zero_add]) (fun j _ => by rw [Nat.zero_add]) rfl] at R
  have z : wpAny (model X.prog X.w) X.A (compareOp .Gt (.ref a) (.ref b)) (EP X pins σ Q) X.xe s := R X.prog X.w X.xe (EP X pins σ Q) ⟨.bl _, H, I, rfl, q⟩
  exact z
theorem firstLt_gt : ∀ (ns ms : List Int) (f g : Nat → Int) (z : Bool) (k : Nat), (∀ j, j < ns.length → f (k + j) = ns.getD j 0) → (∀ j, j < ms.length → g (k + j) = ms.getD j 0) → z = decide (ns.length > ms.length) →
    SeqAt.firstLt (fun j => decide (f j = g j)) (fun j => decide (g j < f j)) z (List.range' k (min ns.length ms.length)) = HT.lexLt ms ns
  | [], [], f, g, z, k, hf, hg, hz => by rw [hz]; rfl
  | [], m :: ms, f, g, z, k, hf, hg, hz => by rw [hz]; simp [SeqAt.firstLt, HT.lexLt]
  | n :: ns, [], f, g, z, k, hf, hg, hz => by rw [hz]; simp [SeqAt.firstLt, HT.lexLt]
  | n :: ns, m :: ms, f, g, z, k, hf, hg, hz => by
    have f0 : f k = n := by simpa using hf 0 (by simp)
    have g0 : g k = m := by simpa using hg 0 (by simp)
    have e : min (n :: ns).length (m :: ms).length = min ns.length ms.length + 1 := by simp only [List.length_cons]; omega
    have e2 : List.range' k (min ns.length ms.length + 1) = k :: List.range' (k + 1) (min ns.length ms.length) := rfl
    rw [e, e2, HT.lexLt_cons]
    show (if decide (f k = g k) = true then SeqAt.firstLt _ _ z (List.range' (k + 1) _) else decide (g k < f k)) = _
    rw [f0, g0]
    by_cases q : n = m
    · subst q
      rw [if_pos (by simp), if_pos rfl]
      refine firstLt_gt ns ms f g z (k + 1) (fun j hj => ?_) (fun j hj => ?_) (by rw [hz]; simp only [List.length_cons, Nat.add_lt_add_iff_right, gt_iff_lt])
      · have := hf (j + 1) (by simpa using hj)
        rw [show k + 1 + j = k + (j + 1) by omega]; simpa using this
      · have := hg (j + 1) (by simpa using hj)
        rw [show k + 1 + j = k + (j + 1) by omega]; simpa using this
    · rw [if_neg (by simpa using q), if_neg fun z => q z.symm]
def rGtL (K : PySem.W.Frag) : R2 := fun x y H Q => ∃ a b ns ms, x = .ref a ∧ y = .ref b ∧ SqL K H a (ns.map V.int) ∧ SqL K H b (ms.map V.int) ∧ Q (.bl (HT.lexLt ms ns)) H
theorem op_gtL {X : Cx} (hu : X.A.units < cLine) : OpR X (compareOp .Gt) (rGtL X.K) := by
  intro pins s σ H x y v u Q I rx ry h
  obtain ⟨a, b, ns, ms, rfl, rfl, ha, hb, q⟩ := h
  cases rx
  cases ry
  obtain ⟨its, r1, p1, _⟩ := I.list ha
  obtain ⟨its2, r2, p2, _⟩ := I.list hb
  have i1 : IntsAre its ns := Vals.ints r1
  have i2 : IntsAre its2 ms := Vals.ints r2
  have e1 : its.toArray.size = ns.length := by rw [List.size_toArray]; exact i1.length
  have e2 : its2.toArray.size = ms.length := by rw [List.size_toArray]; exact i2.length
  have at1 : ∀ j (h1 : j < its.toArray.size), ∃ t, its.toArray[j] = .int (ns.getD j 0) t := fun j h1 => PyProof.Rows.IntsAre.int_at i1 _ _ (by simp at h1; simp [h1])
  have at2 : ∀ j (h1 : j < its2.toArray.size), ∃ t, its2.toArray[j] = .int (ms.getD j 0) t := fun j h1 => PyProof.Rows.IntsAre.int_at i2 _ _ (by simp at h1; simp [h1])
  have R := SeqAt.RcOp.lists_gt (A := X.A) (s := s) (e := fun j => decide (ns.getD j 0 = ms.getD j 0)) (r := fun j => decide (ms.getD j 0 < ns.getD j 0)) p1.isList p2.isList hu (fun j h1 h2 => by
    obtain ⟨t, et⟩ := at1 j h1
    obtain ⟨t', et'⟩ := at2 j h2
    rw [et, et']
    have z : (ns.getD j 0 == ms.getD j 0) = decide (ns.getD j 0 = ms.getD j 0) := by
      by_cases q : ns.getD j 0 = ms.getD j 0
      · rw [decide_eq_true q]; exact beq_iff_eq.mpr q
      · rw [decide_eq_false q]; exact beq_eq_false_iff_ne.mpr q
    rw [← z]
    exact SeqAt.EqAt.int_int _ _ _ _) (fun j h1 h2 _ => by
    obtain ⟨t, et⟩ := at1 j h1
    obtain ⟨t', et'⟩ := at2 j h2
    rw [et, et']
    exact Ob.RcOp.gt_int _ _ _ _)
  rw [e1, e2, List.range_eq_range', firstLt_gt ns ms (fun j => ns.getD j 0) (fun j => ms.getD j 0) _ 0 (fun j _ => by rw [Nat.zero_add]) (fun j _ => by rw [Nat.zero_add]) rfl] at R
  have z : wpAny (model X.prog X.w) X.A (compareOp .Gt (.ref a) (.ref b)) (EP X pins σ Q) X.xe s := R X.prog X.w X.xe (EP X pins σ Q) ⟨.bl _, H, I, rfl, q⟩
  exact z
theorem gtD_cases {x y : D} {b : Bool} (h : gtD x y = .ok b) : ltD y x = .ok b ∨ ∃ o o' p q, x = .lst o (p.map D.int) ∧ y = .lst o' (q.map D.int) ∧ b = HT.lexLt q p := by
  unfold gtD at h
  split at h
  · split at h <;> cases h
    rename_i e1 e2
    exact .inr ⟨_, _, _, _, by rw [intsOf_some e1], by rw [intsOf_some e2], rfl⟩
  · exact .inl h
theorem gtD_ne {x y : D} {e : Ex} : gtD x y ≠ .exc e := by
  unfold gtD
  split
  · split <;> simp
  · exact ltD_ne
theorem lstI {H : Hp} {U : Addr → Prop} {o : O} {p : List Int} {v : V} {L : List Addr} (h : rep K H U (.lst o (p.map D.int)) v L) : ∃ a, v = .ref a ∧ SqL K H a (p.map V.int) := by
  obtain ⟨a, vs, L', e, q, r⟩ := lst_sq h
  obtain ⟨rfl, _⟩ := reps_ints r
  exact ⟨a, e, q⟩
theorem gt_ok : OpOk K (fun x y => ofB (cmpop .gt x y)) (fun x y H Q => rI0 (fun i j => .bl (decide (j < i))) x y H Q ∨ (∃ i j, x = .str i ∧ y = .str j ∧ Q (.bl (decide (j.cps.toList < i.cps.toList))) H) ∨ rGtT K x y H Q ∨ rGtL K x y H Q) := by
  intro H U L M dx dy d x y Q e rx ry n hu fin
  have e1 := ofB_ok e
  clear e
  obtain ⟨b, e, rfl⟩ := e1
  have e : gtD dx dy = .ok b := e
  rcases gtD_cases e with e | ⟨o, o', p, q, rfl, rfl, rfl⟩
  rotate_left
  · obtain ⟨a, rfl, ha⟩ := lstI rx
    obtain ⟨a', rfl, ha'⟩ := lstI ry
    exact .inr (.inr (.inr ⟨a, a', p, q, rfl, rfl, ha, ha', fin.bl⟩))
  rcases ltD_cases e with ⟨i, j, rfl, rfl, rfl⟩ | ⟨i, j, rfl, rfl, rfl⟩ | ⟨p, q, rfl, rfl, rfl⟩
  · obtain ⟨rfl, _⟩ := rx; obtain ⟨rfl, _⟩ := ry
    exact .inl ⟨_, _, rfl, rfl, fin.bl⟩
  · obtain ⟨rfl, _⟩ := rx; obtain ⟨rfl, _⟩ := ry
    refine .inr (.inl ⟨_, _, rfl, rfl, ?_⟩)
    rw [toS_list, toS_list]
    exact fin.bl
  · obtain ⟨a, rfl, ha⟩ := tupI rx
    obtain ⟨a', rfl, ha'⟩ := tupI ry
    exact .inr (.inr (.inl ⟨a, a', q, p, rfl, rfl, ha, ha', fin.bl⟩))
theorem le_ok : OpOk K (fun x y => ofB (cmpop .le x y)) (fun x y H Q => rI0 (fun i j => .bl (decide (i ≤ j))) x y H Q ∨ ∃ i j, x = .str i ∧ y = .str j ∧ Q (.bl (!decide (j.cps.toList < i.cps.toList))) H) := by
  intro H U L M dx dy d x y Q e rx ry n hu fin
  have e1 := ofB_ok e
  clear e
  obtain ⟨b, e, rfl⟩ := e1
  cases dx <;> cases dy <;> first | (cases (show R.bad = R.ok b from e)) | skip
  · cases e
    obtain ⟨rfl, _⟩ := rx; obtain ⟨rfl, _⟩ := ry
    exact .inl ⟨_, _, rfl, rfl, fin.bl⟩
  · cases e
    obtain ⟨rfl, _⟩ := rx; obtain ⟨rfl, _⟩ := ry
    refine .inr ⟨_, _, rfl, rfl, ?_⟩
    rw [toS_list, toS_list]
    exact fin.bl
theorem ge_ok : OpOk K (fun x y => ofB (cmpop .ge x y)) (fun x y H Q => rI0 (fun i j => .bl (decide (j ≤ i))) x y H Q ∨ ∃ i j, x = .str i ∧ y = .str j ∧ Q (.bl (!decide (i.cps.toList < j.cps.toList))) H) := by
  intro H U L M dx dy d x y Q e rx ry n hu fin
  have e1 := ofB_ok e
  clear e
  obtain ⟨b, e, rfl⟩ := e1
  cases dx <;> cases dy <;> first | (cases (show R.bad = R.ok b from e)) | skip
  · cases e
    obtain ⟨rfl, _⟩ := rx; obtain ⟨rfl, _⟩ := ry
    exact .inl ⟨_, _, rfl, rfl, fin.bl⟩
  · cases e
    obtain ⟨rfl, _⟩ := rx; obtain ⟨rfl, _⟩ := ry
    refine .inr ⟨_, _, rfl, rfl, ?_⟩
    rw [toS_list, toS_list]
    exact fin.bl
theorem le_ne {x y : D} {e : Ex} : cmpop .le x y ≠ .exc e := by cases x <;> cases y <;> simp [cmpop]
theorem ge_ne {x y : D} {e : Ex} : cmpop .ge x y ≠ .exc e := by cases x <;> cases y <;> simp [cmpop]
end
end Q

set_option maxHeartbeats 1000000
namespace Q
open PySem PySem.Spec L2
open PyProof.Rows hiding St

/-! ## in, is -/
section
variable {K : PySem.W.Frag}
def rInDict : R2 := fun y x H Q => ∃ a o, x = .ref a ∧ DGet H a y o ∧ Q (.bl o.isSome) H
def rNotInDict : R2 := fun y x H Q => ∃ a o, x = .ref a ∧ DGet H a y o ∧ Q (.bl (!o.isSome)) H
theorem op_in_dict {X : Cx} (hu : X.A.units + 1 < cLine) : OpR X (compareOp .In) rInDict := by
  intro pins s σ H y x u v Q I ry rx h
  obtain ⟨a, o, ex, g, q⟩ := h
  subst ex
  obtain rfl : v = Value.ref a := rx
  exact d_in hu I g ry fun s' I' => ⟨.bl o.isSome, H, I', rfl, q⟩
theorem op_notIn_dict {X : Cx} (hu : X.A.units + 1 < cLine) : OpR X (compareOp .NotIn) rNotInDict := by
  intro pins s σ H y x u v Q I ry rx h
  obtain ⟨a, o, ex, g, q⟩ := h
  subst ex
  obtain rfl : v = Value.ref a := rx
  exact d_notIn hu I g ry fun s' I' => ⟨.bl (!o.isSome), H, I', rfl, q⟩
theorem keyD_rep {H : Hp} {U : Addr → Prop} {d : D} {k : Ky} {v : V} {L : List Addr} (e : keyD d = some k) (h : rep K H U d v L) : v = kV (kyK k) := by
  cases d <;> cases e
  · obtain ⟨rfl, _⟩ := h; rfl
  · obtain ⟨rfl, _⟩ := h; rfl
theorem deq_flat {H : Hp} {U : Addr → Prop} {d e : D} {v w : V} {L M : List Addr} (f : flatD d = true) (g : flatD e = true) (h : rep K H U d v L) (h' : rep K H U e w M) : L2.eqV v w = deq d e ∧ flatV v = true ∧ flatV w = true := by
  cases d <;> first | cases f | skip
  all_goals
    obtain ⟨rfl, _⟩ := h
    cases e <;> first | cases g | skip
  all_goals
    obtain ⟨rfl, _⟩ := h'
    refine ⟨?_, rfl, rfl⟩
    first | rfl | exact toS_beq
theorem any_flat {H : Hp} {U : Addr → Prop} {x : D} {v : V} {L : List Addr} (fx : flatD x = true) (hx : rep K H U x v L) : ∀ {ds : List D} {vs : List V} {M : List Addr}, ds.all flatD = true → reps K H U ds vs M → inV v vs = (ds.any fun z => deq z x) ∧ vs.all flatV = true
  | [], vs, M, f, h => by obtain ⟨rfl, _⟩ := h; exact ⟨rfl, rfl⟩
  | d :: r, vs, M, f, h => by
    obtain ⟨w, vr, L1, L2, rfl, e2, h1, h2⟩ := h
    obtain ⟨f1, f2⟩ := Bool.and_eq_true_iff.mp (show (flatD d && r.all flatD) = true by simpa using f)
    obtain ⟨q1, q2⟩ := any_flat fx hx f2 h2
    obtain ⟨e, _, fw⟩ := deq_flat f1 fx h1 hx
    have q1' : (vr.any fun y => eqV y v) = (r.any fun z => deq z x) := q1
    exact ⟨by show ((eqV w v) || vr.any fun y => eqV y v) = (deq d x || r.any fun z => deq z x); rw [e, q1'], by rw [List.all_cons, (deq_flat f1 fx h1 hx).2.1, q2]; rfl⟩
theorem any_py {x : D} (nx : dep x < 100) : ∀ {ds : List D}, deps ds < 100 → ((pys ds).any fun z => PyData.eqv z (py x)) = ds.any fun z => deq z x
  | [], n => rfl
  | d :: r, n => by
    have n' : max (dep d) (deps r) < 100 := n
    show (PyData.eqv (py d) (py x) || (pys r).any fun z => PyData.eqv z (py x)) = (deq d x || r.any fun z => deq z x)
    rw [any_py nx (by omega), deq_eqv d x (by omega) nx]
def rInX (K : PySem.W.Frag) : R2 := fun x y H Q => ((∃ (c : Nat) (z : Str), x = .str ⟨#[c]⟩ ∧ y = .str z ∧ Q (.bl (decide (c ∈ z.cps.toList))) H) ∨ ∃ i j, x = .str i ∧ y = .str j ∧ Q (.bl (!(Builtin.Str.occurrences j i 0 j.length 1).isEmpty)) H) ∨
  rInD K x y H Q ∨ rIn K false x y H Q ∨ rInDict x y H Q
def rNotInX (K : PySem.W.Frag) : R2 := fun x y H Q => ((∃ (c : Nat) (z : Str), x = .str ⟨#[c]⟩ ∧ y = .str z ∧ Q (.bl (!decide (c ∈ z.cps.toList))) H) ∨ ∃ i j, x = .str i ∧ y = .str j ∧ Q (.bl (!(!(Builtin.Str.occurrences j i 0 j.length 1).isEmpty))) H) ∨
  rNotInD K x y H Q ∨ rIn K true x y H Q ∨ rNotInDict x y H Q
theorem op_inX {X : Cx} (hu : X.A.units + 65 < cLine) : OpR X (compareOp .In) (rInX X.K) := (op_in_sign.or op_in_str).or ((op_inD hu).or (op_in_seq.or (op_in_dict (by omega))))
theorem op_notInX {X : Cx} (hu : X.A.units + 65 < cLine) : OpR X (compareOp .NotIn) (rNotInX X.K) := (op_notIn_sign.or op_notin_str).or ((op_notInD hu).or (op_notIn_seq.or (op_notIn_dict (by omega))))
/-- in: the answer, and what both readings ask -/
theorem in_core {H : Hp} {U : Addr → Prop} {L M : List Addr} {dx dy : D} {x y : V} {b : Bool} (e : inD dx dy = .ok b) (rx : rep K H (Or2 U (L ++ M)) dx x L) (ry : rep K H (Or2 U (L ++ M)) dy y M) :
    (∃ (c : Nat) (z : Str), x = .str ⟨#[c]⟩ ∧ y = .str z ∧ b = decide (c ∈ z.cps.toList)) ∨ (∃ i j, x = .str i ∧ y = .str j ∧ b = !(Builtin.Str.occurrences j i 0 j.length 1).isEmpty) ∨
      (∃ d ds, Dp K H x d ∧ Dp K H y (.list ds) ∧ SeqAt.shaped d = true ∧ SeqAt.shaped (.list ds) = true ∧ b = ds.any fun z => PyData.eqv z d) ∨
      (∃ p xs, y = .ref p ∧ (SqL K H p xs ∨ SqT K H p xs) ∧ flatV x = true ∧ xs.all flatV = true ∧ b = inV x xs) ∨ ∃ a o, y = .ref a ∧ DGet H a x o ∧ b = o.isSome := by
  unfold inD at e
  split at e
  · cases e
    obtain ⟨rfl, _⟩ := rx; obtain ⟨rfl, _⟩ := ry
    exact .inl ⟨_, _, rfl, rfl, by rw [toS_list]⟩
  · cases e
    obtain ⟨rfl, _⟩ := rx; obtain ⟨rfl, _⟩ := ry
    refine .inr (.inl ⟨_, _, rfl, rfl, ?_⟩)
    unfold occ
    rw [toS_len]
  · rename_i o ds
    split at e <;> cases e
    rename_i z
    refine .inr (.inr (.inl ⟨py dx, pys ds, dp_of _ _ _ (by omega) rx, dp_of (.lst o ds) _ _ (show deps ds + 1 < 100 by omega) ry, shaped_of z.1 rx, shaped_of (d := .lst o ds) (show deps ds + 1 ≤ 64 by omega) ry, ?_⟩))
    rw [any_py (by omega) (by omega)]
  · rename_i ds
    split at e <;> cases e
    rename_i z
    obtain ⟨z1, z2⟩ := Bool.and_eq_true_iff.mp z
    obtain ⟨a, vs, ⟨rfl, _⟩, q, r⟩ := ry
    obtain ⟨q1, q2⟩ := any_flat z1 rx z2 r
    exact .inr (.inr (.inr (.inl ⟨a, vs, rfl, .inr q, (deq_flat z1 z1 rx rx).2.1, q2, q1.symm⟩)))
  · rename_i kvs
    split at e <;> cases e
    rename_i k hk
    obtain ⟨a, ks, L', rfl, r, h, _⟩ := ry
    have ek := keyD_rep hk rx
    refine .inr (.inr (.inr (.inr ⟨a, valV ks (kyK k), rfl, by rw [ek]; exact .k h, ?_⟩)))
    cases q : lookD kvs k with
    | none => rw [repk_lookN r.1 q]; rfl
    | some d => obtain ⟨w, _, e1, _⟩ := repk_look r.1 q; rw [e1]; rfl
  · cases e
theorem in_ok : OpOk K (fun x y => ofB (cmpop .isin x y)) (rInX K) := by
  intro H U L M dx dy d x y Q e rx ry n hu fin
  have e1 := ofB_ok e
  clear e
  obtain ⟨b, e, rfl⟩ := e1
  have fb := fin.bl
  rcases in_core e rx ry with ⟨c, z, rfl, rfl, rfl⟩ | ⟨i, j, rfl, rfl, rfl⟩ | ⟨d, ds, h1, h2, h3, h4, rfl⟩ | ⟨p, xs, rfl, h1, h2, h3, rfl⟩ | ⟨a, o, rfl, h1, rfl⟩
  · exact .inl (.inl ⟨_, _, rfl, rfl, fb⟩)
  · exact .inl (.inr ⟨_, _, rfl, rfl, fb⟩)
  · exact .inr (.inl ⟨d, ds, h1, h2, h3, h4, fb⟩)
  · exact .inr (.inr (.inl ⟨p, xs, rfl, h1, h2, h3, by simpa using fb⟩))
  · exact .inr (.inr (.inr ⟨a, o, rfl, h1, fb⟩))
theorem notin_ok : OpOk K (fun x y => ofB (cmpop .notin x y)) (rNotInX K) := by
  intro H U L M dx dy d x y Q e rx ry n hu fin
  have e1 := ofB_ok e
  clear e
  obtain ⟨b, e, rfl⟩ := e1
  have e' : inD dx dy = .ok (!b) := nt_ok e
  have fb := fin.bl
  have hb : b = !(!b) := (Bool.not_not b).symm
  rw [hb] at fb
  generalize (!b) = c at e' fb
  rcases in_core e' rx ry with ⟨c, z, rfl, rfl, rfl⟩ | ⟨i, j, rfl, rfl, rfl⟩ | ⟨d, ds, h1, h2, h3, h4, rfl⟩ | ⟨p, xs, rfl, h1, h2, h3, rfl⟩ | ⟨a, o, rfl, h1, rfl⟩
  · exact .inl (.inl ⟨_, _, rfl, rfl, fb⟩)
  · exact .inl (.inr ⟨_, _, rfl, rfl, fb⟩)
  · exact .inr (.inl ⟨d, ds, h1, h2, h3, h4, fb⟩)
  · exact .inr (.inr (.inl ⟨p, xs, rfl, h1, h2, h3, by simpa using fb⟩))
  · exact .inr (.inr (.inr ⟨a, o, rfl, h1, fb⟩))
theorem inD_ne {x y : D} {e : Ex} : inD x y ≠ .exc e := by
  unfold inD
  split <;> (try split) <;> simp
def isNon : D → Bool
  | .non => true
  | _ => false
theorem rep_non {H : Hp} {U : Addr → Prop} {d : D} {v : V} {L : List Addr} (h : rep K H U d v L) : decide (v = .non) = isNon d := by
  cases d
  · obtain ⟨rfl, _⟩ := h; rfl
  · obtain ⟨rfl, _⟩ := h; rfl
  · obtain ⟨rfl, _⟩ := h; rfl
  · obtain ⟨rfl, _⟩ := h; rfl
  · obtain ⟨a, vs, ⟨rfl, _⟩, _⟩ := h; rfl
  · obtain ⟨a, vs, L', ⟨rfl, _⟩, _⟩ := h; rfl
  · obtain ⟨a, vs, L', rfl, _⟩ := h; rfl
  · obtain ⟨a, vs, rfl, _⟩ := h; rfl
  · obtain ⟨a, vs, ⟨rfl, _⟩, _⟩ := h; rfl
  · obtain ⟨rfl, _⟩ := h; rfl
theorem isD_cases {x y : D} {b : Bool} (h : isD x y = .ok b) : (y = .non ∧ b = isNon x) ∨ ∃ p q, x = .bl p ∧ y = .bl q ∧ b = decide (p = q) := by
  cases y with
  | non => cases x <;> exact .inl ⟨rfl, (R.ok.inj h).symm⟩
  | bl q =>
    cases x with
    | bl p => exact .inr ⟨p, q, rfl, rfl, by rw [← Bool.beq_eq_decide_eq]; exact (R.ok.inj h).symm⟩
    | _ => cases (show R.bad = R.ok b from h)
  | _ => cases (show R.bad = R.ok b from h)
theorem isD_ne {x y : D} {e : Ex} : isD x y ≠ .exc e := by
  cases y <;> cases x <;> exact fun h => by cases (show _ = R.exc e from h)
theorem is_ok : OpOk K (fun x y => ofB (cmpop .is x y)) (fun x y H Q => (y = .non ∧ Q (.bl (decide (x = .non))) H) ∨ ∃ a b, x = .bl a ∧ y = .bl b ∧ Q (.bl (decide (a = b))) H) := by
  intro H U L M dx dy d x y Q e rx ry n hu fin
  have e1 := ofB_ok e
  clear e
  obtain ⟨b, e, rfl⟩ := e1
  have fb := fin.bl
  rcases isD_cases e with ⟨rfl, rfl⟩ | ⟨p, q, rfl, rfl, rfl⟩
  · obtain ⟨rfl, _⟩ := ry
    exact .inl ⟨rfl, by rw [rep_non rx]; exact fb⟩
  · obtain ⟨rfl, _⟩ := rx; obtain ⟨rfl, _⟩ := ry
    exact .inr ⟨_, _, rfl, rfl, fb⟩
theorem isnot_ok : OpOk K (fun x y => ofB (cmpop .isnot x y)) (fun x y H Q => (y = .non ∧ Q (.bl (!decide (x = .non))) H) ∨ ∃ a b, x = .bl a ∧ y = .bl b ∧ Q (.bl (!decide (a = b))) H) := by
  intro H U L M dx dy d x y Q e rx ry n hu fin
  have e1 := ofB_ok e
  clear e
  obtain ⟨b, e, rfl⟩ := e1
  have e' : isD dx dy = .ok (!b) := nt_ok e
  have fb := fin.bl
  rw [(Bool.not_not b).symm] at fb
  generalize (!b) = c at e' fb
  rcases isD_cases e' with ⟨rfl, rfl⟩ | ⟨p, q, rfl, rfl, rfl⟩
  · obtain ⟨rfl, _⟩ := ry
    exact .inl ⟨rfl, by rw [rep_non rx]; exact fb⟩
  · obtain ⟨rfl, _⟩ := rx; obtain ⟨rfl, _⟩ := ry
    exact .inr ⟨_, _, rfl, rfl, fb⟩
end
def cmpOf : CO → CmpOp
  | .eq => .Eq
  | .ne => .NotEq
  | .lt => .Lt
  | .le => .LtE
  | .gt => .Gt
  | .ge => .GtE
  | .isin => .In
  | .notin => .NotIn
  | .is => .Is
  | .isnot => .IsNot
theorem cmp_ne (o : CO) : NoExc fun x y => ofB (cmpop o x y) := fun x y e => ofB_ne (by
  cases o
  · exact eqD_ne
  · exact nt_ne eqD_ne
  · exact ltD_ne
  · exact le_ne
  · exact gtD_ne
  · exact ge_ne
  · exact inD_ne
  · exact nt_ne inD_ne
  · exact isD_ne
  · exact nt_ne isD_ne)
/-- each comparison's rule -/
theorem cmp_rule (X : Cx) (hu : X.A.units + 65 < cLine) (o : CO) : ∃ r : R2, OpR X (compareOp (cmpOf o)) r ∧ OpOk X.K (fun x y => ofB (cmpop o x y)) r := by
  cases o with
  | eq => exact ⟨_, (op_eqD (by omega)).or ((op_eq_dictA (by omega)).or (op_eqW hu)), eq_ok⟩
  | ne => exact ⟨_, (op_neD (by omega)).or ((op_ne_dictA (by omega)).or (op_neW hu)), ne_ok⟩
  | lt => exact ⟨_, op_lt.or (op_lt_str.or (op_ltT (by omega))), lt_ok⟩
  | le => exact ⟨_, op_le.or op_le_str, le_ok⟩
  | gt => exact ⟨_, op_gt.or (op_gt_str.or ((op_gtT (by omega)).or (op_gtL (by omega)))), gt_ok⟩
  | ge => exact ⟨_, op_ge.or op_ge_str, ge_ok⟩
  | isin => exact ⟨_, op_inX hu, in_ok⟩
  | notin => exact ⟨_, op_notInX hu, notin_ok⟩
  | is => exact ⟨_, op_isN.or op_is_bl, is_ok⟩
  | isnot => exact ⟨_, op_notN.or op_isnot_bl, isnot_ok⟩
section
variable {X : Cx} {G : Gx} {pos : Pos} {a b c : Expr} {ma mb mc : E}
theorem sim_cmpo (hK : G.K = X.K) (hu : X.A.units + 65 < cLine) (o : CO) (ha : PE X a (tM G ma)) (hb : PE X b (tM G mb)) (hm : behindInMarks (cmpOf o) b = false) : PE X (.Compare a [cmpOf o] [b] pos) (tM G (.cmp o ma mb)) := by
  obtain ⟨r, h1, h2⟩ := cmp_rule X hu o
  exact sim_cmp h1 (hK ▸ h2) (cmp_ne o) ha hb hm
theorem simt_cmpo (hK : G.K = X.K) (hu : X.A.units + 65 < cLine) (o : CO) (ha : PE X a (tM G ma)) (hb : PE X b (tM G mb)) (hm : behindInMarks (cmpOf o) b = false) : PT X (.Compare a [cmpOf o] [b] pos) (tMt G (.cmp o ma mb)) := by
  obtain ⟨r, h1, h2⟩ := cmp_rule X hu o
  exact simt_cmp h1 (hK ▸ h2) (cmp_ne o) ha hb hm
/-- a < b < c -/
theorem chain_run {o o' : CO} {r r' : R2} {σ : St} {H : Hp} {U : Addr → Prop} {env : Env} {Q : VK} (ok : OpOk G.K (fun x y => ofB (cmpop o x y)) r) (ok' : OpOk G.K (fun x y => ofB (cmpop o' x y)) r') (hd : Dom H U) (he : RepE G H U σ env)
    (h : Res G σ H (ev G.C (.chain o o' ma mb mc) env) fun d => Ok1 G.K H U d Q) : tChain r r' (tM G ma) (tM G mb) (tM G mc) σ H Q := by
  have h' : Res G σ H ((ev G.C ma env).b fun x => (ev G.C mb env).b fun y => (cmpop o x y).b fun t => if t then (ev G.C mc env).b fun z => ofB (cmpop o' y z) else .ok (.bl false)) fun d => Ok1 G.K H U d Q := h
  refine tM_two hd he (h'.bind.mono fun x _ q => q.bind) fun dx dy x y H' L M k s f rx ry => ?_
  have fu : ∀ a ∈ L ++ M, ¬ U a := fun a ha u => hd a u (f.2 a ha)
  have nn := f.1
  have iM := rep_in _ _ _ ry
  have iL := rep_in _ _ _ rx
  refine ok H' U L M dx dy (match cmpop o dx dy with | .ok t => .bl t | _ => .non) x y _ ?_ rx ry f.1 fu ?_
  · cases e : cmpop o dx dy with
    | ok t => simp [ofB, e]
    | exc x => exact absurd (show ofB (cmpop o dx dy) = .exc x by rw [e]; rfl) (cmp_ne o _ _ _)
    | bad => rw [e] at k; exact k.elim
  · cases e : cmpop o dx dy with
    | exc x => exact absurd (show ofB (cmpop o dx dy) = .exc x by rw [e]; rfl) (cmp_ne o _ _ _)
    | bad => rw [e] at k; exact k.elim
    | ok t =>
      rw [e] at k
      intro v H2 L2 s2 n2 i2 r2
      obtain ⟨rfl, rfl⟩ := r2
      refine ⟨t, rfl, ?_⟩
      cases t with
      | false =>
        rw [if_neg Bool.false_ne_true]
        have k' : Ok1 G.K H U (.bl false) Q := k
        exact k' _ _ [] (s.trans s2) .nil ⟨rfl, rfl⟩
      | true =>
        rw [if_pos rfl]
        have k' : Res G σ H ((ev G.C mc env).b fun z => ofB (cmpop o' dy z)) fun d => Ok1 G.K H U d Q := k
        have s3 := s.trans s2
        refine tM_then (U := Or2 U (L ++ M)) (env := env) ((hd.same s3).or fun a ha z => ?_) ((he.or f.2).same s3) (k'.bind.same s3) fun dz z H4 N q4 s4 f4 r4 => ?_
        · have z' := s2.free z
          exact (List.mem_append.mp ha).elim (fun h => iL a h z') fun h => iM a h z'
        · have fN : Fresh H (L ++ M ++ N) := f.app (H' := H2) s3 (fun a ha z => (List.mem_append.mp ha).elim (fun h => iL a h (s2.free z)) fun h => iM a h (s2.free z)) f4
          have fMN : (M ++ N).Nodup := by
            have := fN.1
            rw [List.append_assoc] at this
            exact (List.nodup_append.mp this).2.1
          cases e' : cmpop o' dy dz with
          | exc x => exact absurd (show ofB (cmpop o' dy dz) = .exc x by rw [e']; rfl) (cmp_ne o' _ _ _)
          | bad => rw [e'] at q4; exact q4.elim
          | ok t' =>
            rw [e'] at q4
            have q5 : Ok1 G.K H U (.bl t') Q := q4
            refine ok' H4 U M N dy dz (.bl t') y z Q (by simp [ofB, e']) ?_ ?_ fMN (fun a ha u => ?_) (q5.fin (s3.trans s4) ⟨fMN, fun a ha => ?_⟩)
            · refine rep_less (N := L ++ M ++ N) (fun a ha => ?_) ?_
              · rcases List.mem_append.mp ha with h | h
                · exact List.mem_append_left _ (List.mem_append_right _ h)
                · exact List.mem_append_right _ h
              · rw [← or_app']
                exact rep_same s4 (rep_or f4.2 (rep_same s2 ry))
            · refine rep_less (N := L ++ M ++ N) (fun a ha => ?_) ?_
              · rcases List.mem_append.mp ha with h | h
                · exact List.mem_append_left _ (List.mem_append_right _ h)
                · exact List.mem_append_right _ h
              · rw [← or_app']; exact r4
            · refine hd a u (fN.2 a ?_)
              rcases List.mem_append.mp ha with h | h
              · exact List.mem_append_left _ (List.mem_append_right _ h)
              · exact List.mem_append_right _ h
            · refine fN.2 a ?_
              rcases List.mem_append.mp ha with h | h
              · exact List.mem_append_left _ (List.mem_append_right _ h)
              · exact List.mem_append_right _ h
theorem sim_chain (hK : G.K = X.K) (hu : X.A.units + 65 < cLine) (o o' : CO) (ha : PE X a (tM G ma)) (hb : PE X b (tM G mb)) (hc : PE X c (tM G mc)) (hm : lastMarks [cmpOf o, cmpOf o'] [b, c] = false) : PE X (.Compare a [cmpOf o, cmpOf o'] [b, c] pos) (tM G (.chain o o' ma mb mc)) := by
  obtain ⟨r, h1, h2⟩ := cmp_rule X hu o
  obtain ⟨r', h1', h2'⟩ := cmp_rule X hu o'
  exact (pe_chain h1 h1' ha hb hc hm).imp fun σ H Q ⟨U, env, hd, he, h⟩ => chain_run (hK ▸ h2) (hK ▸ h2') hd he h
theorem simt_chain (hK : G.K = X.K) (hu : X.A.units + 65 < cLine) (o o' : CO) (ha : PE X a (tM G ma)) (hb : PE X b (tM G mb)) (hc : PE X c (tM G mc)) (hm : lastMarks [cmpOf o, cmpOf o'] [b, c] = false) : PT X (.Compare a [cmpOf o, cmpOf o'] [b, c] pos) (tMt G (.chain o o' ma mb mc)) := by
  obtain ⟨r, h1, h2⟩ := cmp_rule X hu o
  obtain ⟨r', h1', h2'⟩ := cmp_rule X hu o'
  refine (pt_chain h1 h1' ha hb hc hm).imp fun σ H Q ⟨U, env, hd, he, h⟩ => chain_run (hK ▸ h2) (hK ▸ h2') hd he ?_
  refine (asB_bind h).mono fun d _ ⟨b, e, q⟩ => ?_
  subst e
  intro v H' L s _ rr
  exact ⟨b, rr.1, q H' s⟩

/-! ## and, or, not, if else -/
/-- a test, then what follows -/
theorem tMt_then {m : E} {σ : St} {H : Hp} {U : Addr → Prop} {env : Env} {Q : Bool → Hp → Prop} {k : Bool → Prop} (hd : Dom H U) (he : RepE G H U σ env) (h : Res G σ H (asB (ev G.C m env)) k) (n : ∀ b H', k b → Same H H' → Q b H') : tMt G m σ H Q :=
  ⟨U, env, hd, he, h.mono fun b _ q => fun H' s => n b H' q s⟩
theorem asB_ofB {x : R Bool} : asB (ofB x) = x := by cases x <;> rfl
theorem simw_one {op} (h : PT X a (tMt G ma)) : PW X (.BoolOp op [a] pos) (tMt G ma) := by
  cases op
  · exact pw_and1 h
  · exact pw_or1 h
theorem simw_and {rest : List Expr} (ha : PT X a (tMt G ma)) (hb : PW X (.BoolOp .And (b :: rest) pos) (tMt G mb)) : PW X (.BoolOp .And (a :: b :: rest) pos) (tMt G (.and_ ma mb)) :=
  (pw_and ha hb).imp fun σ H Q ⟨U, env, hd, he, h⟩ => by
    have h' : Res G σ H ((asB (ev G.C ma env)).b fun t => if t then asB (ev G.C mb env) else .ok false) fun b => ∀ H', Same H H' → Q b H' := by
      have e : asB (ev G.C (.and_ ma mb) env) = ((asB (ev G.C ma env)).b fun t => if t then asB (ev G.C mb env) else .ok false) := by
        show asB ((asB (ev G.C ma env)).b fun t => if t then ofB (asB (ev G.C mb env)) else .ok (.bl false)) = _
        cases asB (ev G.C ma env) with
        | ok t => cases t <;> simp [R.b, asB_ofB] <;> rfl
        | exc x => rfl
        | bad => rfl
      rw [← e]; exact h
    refine tMt_then hd he h'.bind fun t H1 q s => ?_
    cases t with
    | true =>
      rw [if_pos rfl]
      exact ⟨U, env, hd.same s, he.same s, (q.same s).mono fun b _ z => fun H2 s2 => z H2 (s.trans s2)⟩
    | false =>
      rw [if_neg Bool.false_ne_true]
      exact (show ∀ H', Same H H' → Q false H' from q) H1 s
theorem simw_or {rest : List Expr} (ha : PT X a (tMt G ma)) (hb : PW X (.BoolOp .Or (b :: rest) pos) (tMt G mb)) : PW X (.BoolOp .Or (a :: b :: rest) pos) (tMt G (.or_ ma mb)) :=
  (pw_or ha hb).imp fun σ H Q ⟨U, env, hd, he, h⟩ => by
    have h' : Res G σ H ((asB (ev G.C ma env)).b fun t => if t then .ok true else asB (ev G.C mb env)) fun b => ∀ H', Same H H' → Q b H' := by
      have e : asB (ev G.C (.or_ ma mb) env) = ((asB (ev G.C ma env)).b fun t => if t then .ok true else asB (ev G.C mb env)) := by
        show asB ((asB (ev G.C ma env)).b fun t => if t then .ok (.bl true) else ofB (asB (ev G.C mb env))) = _
        cases asB (ev G.C ma env) with
        | ok t => cases t <;> simp [R.b, asB_ofB] <;> rfl
        | exc x => rfl
        | bad => rfl
      rw [← e]; exact h
    refine tMt_then hd he h'.bind fun t H1 q s => ?_
    cases t with
    | true =>
      rw [if_pos rfl]
      exact (show ∀ H', Same H H' → Q true H' from q) H1 s
    | false =>
      rw [if_neg Bool.false_ne_true]
      exact ⟨U, env, hd.same s, he.same s, (q.same s).mono fun b _ z => fun H2 s2 => z H2 (s.trans s2)⟩
theorem simt_not (ha : PT X a (tMt G ma)) : PT X (.UnaryOp .Not a pos) (tMt G (.not_ ma)) :=
  (pt_not ha).imp fun σ H Q ⟨U, env, hd, he, h⟩ => by
    have h' : Res G σ H ((asB (ev G.C ma env)).b fun t => .ok (!t)) fun b => ∀ H', Same H H' → Q b H' := by
      have e : asB (ev G.C (.not_ ma) env) = ((asB (ev G.C ma env)).b fun t => .ok (!t)) := by
        show asB ((asB (ev G.C ma env)).b fun t => .ok (.bl (!t))) = _
        cases asB (ev G.C ma env) <;> rfl
      rw [← e]; exact h
    exact tMt_then hd he h'.bind fun t H1 q s => (show ∀ H', Same H H' → Q (!t) H' from q) H1 s
/-! as values -/
theorem simv_one {op} (h : PE X a (tM G ma)) : PE X (.BoolOp op [a] pos) (tM G ma) := pe_one h
theorem sim_and {rest : List Expr} (ha : PE X a (tM G ma)) (hb : PE X (.BoolOp .And (b :: rest) pos) (tM G mb)) : PE X (.BoolOp .And (a :: b :: rest) pos) (tM G (.and_ ma mb)) :=
  (pe_and ha hb).imp fun σ H Q ⟨U, env, hd, he, h⟩ => by
    have h' : Res G σ H ((asB (ev G.C ma env)).b fun t => if t then ofB (asB (ev G.C mb env)) else .ok (.bl false)) fun d => Ok1 G.K H U d Q := h
    refine tM_then hd he (asB_bind h'.bind) fun d v H1 L ⟨t, e, q⟩ s f r => ?_
    subst e
    obtain ⟨rfl, rfl⟩ := r
    refine ⟨t, rfl, ?_⟩
    cases t with
    | true =>
      rw [if_pos rfl]
      have q' : Res G σ H (ofB (asB (ev G.C mb env))) fun d => Ok1 G.K H U d Q := q
      refine tM_then (hd.same s) (he.same s) ((asB_bind q'.bind).same s) fun d v H2 L2 ⟨t2, e2, q2⟩ s2 f2 r2 => ?_
      subst e2
      obtain ⟨rfl, rfl⟩ := r2
      exact (show Ok1 G.K H U (.bl t2) Q from q2) _ _ [] (s.trans s2) .nil ⟨rfl, rfl⟩
    | false =>
      rw [if_neg Bool.false_ne_true]
      exact (show Ok1 G.K H U (.bl false) Q from q) _ _ [] s .nil ⟨rfl, rfl⟩
theorem sim_or {rest : List Expr} (ha : PE X a (tM G ma)) (hb : PE X (.BoolOp .Or (b :: rest) pos) (tM G mb)) : PE X (.BoolOp .Or (a :: b :: rest) pos) (tM G (.or_ ma mb)) :=
  (pe_or ha hb).imp fun σ H Q ⟨U, env, hd, he, h⟩ => by
    have h' : Res G σ H ((asB (ev G.C ma env)).b fun t => if t then .ok (.bl true) else ofB (asB (ev G.C mb env))) fun d => Ok1 G.K H U d Q := h
    refine tM_then hd he (asB_bind h'.bind) fun d v H1 L ⟨t, e, q⟩ s f r => ?_
    subst e
    obtain ⟨rfl, rfl⟩ := r
    refine ⟨t, rfl, ?_⟩
    cases t with
    | false =>
      rw [if_neg Bool.false_ne_true]
      have q' : Res G σ H (ofB (asB (ev G.C mb env))) fun d => Ok1 G.K H U d Q := q
      refine tM_then (hd.same s) (he.same s) ((asB_bind q'.bind).same s) fun d v H2 L2 ⟨t2, e2, q2⟩ s2 f2 r2 => ?_
      subst e2
      obtain ⟨rfl, rfl⟩ := r2
      exact (show Ok1 G.K H U (.bl t2) Q from q2) _ _ [] (s.trans s2) .nil ⟨rfl, rfl⟩
    | true =>
      rw [if_pos rfl]
      exact (show Ok1 G.K H U (.bl true) Q from q) _ _ [] s .nil ⟨rfl, rfl⟩
theorem sim_not (ha : PE X a (tM G ma)) : PE X (.UnaryOp .Not a pos) (tM G (.not_ ma)) :=
  (pe_not ha).imp fun σ H Q ⟨U, env, hd, he, h⟩ => by
    have h' : Res G σ H ((asB (ev G.C ma env)).b fun t => .ok (.bl (!t))) fun d => Ok1 G.K H U d Q := h
    refine tM_then hd he (asB_bind h'.bind) fun d v H1 L ⟨t, e, q⟩ s f r => ?_
    subst e
    obtain ⟨rfl, rfl⟩ := r
    exact ⟨t, rfl, (show Ok1 G.K H U (.bl (!t)) Q from q) _ _ [] s .nil ⟨rfl, rfl⟩⟩
theorem sim_ite (hc : PT X c (tMt G mc)) (ha : PE X a (tM G ma)) (hb : PE X b (tM G mb)) : PE X (.IfExp c a b pos) (tM G (.ite mc ma mb)) :=
  (pe_ifExp hc ha hb).imp fun σ H Q ⟨U, env, hd, he, h⟩ => by
    have h' : Res G σ H ((asB (ev G.C mc env)).b fun t => if t then ev G.C ma env else ev G.C mb env) fun d => Ok1 G.K H U d Q := h
    refine tMt_then hd he h'.bind fun t H1 q s => ?_
    cases t with
    | true =>
      rw [if_pos rfl]
      exact ⟨U, env, hd.same s, he.same s, (Res.same s q).mono fun d _ z => fun v H2 L s2 f r => (show Ok1 G.K H U d Q from z) v H2 L (s.trans s2) ⟨f.1, fun a ha => s.free (f.2 a ha)⟩ r⟩
    | false =>
      rw [if_neg Bool.false_ne_true]
      exact ⟨U, env, hd.same s, he.same s, (Res.same s q).mono fun d _ z => fun v H2 L s2 f r => (show Ok1 G.K H U d Q from z) v H2 L (s.trans s2) ⟨f.1, fun a ha => s.free (f.2 a ha)⟩ r⟩
end
end Q

set_option maxHeartbeats 1000000
namespace Q
open PySem PySem.Spec L2
open PyProof.Rows hiding St

/-! ## items and parts -/
section
variable {K : PySem.W.Frag} {H : Hp} {U : Addr → Prop}
theorem reps_get : ∀ {ds : List D} {vs : List V} {L : List Addr} {i : Nat} {d : D}, reps K H U ds vs L → ds[i]? = some d → ∃ v M, vs[i]? = some v ∧ rep K H U d v M ∧ (∀ a ∈ M, a ∈ L) ∧ (L.Nodup → M.Nodup)
  | [], vs, L, i, d, h, e => by simp at e
  | d' :: r, vs, L, i, d, h, e => by
    obtain ⟨v, vr, L1, L2, e1, e2, h1, h2⟩ := h
    subst e1 e2
    cases i with
    | zero => simp at e; subst e; exact ⟨v, L1, rfl, h1, fun a ha => List.mem_append_left _ ha, fun n => (List.nodup_append.mp n).1⟩
    | succ i =>
      simp at e
      obtain ⟨w, M, q1, q2, q3, q4⟩ := reps_get h2 e
      exact ⟨w, M, by simpa using q1, q2, fun a ha => List.mem_append_right _ (q3 a ha), fun n => q4 (List.nodup_append.mp n).2.1⟩
theorem reps_take : ∀ {ds : List D} {vs : List V} {L : List Addr} (n : Nat), reps K H U ds vs L → ∃ M, reps K H U (ds.take n) (vs.take n) M ∧ (∀ a ∈ M, a ∈ L) ∧ (L.Nodup → M.Nodup)
  | ds, vs, L, 0, h => ⟨[], by simp only [List.take_zero]; exact ⟨rfl, rfl⟩, (fun a ha => by cases ha), fun _ => .nil⟩
  | [], vs, L, n + 1, h => by obtain ⟨rfl, rfl⟩ := h; exact ⟨[], ⟨rfl, rfl⟩, (fun a ha => by cases ha), fun _ => .nil⟩
  | d :: r, vs, L, n + 1, h => by
    obtain ⟨v, vr, L1, L2, rfl, rfl, h1, h2⟩ := h
    obtain ⟨M, q, i, m⟩ := reps_take n h2
    refine ⟨L1 ++ M, ⟨v, vr.take n, L1, M, rfl, rfl, h1, q⟩, fun a ha => ?_, fun nd => ?_⟩
    · exact (List.mem_append.mp ha).elim (fun z => List.mem_append_left _ z) fun z => List.mem_append_right _ (i a z)
    · exact nodup_app nd (fun b hb => hb) i (List.nodup_append.mp nd).1 (m (List.nodup_append.mp nd).2.1)
theorem reps_drop : ∀ {ds : List D} {vs : List V} {L : List Addr} (n : Nat), reps K H U ds vs L → ∃ M, reps K H U (ds.drop n) (vs.drop n) M ∧ (∀ a ∈ M, a ∈ L) ∧ (L.Nodup → M.Nodup)
  | ds, vs, L, 0, h => ⟨L, by simp only [List.drop_zero]; exact h, fun a ha => ha, fun n => n⟩
  | [], vs, L, n + 1, h => by obtain ⟨rfl, rfl⟩ := h; exact ⟨[], ⟨rfl, rfl⟩, (fun a ha => by cases ha), fun _ => .nil⟩
  | d :: r, vs, L, n + 1, h => by
    obtain ⟨v, vr, L1, L2, rfl, rfl, h1, h2⟩ := h
    obtain ⟨M, q, i, m⟩ := reps_drop n h2
    exact ⟨M, q, fun a ha => List.mem_append_right _ (i a ha), fun nd => m (List.nodup_append.mp nd).2.1⟩
theorem reps_cut {ds : List D} {vs : List V} {L : List Addr} (lo hi : Option Int) (h : reps K H U ds vs L) : ∃ M, reps K H U (cut ds lo hi) (cutV vs lo hi) M ∧ (∀ a ∈ M, a ∈ L) ∧ (L.Nodup → M.Nodup) := by
  have hl := reps_length h
  unfold cut cutV
  rw [hl]
  obtain ⟨M, q, i, m⟩ := reps_drop (HT.sIx ds.length 0 lo) h
  obtain ⟨N, q2, i2, m2⟩ := reps_take (HT.sIx ds.length ds.length hi - HT.sIx ds.length 0 lo) q
  exact ⟨N, q2, fun a ha => i a (i2 a ha), fun n => m2 (m n)⟩
theorem atI_get' {ds : List D} {i : Int} {d : D} (e : atI ds i = some d) : ∃ j, ixN ds.length i = some j ∧ ds[j]? = some d := by
  unfold atI at e
  cases q : ixN ds.length i with
  | none => rw [q] at e; cases e
  | some j => rw [q] at e; exact ⟨j, rfl, e⟩
theorem reps_at {ds : List D} {vs : List V} {L : List Addr} {i : Int} {d : D} (h : reps K H U ds vs L) (e : atI ds i = some d) : ∃ v M, atI vs i = some v ∧ rep K H U d v M ∧ (∀ a ∈ M, a ∈ L) ∧ (L.Nodup → M.Nodup) := by
  obtain ⟨j, e1, e2⟩ := atI_get' e
  obtain ⟨v, M, q1, q2⟩ := reps_get h e2
  refine ⟨v, M, ?_, q2⟩
  unfold atI
  rw [reps_length h, e1]
  exact q1
end
section
variable {K : PySem.W.Frag}
def rIxD : R2 := fun x y H Q => ∃ a v, x = .ref a ∧ DGet H a y (some v) ∧ Q v H
theorem ix_dict {X : Cx} (hu : X.A.units + 1 < cLine) : IxR X rIxD := by
  intro value slice pins s σ H x y v u Q I rx ry h hs
  obtain ⟨a, w, ex, g, q⟩ := h
  subst ex
  obtain rfl : v = Value.ref a := rx
  exact tail_any (dict_typeIs I g) PySem.F.slot_dict_getitem.lookup (d_getItem hu I g ry fun w' s3 I3 rw' => ⟨w, H, I3, rw', q⟩) hs
theorem sok_one {s : Cs} {c : Nat} (h : Sok s) (m : c ∈ s) : Sok [c] := ⟨by show 1 ≤ lim; decide, fun d hd => by
  have e : d = c := by simpa using hd
  rw [e]; exact h.2 c m⟩
theorem sub_ok' : OpOk K getD (fun x y H Q => rIx K x y H Q ∨ rIxD x y H Q) := by
  intro H U L M dx dy d x y Q e rx ry n hu fin
  have nL := (List.nodup_append.mp n).1
  unfold getD at e
  split at e
  · rename_i o kvs
    split at e
    · rename_i k hk
      split at e <;> cases e
      rename_i hl
      obtain ⟨a, ks, L', rfl, r, h, z⟩ := rx
      have il : (∀ b ∈ L', b ∈ L) ∧ L'.Nodup := by
        rcases z with ⟨_, rfl⟩ | ⟨_, _, rfl, rfl⟩
        · exact ⟨fun b hb => List.mem_cons_of_mem _ hb, (List.nodup_cons.mp nL).2⟩
        · exact ⟨(fun b hb => by cases hb), .nil⟩
      have ek := keyD_rep hk ry
      obtain ⟨w, N, e1, r1, i1, m1⟩ := repk_look r.1 hl
      refine .inr ⟨a, w, rfl, ?_, fin.old (m1 il.2) (fun b hb => List.mem_append_left _ (il.1 b (i1 b hb))) (rep_less (fun b hb => List.mem_append_left _ (il.1 b (i1 b hb))) r1)⟩
      rw [ek, ← e1]
      exact .k h
    · cases e
  · unfold getit at e
    split at e
    · rename_i ds i _
      split at e <;> cases e
      rename_i hi
      obtain ⟨a, vs, ⟨rfl, _⟩, q, r⟩ := rx
      obtain ⟨rfl, rfl⟩ := ry
      obtain ⟨w, N, e1, r1, i1, m1⟩ := reps_at r hi
      exact .inl (.inr (.inl ⟨a, vs, i, w, rfl, rfl, q, e1, fin.old (m1 nL) (fun b hb => List.mem_append_left _ (i1 b hb)) (rep_less (fun b hb => List.mem_append_left _ (i1 b hb)) r1)⟩))
    · rename_i o ds i _
      split at e <;> cases e
      rename_i hi
      obtain ⟨a, vs, L', rfl, q, r, s1, mm⟩ := sq_of_lst rx
      obtain ⟨rfl, rfl⟩ := ry
      obtain ⟨w, N, e1, r1, i1, m1⟩ := reps_at r hi
      exact .inl (.inl ⟨a, vs, i, w, rfl, rfl, q, e1, fin.old (m1 (mm nL)) (fun b hb => List.mem_append_left _ (s1 b (i1 b hb))) (rep_less (fun b hb => List.mem_append_left _ (s1 b (i1 b hb))) r1)⟩)
    · rename_i s i _
      split at e <;> cases e
      rename_i c hi
      obtain ⟨rfl, k, rfl⟩ := rx
      obtain ⟨rfl, rfl⟩ := ry
      refine .inl (.inr (.inr ⟨toS s, i, c, rfl, rfl, by rw [toS_len, ← lim_eq]; exact k.1, by rw [toS_list]; exact hi, ?_⟩))
      have hm : c ∈ s := by
        obtain ⟨j, _, h2, _⟩ := atI_get hi
        exact List.mem_of_getElem? h2
      exact fin.str (s := [c]) (sok_one k hm)
    · rename_i ds i _
      split at e <;> cases e
      rename_i hi
      obtain ⟨a, vs, ⟨rfl, _⟩, q, r⟩ := ptu_tup rx
      obtain ⟨rfl, rfl⟩ := ry
      obtain ⟨w, N, e1, r1, i1, m1⟩ := reps_at r hi
      exact .inl (.inr (.inl ⟨a, vs, i, w, rfl, rfl, q, e1, fin.old (m1 nL) (fun b hb => List.mem_append_left _ (i1 b hb)) (rep_less (fun b hb => List.mem_append_left _ (i1 b hb)) r1)⟩))
    · cases e
theorem getD_ne : NoExc getD := by
  intro x y e
  unfold getD getit
  split
  · split
    · split <;> simp
    · simp
  · split <;> (try split) <;> simp
end
section
variable {X : Cx} {G : Gx} {pos : Pos} {a b : Expr} {ma mb : E}
theorem sim_sub (hK : G.K = X.K) (hu : X.A.units + 1 < cLine) (ha : PE X a (tM G ma)) (hb : PE X b (tM G mb)) (hs : PlainIx b) : PE X (.Subscript a b pos) (tM G (.sub ma mb)) :=
  (pe_ix (ix_seq.or (ix_dict hu)) ha hb hs).imp fun σ H Q ⟨U, env, hd, he, h⟩ => two_run (f := getD) (r := fun x y H Q => rIx X.K x y H Q ∨ rIxD x y H Q) (by rw [hK]; exact sub_ok') getD_ne hd he h
/-- a part of a slice -/
def tMo (G : Gx) (m : Option E) : TO := fun σ H Q => ∃ U env, Dom H U ∧ RepE G H U σ env ∧ Res G σ H (evo G.C m env) fun i => ∀ H', Same H H' → Q i H'
theorem PO.imp {X : Cx} {e : Option Expr} {t t' : TO} (h : PO X e t) (k : ∀ σ H Q, t' σ H Q → t σ H Q) : PO X e t' := ⟨fun pins s σ H Q I q => h.run pins s σ H Q I (k _ _ _ q)⟩
theorem simo_none : PO X none (tMo G none) := PO.imp po_none fun σ H Q ⟨U, env, hd, he, h⟩ => (show ∀ H', Same H H' → Q none H' from h) H (Same.refl H)
theorem simo_some (ha : PE X a (tM G ma)) : PO X (some a) (tMo G (some ma)) := PO.imp (po_some ha) fun σ H Q ⟨U, env, hd, he, h⟩ => by
  have h' : Res G σ H ((asI (ev G.C ma env)).b fun i => .ok (some i)) fun i => ∀ H', Same H H' → Q i H' := h
  refine tM_then hd he (asI_bind h'.bind) fun d v H1 L ⟨i, e, q⟩ s f r => ?_
  subst e
  obtain ⟨rfl, rfl⟩ := r
  exact ⟨i, rfl, (show ∀ H', Same H H' → Q (some i) H' from q) H1 s⟩
theorem cut_length {α : Type} (xs : List α) (lo hi : Option Int) : (cut xs lo hi).length ≤ xs.length := by
  unfold cut
  rw [List.length_take, List.length_drop]
  omega
theorem cut_mem {α : Type} {xs : List α} {lo hi : Option Int} {x : α} (h : x ∈ cut xs lo hi) : x ∈ xs := List.mem_of_mem_drop (List.mem_of_mem_take h)
theorem cut_whole {α : Type} {xs : List α} {lo hi : Option Int} (h : HT.sIx xs.length 0 lo = 0 ∧ HT.sIx xs.length xs.length hi = xs.length) : cut xs lo hi = xs := by
  unfold cut
  rw [h.1, h.2]
  simp
def rSlX (K : PySem.W.Frag) : V → Option Int → Option Int → Hp → VK → Prop := fun x lo hi H Q => rSlA K x lo hi H Q ∨ rSlL K x lo hi H Q ∨ rSlS x lo hi H Q
theorem slic_ok {K : PySem.W.Frag} {H : Hp} {U : Addr → Prop} {L : List Addr} {dx d : D} {x : V} {lo hi : Option Int} {Q : VK} (e : slic dx lo hi = .ok d) (rx : rep K H (Or2 U L) dx x L) (n : L.Nodup) (fin : Fin K H U L d Q) : rSlX K x lo hi H Q := by
  have il := rep_in _ _ _ rx
  have T : ∀ ds, rep K H (Or2 U L) (.tup ds) x L → Fin K H U L (.tup (cut ds lo hi)) Q → rSlX K x lo hi H Q := fun ds rx fin => by
    obtain ⟨a, vs, ⟨rfl, b1⟩, q, r⟩ := rx
    obtain ⟨M, r1, i1, m1⟩ := reps_cut lo hi r
    have hl := reps_length r
    refine .inl ⟨a, vs, rfl, q, fun w => ?_, fun _ => fin.newT (Nat.le_trans (cut_length _ _ _) b1) (m1 n) i1 (reps_less i1 r1)⟩
    rw [cut_whole (by rw [← hl]; exact w)] at fin
    exact fin.old (v := .ref a) n (fun b hb => hb) ⟨a, vs, ⟨rfl, b1⟩, q, r⟩
  unfold slic at e
  split at e
  · cases e
    exact T _ rx fin
  · rename_i o ds
    cases e
    have b1 := len_of_lst rx
    obtain ⟨a, vs, L', rfl, q, r, s1, mm⟩ := sq_of_lst rx
    obtain ⟨M, r1, i1, m1⟩ := reps_cut lo hi r
    exact .inr (.inl ⟨a, vs, rfl, q, fin.newL (Nat.le_trans (cut_length _ _ _) b1) il (m1 (mm n)) (fun b hb => s1 b (i1 b hb)) (reps_less (fun b hb => s1 b (i1 b hb)) r1)⟩)
  · rename_i s
    cases e
    obtain ⟨rfl, k, rfl⟩ := rx
    refine .inr (.inr ⟨toS s, rfl, by rw [toS_len, ← lim_eq]; exact k.1, ?_⟩)
    have ec : cutS (toS s) lo hi = toS (cut s lo hi) := by
      unfold cutS cut
      rw [toS_list, toS_len]
    rw [ec]
    exact fin.str ⟨Nat.le_trans (cut_length s lo hi) k.1, fun c hc => k.2 c (cut_mem hc)⟩
  · cases e
    exact T _ (ptu_tup rx) fin
  · cases e
theorem sim_slice {lo hi : Option Expr} {ml mh : Option E} {p2 : Pos} (hK : G.K = X.K) (ha : PE X a (tM G ma)) (hl : PO X lo (tMo G ml)) (hh : PO X hi (tMo G mh)) : PE X (.Subscript a (.Slice lo hi none p2) pos) (tM G (.slice ma ml mh)) :=
  (pe_slice (sl_tupA.or (sl_list.or sl_str)) ha hl hh).imp fun σ H Q ⟨U, env, hd, he, h⟩ => by
    have h' : Res G σ H ((ev G.C ma env).b fun x => (evo G.C ml env).b fun l => (evo G.C mh env).b fun h => slic x l h) fun d => Ok1 G.K H U d Q := h
    refine tM_then hd he h'.bind fun dx x H1 L k s f rx => ?_
    refine ⟨U, env, hd.same s, he.same s, (k.bind.same s).mono fun l _ k2 => fun H2 s2 => ?_⟩
    refine ⟨U, env, hd.same (s.trans s2), he.same (s.trans s2), (Res.same (s.trans s2) k2.bind).mono fun hh _ k3 => fun H3 s3 => ?_⟩
    have k4 : Res G σ H (slic dx l hh) fun d => Ok1 G.K H U d Q := k3
    have s4 := s.trans (s2.trans s3)
    cases e : slic dx l hh with
    | ok d =>
      rw [e] at k4
      have k5 : Ok1 G.K H U d Q := k4
      have := slic_ok (Q := Q) e (rep_same (s2.trans s3) rx) f.1 (k5.fin s4 f)
      rw [hK] at this
      exact this
    | exc x => exact absurd e (by unfold slic; split <;> simp)
    | bad => rw [e] at k4; exact k4.elim
/-! ## displays -/
theorem evs_length {C : Nat → List D → R D} : ∀ {ms : List E} {env : Env} {ds : List D}, evs C ms env = .ok ds → ds.length = ms.length
  | [], env, ds, h => by cases (show R.ok [] = R.ok ds from h); rfl
  | m :: r, env, ds, h => by
    have h' : ((ev C m env).b fun x => (evs C r env).b fun xs => .ok (x :: xs)) = R.ok ds := h
    cases e1 : ev C m env with
    | ok x =>
      rw [e1] at h'
      cases e2 : evs C r env with
      | ok xs =>
        rw [e2] at h'
        cases (show R.ok (x :: xs) = R.ok ds from h')
        rw [List.length_cons, List.length_cons, evs_length e2]
      | exc _ => rw [e2] at h'; cases h'
      | bad => rw [e2] at h'; cases h'
    | exc _ => rw [e1] at h'; cases h'
    | bad => rw [e1] at h'; cases h'
theorem Res.eq {α : Type} {G : Gx} {σ : St} {H : Hp} {r : R α} {k : α → Prop} (h : Res G σ H r k) : Res G σ H r fun a => r = .ok a ∧ k a := h.mono fun a e q => ⟨e, q⟩
theorem small_line {n : Nat} (h : n ≤ 1000) : n ≤ sizeLine := by rw [sizeLine_eq]; omega
theorem sim_tup {es : List Expr} {ms : List E} {k} (h : PA X es (tMs G ms)) (hl : ms.length ≤ 1000) : PE X (.Tuple es k pos) (tM G (.tup ms)) :=
  (pe_tup h).imp fun σ H Q ⟨U, env, hd, he, r⟩ => by
    have r' : Res G σ H ((evs G.C ms env).b fun ds => .ok (.tup ds)) fun d => Ok1 G.K H U d Q := r
    refine tMs_then hd he r'.bind.eq fun ds vs H1 L ⟨e, q⟩ s f rr => ?_
    have q' : Ok1 G.K H U (.tup ds) Q := q
    exact ⟨by rw [reps_length rr, evs_length e]; exact small_line hl, (q'.fin s f).newT (by rw [evs_length e]; exact Nat.le_trans hl (by decide)) f.1 (fun a ha => ha) rr⟩
theorem sim_lst {es : List Expr} {ms : List E} (h : PA X es (tMs G ms)) (hl : ms.length ≤ 1000) : PE X (.List es pos) (tM G (.lst ms)) :=
  (pe_lst h).imp fun σ H Q ⟨U, env, hd, he, r⟩ => by
    have r' : Res G σ H ((evs G.C ms env).b fun ds => .ok (.lst .w ds)) fun d => Ok1 G.K H U d Q := r
    refine tMs_then hd he r'.bind.eq fun ds vs H1 L ⟨e, q⟩ s f rr => ?_
    have q' : Ok1 G.K H U (.lst .w ds) Q := q
    exact ⟨by rw [reps_length rr, evs_length e]; exact small_line hl, (q'.fin s f).newL (by rw [evs_length e]; exact Nat.le_trans hl (by decide)) (reps_in _ _ _ rr) f.1 (fun a ha => ha) rr⟩
theorem sim_dict0 : PE X (.Dict [] [] pos) (tM G (.dict0 false)) := pe_dnewK.imp fun σ H Q ⟨U, env, hd, he, r⟩ p hp =>
  (show Ok1 G.K H U (.dic .w []) Q from r) _ _ [p] (same_upd hp) ⟨List.nodup_cons.mpr ⟨by simp, .nil⟩, fun a ha => by have e : a = p := by simpa using ha
                                                                                                                      rw [e]; exact hp⟩ ⟨p, [], [], rfl, ⟨⟨rfl, rfl⟩, .nil⟩, upd_same, .inl ⟨rfl, rfl⟩⟩
theorem sim_dict0T : PE X (.Dict [] [] pos) (tM G (.dict0 true)) := pe_dnewT.imp fun σ H Q ⟨U, env, hd, he, r⟩ p hp =>
  (show Ok1 G.K H U (.dct .w []) Q from r) _ _ [p] (same_upd hp) ⟨List.nodup_cons.mpr ⟨by simp, .nil⟩, fun a ha => by have e : a = p := by simpa using ha
                                                                                                                      rw [e]; exact hp⟩ ⟨p, [], rfl, upd_same, rfl, .inl ⟨rfl, rfl⟩⟩
end
/-! a written dict -/
section
variable {K : PySem.W.Frag} {H : Hp} {U : Addr → Prop}
theorem repk_append : ∀ {ds es : List (Ky × D)} {vs ws : List (Key × V)} {L M : List Addr}, repk K H U ds vs L → repk K H U es ws M → repk K H U (ds ++ es) (vs ++ ws) (L ++ M)
  | [], es, vs, ws, L, M, h, g => by obtain ⟨rfl, rfl⟩ := h; exact g
  | d :: r, es, vs, ws, L, M, h, g => by
    obtain ⟨v, vr, L1, L2, e, e2, h1, h2⟩ := h
    subst e e2
    exact ⟨v, vr ++ ws, L1, L2 ++ M, rfl, List.append_assoc _ _ _, h1, repk_append h2 g⟩
/-- stored in its place, or at the end; what stood there is let go -/
theorem repk_map : ∀ {ds : List (Ky × D)} {vs : List (Key × V)} {L M : List Addr} {k : Ky} {d : D} {v : V}, (ds.map (·.1)).Nodup → repk K H U ds vs L → rep K H U d v M → (L ++ M).Nodup → (ds.any fun kv => decide (kv.1 = k)) = true →
    ∃ N, repk K H U (ds.map fun kv => if kv.1 = k then (kv.1, d) else kv) (vs.map fun kv => if kv.1 = kyK k then (kv.1, v) else kv) N ∧ (∀ a ∈ N, a ∈ L ++ M) ∧ N.Nodup
  | [], vs, L, M, k, d, v, nk, h, g, nd, e => by simp at e
  | (k', d') :: r, vs, L, M, k, d, v, nk, h, g, nd, e => by
    obtain ⟨w, vr, L1, L2, rfl, rfl, ⟨h1, h1'⟩, h2⟩ := h
    obtain ⟨w1, w2⟩ := w
    have h1 : w1 = kyK k' := h1
    subst h1
    obtain ⟨nk1, nk2⟩ := List.nodup_cons.mp (show (k' :: r.map (·.1)).Nodup from nk)
    by_cases q : k' = k
    · subst q
      have rest : (r.map fun kv => if kv.1 = k' then (kv.1, d) else kv) = r := by
        conv => rhs; rw [← List.map_id r]
        refine List.map_congr_left fun kv hkv => ?_
        rw [if_neg fun z => nk1 (by rw [← z]; exact List.mem_map_of_mem hkv)]; rfl
      have restV : (vr.map fun kv => if kv.1 = kyK k' then (kv.1, v) else kv) = vr := by
        conv => rhs; rw [← List.map_id vr]
        refine List.map_congr_left fun kv hkv => ?_
        rw [if_neg fun z => ?_]; rfl
        obtain ⟨⟨pk, pd⟩, hp, _, z1, _⟩ := repk_mem h2 kv hkv
        have : pk = k' := kyK_inj (by rw [← z, z1])
        exact nk1 (by rw [← this]; exact List.mem_map_of_mem (f := (·.1)) hp)
      refine ⟨M ++ L2, ?_, fun a ha => ?_, ?_⟩
      · rw [List.map_cons, List.map_cons, if_pos rfl, if_pos rfl, rest, restV]
        exact ⟨_, vr, M, L2, rfl, rfl, ⟨rfl, g⟩, h2⟩
      · rcases List.mem_append.mp ha with ha | ha
        · exact List.mem_append_right _ ha
        · exact List.mem_append_left _ (List.mem_append_right _ ha)
      · have n1 := (List.nodup_append.mp nd)
        refine List.nodup_append.mpr ⟨n1.2.1, (List.nodup_append.mp n1.1).2.1, fun a ha b hb e => ?_⟩
        exact n1.2.2 b (List.mem_append_right _ hb) a ha e.symm
    · have e' : (r.any fun kv => decide (kv.1 = k)) = true := by simpa [q] using e
      have nd' : (L2 ++ M).Nodup := by
        rw [List.append_assoc] at nd
        exact (List.nodup_append.mp nd).2.1
      obtain ⟨N, z1, z2, z3⟩ := repk_map nk2 h2 g nd' e'
      refine ⟨L1 ++ N, ?_, fun a ha => ?_, ?_⟩
      · rw [List.map_cons, List.map_cons, if_neg q, if_neg (fun z => q (kyK_inj z))]
        exact ⟨_, _, L1, N, rfl, rfl, ⟨rfl, h1'⟩, z1⟩
      · rcases List.mem_append.mp ha with ha | ha
        · exact List.mem_append_left _ (List.mem_append_left _ ha)
        · rcases List.mem_append.mp (z2 a ha) with h | h
          · exact List.mem_append_left _ (List.mem_append_right _ h)
          · exact List.mem_append_right _ h
      · rw [List.append_assoc] at nd
        exact nodup_app nd (fun b hb => hb) z2 (List.nodup_append.mp nd).1 z3
theorem repk_any {ds : List (Ky × D)} {vs : List (Key × V)} {L : List Addr} {k : Ky} (h : repk K H U ds vs L) : (vs.any fun kv => decide (kv.1 = kyK k)) = ds.any fun kv => decide (kv.1 = k) := by
  induction ds generalizing vs L with
  | nil => obtain ⟨rfl, _⟩ := h; rfl
  | cons d r ih =>
    obtain ⟨w, vr, L1, L2, rfl, rfl, h1, h2⟩ := h
    obtain ⟨k', d'⟩ := d
    rw [List.any_cons, List.any_cons, ih h2, h1.1, kyK_dec]
theorem putD_keys {ds : List (Ky × D)} {k : Ky} {d : D} (n : (ds.map (·.1)).Nodup) : ((putD ds k d).map (·.1)).Nodup := by
  unfold putD
  split
  · rw [List.map_map]
    have e : ((fun p : Ky × D => p.1) ∘ fun kv : Ky × D => if kv.1 = k then (kv.1, d) else kv) = fun kv => kv.1 := by
      funext kv
      show (if kv.1 = k then (kv.1, d) else kv).1 = kv.1
      split <;> rfl
    rw [e]; exact n
  · rename_i h
    rw [List.map_append, List.map_cons, List.map_nil]
    refine List.nodup_append.mpr ⟨n, by simp, fun a ha b hb e => ?_⟩
    have eb : b = k := by simpa using hb
    subst e eb
    obtain ⟨p, hp, e⟩ := List.mem_map.mp ha
    exact h (List.any_eq_true.mpr ⟨p, hp, decide_eq_true e⟩)
theorem repk_put {ds : List (Ky × D)} {vs : List (Key × V)} {L M : List Addr} {k : Ky} {d : D} {v : V} (nk : (ds.map (·.1)).Nodup) (h : repk K H U ds vs L) (g : rep K H U d v M) (nd : (L ++ M).Nodup) :
    ∃ N, repk K H U (putD ds k d) (putK vs (kyK k) v) N ∧ (∀ a ∈ N, a ∈ L ++ M) ∧ N.Nodup := by
  unfold putD putK
  rw [repk_any h]
  split
  · rename_i e
    exact repk_map nk h g nd e
  · exact ⟨L ++ M, repk_append h ⟨(kyK k, v), [], M, [], rfl, (List.append_nil M).symm, ⟨rfl, g⟩, rfl, rfl⟩, fun a ha => ha, nd⟩
end
end Q

set_option maxHeartbeats 1000000
namespace Q
open PySem PySem.Spec PySem.W L2
/-! ## sorted(texts), sorted(dict) -/
abbrev LeC (a b : Cs) : Prop := ¬ b < a
theorem LeC.tr {a b c : Cs} (h1 : LeC a b) (h2 : LeC b c) : LeC a c := List.not_lt.mpr (List.le_trans (List.not_lt.mp h1) (List.not_lt.mp h2))
theorem LeC.anti {a b : Cs} (h1 : LeC a b) (h2 : LeC b a) : a = b := List.le_antisymm (List.not_lt.mp h1) (List.not_lt.mp h2)
theorem insC_perm (x : Cs) : ∀ ys : List Cs, (insC x ys).Perm (x :: ys)
  | [] => .refl _
  | y :: r => by
    show (if y < x then y :: insC x r else x :: y :: r).Perm _
    split
    · exact ((insC_perm x r).cons y).trans (.swap x y r)
    · exact .refl _
theorem sortC_perm : ∀ xs : List Cs, (sortC xs).Perm xs
  | [] => .refl _
  | x :: r => (insC_perm x (sortC r)).trans ((sortC_perm r).cons x)
theorem insC_pw (x : Cs) : ∀ ys : List Cs, ys.Pairwise LeC → (insC x ys).Pairwise LeC
  | [], _ => List.pairwise_singleton _ _
  | y :: r, h => by
    obtain ⟨h1, h2⟩ := List.pairwise_cons.mp h
    show (if y < x then y :: insC x r else x :: y :: r).Pairwise LeC
    by_cases c : y < x
    · rw [if_pos c]
      refine List.pairwise_cons.mpr ⟨fun z hz => ?_, insC_pw x r h2⟩
      rcases List.mem_cons.mp ((insC_perm x r).mem_iff.mp hz) with rfl | hz
      · exact List.not_lt.mpr (List.le_of_lt c)
      · exact h1 z hz
    · rw [if_neg c]
      refine List.pairwise_cons.mpr ⟨fun z hz => ?_, h⟩
      rcases List.mem_cons.mp hz with rfl | hz
      · exact c
      · exact LeC.tr c (h1 z hz)
theorem sortC_pw : ∀ xs : List Cs, (sortC xs).Pairwise LeC
  | [] => .nil
  | x :: r => insC_pw x _ (sortC_pw r)
theorem pw_one {xs ys : List Cs} (h : xs.Perm ys) (h1 : xs.Pairwise LeC) (h2 : ys.Pairwise LeC) : xs = ys := List.Perm.eq_of_pairwise (fun a b _ _ p q => LeC.anti p q) h1 h2 h
theorem rising_pw : ∀ (ss : List Str) (p : Str), PyProof.Rows.risingS p ss = true → (p :: ss).Pairwise (fun a b => LeC a.cps.toList b.cps.toList)
  | [], p, _ => List.pairwise_singleton _ _
  | x :: r, p, h => by
    have h : (!ltCps x.cps.toList p.cps.toList && PyProof.Rows.risingS x r) = true := h
    rw [Bool.and_eq_true] at h
    have ih := rising_pw r x h.2
    have e : LeC p.cps.toList x.cps.toList := by
      have := h.1
      rw [PyProof.Rows.ltCps_eq] at this
      simpa using this
    refine List.pairwise_cons.mpr ⟨fun z hz => ?_, ih⟩
    rcases List.mem_cons.mp hz with rfl | hz
    · exact e
    · exact LeC.tr e ((List.pairwise_cons.mp ih).1 z hz)
theorem sortedS_one {ys : List Str} {ps : List Cs} (h : ys.Perm (ps.map toS)) (hs : PyProof.Rows.sortedS ys = true) : ys = (sortC ps).map toS := by
  have e1 : (ys.map fun y => y.cps.toList).Perm ps := by
    have := h.map (fun y : Str => y.cps.toList)
    rw [List.map_map] at this
    have e : ((fun y : Str => y.cps.toList) ∘ toS) = id := funext fun s => by simp [toS]
    rw [e, List.map_id] at this
    exact this
  have e2 : (ys.map fun y => y.cps.toList).Pairwise LeC := by
    refine List.pairwise_map.mpr ?_
    cases ys with
    | nil => exact .nil
    | cons x r => exact rising_pw r x hs
  rw [← pw_one (e1.trans (sortC_perm ps).symm) e2 (sortC_pw ps), List.map_map]
  refine (List.map_id'' (fun y => ?_) ys).symm
  cases y; simp [toS]
def rSortedX (K : PySem.W.Frag) : List V → Hp → VK → Prop := fun vs H Q => (∃ (a : Addr) (xs : List Str), vs = [V.ref a] ∧ SqL K H a (xs.map V.str) ∧ ∀ (ys : List Str) (p : Addr), ys.Perm xs → PyProof.Rows.sortedS ys = true → H p = none → Q (.ref p) (upd H p (.lst (ys.map V.str)))) ∨
  ∃ (a : Addr) (kvs : List (Key × V)) (ks : List Str), vs = [.ref a] ∧ Rd H a (.dK kvs) ∧ kvs.map (·.1) = ks.map Sum.inr ∧ ks.length < 64 ∧ ∀ ys p, ys.Perm ks → PyProof.Rows.sortedS ys = true → H p = none → Q (.ref p) (upd H p (.lst (ys.map V.str)))
section
variable {X : Cx}
theorem srt_txts : CallR X (.builtin "sorted") (fun vs H Q => ∃ (a : Addr) (xs : List Str), vs = [V.ref a] ∧ SqL X.K H a (xs.map V.str) ∧ ∀ (ys : List Str) (p : Addr), ys.Perm xs → PyProof.Rows.sortedS ys = true → H p = none → Q (.ref p) (upd H p (.lst (ys.map V.str)))) := by
  rintro pins s σ H vs us Q I r ⟨a, xs, e0, sq, q⟩
  subst e0
  obtain ⟨its, rv, il, hz⟩ := I.list sq
  rw [Vals.ref1 r]
  have sz : its.length ≤ sizeLine := by rw [← rv.length]; exact hz
  refine PyProof.Rows.sorted_strsAny il.isList rv.strs sz fun out ys a1 a2 a3 => ?_
  obtain ⟨ep, at'⟩ := PyProof.Rows.sortedAll_at s.heap its out
  have ly : (ys.map V.str).length ≤ sizeLine := by
    rw [List.length_map] at hz ⊢
    rw [a2.length_eq]; exact hz
  have no : H (s.heap.objs.size + 1) = none := I.hok.fresh (Nat.le_succ _)
  refine ⟨.ref (s.heap.objs.size + 1), upd H _ (.lst (ys.map V.str)), I.laid (t' := s.toks) (fun b o => PyProof.Rows.sortedAll_old) (Nat.le_succ _) ?_, rfl, q ys _ a2 a3 no⟩
  exact ⟨ly, out.toList, ep, vals_of_strs a1, at'⟩
theorem srt_rule (hc : X.calm = true) : CallR X (.builtin "sorted") (rSortedX X.K) := srt_txts.or (call_sortedD hc)
end
end Q

set_option maxHeartbeats 1000000
namespace Q
open PySem PySem.Spec L2
open PyProof.Rows hiding St

/-! ## calls of defs -/
/-- what a def promises: g's answer -/
def spM (K : PySem.W.Frag) (xr : Ex → Value → Option Addr → Hp → Prop) (g : List D → R D) (np : Nat) : Sp := fun vs H Q E => vs.length = np ∧ ∃ U ds, Dom H U ∧ reps K H U ds vs [] ∧
  match g ds with
  | .ok d => Ok1 K H U d Q
  | .exc x => ∀ c dd H', Same H H' → xr x c dd H' → E c dd H'
  | .bad => False
section
variable {X : Cx} {G : Gx} {p pos : Pos} {e : Expr} {es : List Expr} {m : E} {ms : List E}
theorem sim_call {k np : Nat} {f : Nat} {fa : Addr} {fd : FuncData} {ps : List Str} {x : Str} (hK : G.K = X.K) (tk : Takes X G.W) (F : FnOk X.prog X.w X.K X.mg X.base (L2.CX X.prog X.w) k fa fd ps (spM G.K G.xr (G.C f) np)) (hn : ms.length = np) (hr : Room k X.A) (hg : Gl X x) (hm : X.mg x = some (.ref fa))
    (hk : PySem.W.keepIn X.K (.ref fa) = true) (hb : Binds X.K fd ps []) (ha : PA X (e :: es) (tMs G ms)) (hdb : (x == ("__debug__" : Str)) = false) (he : starEach (e :: es) X.env = (false, eval e X.env) :: starEach es X.env) (hpl : (backTo pos (starEach es X.env)).any (·.1) = false) :
    PE X (.Call (.Name x p) (e :: es) [] pos) (tM G (.call f ms)) :=
  (pe_callS F hr hg hm hk hb (fun σ => passAt tk σ) ha hdb he hpl).imp fun σ H Q ⟨U, env, hd, hre, r⟩ => by
    have r' : Res G σ H ((evs G.C ms env).b fun ds => G.C f (shs ds)) fun d => Ok1 G.K H U d Q := r
    refine tMs_then hd hre r'.bind.eq fun ds vs H1 L ⟨e1, q⟩ s fr rr => ?_
    refine ⟨by rw [reps_length rr, evs_length e1]; exact hn, U, shs ds, hd.same s, ?_, ?_⟩
    · exact reps_sh ds vs L (fun a ha u => hd a u (fr.2 a ha)) (reps_set (fun a z => .inl (.inl z)) rr)
    · cases e2 : G.C f (shs ds) with
      | ok d =>
        rw [e2] at q
        have q' : Ok1 G.K H U d Q := q
        exact fun v H2 L2 s2 f2 r2 => q' v H2 L2 (s.trans s2) ⟨f2.1, fun a ha => s.free (f2.2 a ha)⟩ r2
      | exc x =>
        rw [e2] at q
        have q' : Exs G σ H x := q
        exact fun c dd H' s2 z => q' c dd H' (s.trans s2) z
      | bad => rw [e2] at q; exact q.elim
/-- a def that a local name holds, called -/
theorem pe_callLS {CX : CXT} {k i : Nat} {f : Addr} {fd : FuncData} {ps : List Str} {sp : Sp} {E : St → XK} {x : Str} {t : TA} (F : FnOk X.prog X.w X.K X.mg X.base CX k f fd ps sp) (hr : Room k X.A) (hN : X.N[i]? = some x) (hv : Vis X.env.scope x) (hk : PySem.W.keepIn X.K (.ref f) = true) (hb : Binds X.K fd ps []) (hx : ∀ σ, PassesAt CX X σ (E σ)) (ha : PA X (e :: es) t)
    (hdb : (x == ("__debug__" : Str)) = false) (hcd : (x == ("__classdict__" : Str)) = false)
    (he : starEach (e :: es) X.env = (false, eval e X.env) :: starEach es X.env) (hpl : (backTo pos (starEach es X.env)).any (·.1) = false) : PE X (.Call (.Name x p) (e :: es) [] pos) (fun σ H Q => σ[i]? = some (some (.ref f)) ∧ t σ H fun vs H1 => sp vs H1 Q (E σ)) := by
  refine ⟨fun pins s σ H Q I h => ?_⟩
  obtain ⟨hs, ht⟩ := h
  refine wpAny_Call_Name_kw (thn ((pe_var (pos := p) hN hv hdb hcd).run pins s σ H (fun v H1 => v = .ref f ∧ H1 = H) I ⟨.ref f, hs, rfl, rfl⟩) fun u s1 ⟨v, H1, I1, r1, q1⟩ => ?_)
  obtain ⟨rfl, rfl⟩ := q1
  cases r1
  refine PySem.W.callWith_K (h₀ := X.base) I.ok.mod.kin hk (thn (ha.run pos pins s1 σ _ _ I1 ht) fun us s2 ⟨vs, H2, I2, r, q⟩ => ⟨I2.kIn, ?_⟩) he hpl
  exact run_fnS F hr hb (hx σ) I2 r q
theorem sim_callv {k i : Nat} {tb : List (Str × Nat × Nat)} {x : Str} (hK : G.K = X.K) (hM : G.M i = false) (tk : Takes X G.W) (hfn : ∀ y j np, tb.lookup y = some (j, np) → ∃ fd ps, FnOk X.prog X.w X.K X.mg X.base (L2.CX X.prog X.w) k (He.ga X.K y) fd ps (spM G.K G.xr (G.C j) np) ∧ PySem.W.keepIn X.K (.ref (He.ga X.K y)) = true ∧ Binds X.K fd ps [])
    (hr : Room k X.A) (hN : X.N[i]? = some x) (hv : Vis X.env.scope x) (ha : PA X (e :: es) (tMs G ms)) (hdb : (x == ("__debug__" : Str)) = false) (hcd : (x == ("__classdict__" : Str)) = false) (he : starEach (e :: es) X.env = (false, eval e X.env) :: starEach es X.env) (hpl : (backTo pos (starEach es X.env)).any (·.1) = false) :
    PE X (.Call (.Name x p) (e :: es) [] pos) (tM G (.callv i tb ms)) := by
  refine ⟨fun pins s σ H Q I h => ?_⟩
  obtain ⟨U, env, hd, hre, r⟩ := h
  have r : Res G σ H ((look env i).b fun d => match fnIx tb d with
    | some q => (evs G.C ms env).b fun ds => if ds.length = q.2 then G.C q.1 (shs ds) else .bad
    | none => .bad) fun d => Ok1 G.K H U d Q := r
  unfold look at r
  cases q0 : env[i]? with
  | none => rw [q0] at r; exact r.elim
  | some o =>
    cases o with
    | none => rw [q0] at r; exact r.elim
    | some d0 =>
      rw [q0] at r
      obtain ⟨v, h1, h2⟩ := hre.2.1 i d0 q0 fun z => by rw [hM] at z; cases z
      rw [hM, if_neg Bool.false_ne_true] at h2
      have r' : Res G σ H (match fnIx tb d0 with
        | some q => (evs G.C ms env).b fun ds => if ds.length = q.2 then G.C q.1 (shs ds) else .bad
        | none => .bad) fun d => Ok1 G.K H U d Q := r
      cases hf : fnIx tb d0 with
      | none => rw [hf] at r'; exact r'.elim
      | some jn =>
        rw [hf] at r'
        obtain ⟨y, rfl, hl⟩ : ∃ y, d0 = .fn y ∧ tb.lookup y = some jn := by
          unfold fnIx at hf
          split at hf
          · exact ⟨_, rfl, hf⟩
          · cases hf
        obtain ⟨j, np⟩ := jn
        obtain ⟨rfl, _⟩ := h2
        obtain ⟨fd, ps, F, hk, hb⟩ := hfn y j np hl
        rw [hK] at h1
        refine (pe_callLS (E := fun σ => WE G.W σ) F hr hN hv hk hb (fun σ => passAt tk σ) ha hdb hcd he hpl).run pins s σ H Q I ⟨h1, ?_⟩
        have r' : Res G σ H ((evs G.C ms env).b fun ds => if ds.length = np then G.C j (shs ds) else .bad) fun d => Ok1 G.K H U d Q := r'
        refine tMs_then hd hre r'.bind.eq fun ds vs H1 L ⟨e1, q⟩ s fr rr => ?_
        by_cases hn : ds.length = np
        · rw [if_pos hn] at q
          refine ⟨by rw [reps_length rr]; exact hn, U, shs ds, hd.same s, ?_, ?_⟩
          · exact reps_sh ds vs L (fun a ha u => hd a u (fr.2 a ha)) (reps_set (fun a z => .inl (.inl z)) rr)
          · cases e2 : G.C j (shs ds) with
            | ok d =>
              rw [e2] at q
              have q' : Ok1 G.K H U d Q := q
              exact fun v H2 L2 s2 f2 r2 => q' v H2 L2 (s.trans s2) ⟨f2.1, fun a ha => s.free (f2.2 a ha)⟩ r2
            | exc x =>
              rw [e2] at q
              have q' : Exs G σ H x := q
              exact fun c dd H' s2 z => q' c dd H' (s.trans s2) z
            | bad => rw [e2] at q; exact q.elim
        · rw [if_neg hn] at q; exact q.elim
theorem sim_call0 {k : Nat} {f : Nat} {fa : Addr} {fd : FuncData} {ps : List Str} {x : Str} (hK : G.K = X.K) (F : FnOk X.prog X.w X.K X.mg X.base (L2.CX X.prog X.w) k fa fd ps (spM G.K G.xr (G.C f) 0)) (hr : Room k X.A) (hg : Gl X x) (hm : X.mg x = some (.ref fa))
    (hk : PySem.W.keepIn X.K (.ref fa) = true) (hb : Binds X.K fd ps []) (hdb : (x == ("__debug__" : Str)) = false) : PE X (.Call (.Name x p) [] [] pos) (tM G (.call0 f)) :=
  (pe_call0 F hr hg hm hk hb .nil passL hdb).imp fun σ H Q ⟨U, env, hd, hre, r⟩ => by
    have r' : Res G σ H (G.C f []).quiet fun d => Ok1 G.K H U d Q := r
    refine ⟨rfl, U, [], hd, ⟨rfl, rfl⟩, ?_⟩
    cases e2 : G.C f [] with
    | ok d => rw [e2] at r'; exact r'
    | exc x => rw [e2] at r'; exact r'.elim
    | bad => rw [e2] at r'; exact r'.elim

/-! ## built-in functions -/
def CallOk (K : PySem.W.Frag) (f : List D → R D) (r : List V → Hp → VK → Prop) : Prop := ∀ (H : Hp) (U : Addr → Prop) (L : List Addr) (ds : List D) (d : D) (vs : List V) (Q : VK), f ds = .ok d → reps K H (Or2 U L) ds vs L → L.Nodup → (∀ a ∈ L, ¬ U a) → Fin K H U L d Q → r vs H Q
theorem CallOk.or {K : PySem.W.Frag} {f f1 f2 : List D → R D} {r r' : List V → Hp → VK → Prop} (h : CallOk K f1 r) (h' : CallOk K f2 r') (c : ∀ ds d, f ds = .ok d → f1 ds = .ok d ∨ f2 ds = .ok d) : CallOk K f (fun xs H Q => r xs H Q ∨ r' xs H Q) := fun H U L ds d vs Q e a b z i =>
  (c ds d e).elim (fun q => .inl (h H U L ds d vs Q q a b z i)) fun q => .inr (h' H U L ds d vs Q q a b z i)
theorem bf_run {f : List D → R D} {r : List V → Hp → VK → Prop} {σ : St} {H : Hp} {U : Addr → Prop} {env : Env} {Q : VK} (ok : CallOk G.K f r) (ne : ∀ ds x, f ds ≠ .exc x) (hd : Dom H U) (he : RepE G H U σ env) (h : Res G σ H ((evs G.C ms env).b f) fun d => Ok1 G.K H U d Q) :
    tCB r (tMs G ms) σ H Q := by
  refine tMs_then hd he h.bind fun ds vs H1 L q s fr rr => ?_
  cases e : f ds with
  | ok d =>
    rw [e] at q
    exact ok H1 U L ds d vs Q e rr fr.1 (fun a ha u => hd a u (fr.2 a ha)) (Ok1.fin q s fr)
  | exc x => exact absurd e (ne _ _)
  | bad => rw [e] at q; exact q.elim
theorem sim_bfB {id : String} {x : Str} {b : BF} {r : List V → Hp → VK → Prop} (hc : CallR X (.builtin id) r) (ok : CallOk G.K (bfun b) r) (ne : ∀ ds x, bfun b ds ≠ .exc x) (hg : Gl X x) (hm : X.mg x = none) (hv : bootBuiltins x = some (.builtin id)) (ha : PA X (e :: es) (tMs G ms)) (hn : x ≠ "__name__") (hdb : (x == ("__debug__" : Str)) = false)
    (he : starEach (e :: es) X.env = (false, eval e X.env) :: starEach es X.env) (hpl : (backTo pos (starEach es X.env)).any (·.1) = false) : PE X (.Call (.Name x p) (e :: es) [] pos) (tM G (.bf b ms)) :=
  (pe_callB hc hg hm hv ha hn hdb he hpl).imp fun σ H Q ⟨U, env, hd, hre, h⟩ => bf_run ok ne hd hre h
theorem sim_bfT {T : String} {x : Str} {b : BF} {r : List V → Hp → VK → Prop} (hc : CallR X (.type T) r) (ok : CallOk G.K (bfun b) r) (ne : ∀ ds x, bfun b ds ≠ .exc x) (hg : Gl X x) (hm : X.mg x = none) (hv : bootBuiltins x = some (.type T)) (ha : PA X (e :: es) (tMs G ms)) (hn : x ≠ "__name__") (hdb : (x == ("__debug__" : Str)) = false)
    (he : starEach (e :: es) X.env = (false, eval e X.env) :: starEach es X.env) (hpl : (backTo pos (starEach es X.env)).any (·.1) = false) : PE X (.Call (.Name x p) (e :: es) [] pos) (tM G (.bf b ms)) :=
  (pe_callTy hc hg hm hv ha hn hdb he hpl).imp fun σ H Q ⟨U, env, hd, hre, h⟩ => bf_run ok ne hd hre h
end
section
variable {K : PySem.W.Frag}
theorem reps1 {H : Hp} {U : Addr → Prop} {d : D} {vs : List V} {L : List Addr} (h : reps K H U [d] vs L) : ∃ v, vs = [v] ∧ rep K H U d v L := by
  obtain ⟨v, vr, L1, L2, rfl, rfl, h1, rfl, rfl⟩ := h
  exact ⟨v, rfl, by rw [List.append_nil]; exact h1⟩
theorem reps2 {H : Hp} {U : Addr → Prop} {d e : D} {vs : List V} {L : List Addr} (h : reps K H U [d, e] vs L) : ∃ v w L1 L2, vs = [v, w] ∧ L = L1 ++ L2 ∧ rep K H U d v L1 ∧ rep K H U e w L2 := by
  obtain ⟨v, vr, L1, L2, rfl, rfl, h1, h2⟩ := h
  obtain ⟨w, rfl, h3⟩ := reps1 h2
  exact ⟨v, w, L1, L2, rfl, rfl, h1, h3⟩
/-! len -/
def rLenX (K : PySem.W.Frag) : List V → Hp → VK → Prop := fun xs H Q => (∃ x n, xs = [x] ∧ LenV K x H n ∧ Q (.int n) H) ∨ (∃ a kvs, xs = [V.ref a] ∧ H a = some (.dK kvs) ∧ Q (.int kvs.length) H) ∨ rLenT xs H Q
theorem len_ok : CallOk K (bfun .len) (rLenX K) := by
  intro H U L ds d vs Q e rr n hu fin
  have e : fLen ds = .ok d := e
  unfold fLen at e
  split at e <;> cases e
  · obtain ⟨v, rfl, r⟩ := reps1 rr
    obtain ⟨a, ws, L', rfl, q, r1, _⟩ := sq_of_lst r
    exact .inl ⟨_, _, rfl, .inl ⟨ws, q, rfl⟩, by rw [reps_length r1]; exact fin.int⟩
  · obtain ⟨v, rfl, r⟩ := reps1 rr
    obtain ⟨a, ws, ⟨rfl, _⟩, q, r1⟩ := r
    exact .inl ⟨_, _, rfl, .inr ⟨ws, q, rfl⟩, by rw [reps_length r1]; exact fin.int⟩
  · obtain ⟨v, rfl, r⟩ := reps1 rr
    obtain ⟨rfl, k, rfl⟩ := r
    exact .inl ⟨_, _, rfl, ⟨by rw [toS_len, ← lim_eq]; exact k.1, rfl⟩, by rw [toS_len]; exact fin.int⟩
  · obtain ⟨v, rfl, r⟩ := reps1 rr
    obtain ⟨a, ks, L', rfl, r1, h, _⟩ := r
    exact .inr (.inl ⟨a, ks, rfl, h, by rw [repk_length r1.1]; exact fin.int⟩)
  · obtain ⟨v, rfl, r⟩ := reps1 rr
    obtain ⟨a, ks, rfl, h, m, _⟩ := r
    refine .inr (.inr ⟨a, ks, rfl, h, ?_⟩)
    have hl := congrArg List.length m
    rw [List.length_map, List.length_map] at hl
    rw [hl]
    exact fin.int
  · obtain ⟨v, rfl, r⟩ := reps1 rr
    obtain ⟨a, ws, ⟨rfl, _⟩, ⟨o, h1, _⟩, hp, _⟩ := r
    exact .inl ⟨_, _, rfl, .inr ⟨ws, .inl (.inr ⟨o, h1⟩), rfl⟩, by rw [← Paired.length hp]; exact fin.int⟩
/-! sums, greatest, least -/
theorem sum_ok : CallOk K (bfun .sum) (rSum K) := by
  intro H U L ds d vs Q e rr n hu fin
  have e : fSum ds = .ok d := e
  unfold fSum at e
  split at e
  · split at e <;> cases e
    rename_i h
    obtain ⟨v, rfl, r⟩ := reps1 rr
    obtain ⟨a, ws, L', rfl, q, r1, _⟩ := sq_of_lst r
    rw [intsOf_some h] at r1
    obtain ⟨rfl, _⟩ := reps_ints r1
    exact ⟨a, _, rfl, q, fin.int⟩
  · cases e
theorem maxL_spec : ∀ (n : Int) (ns : List Int), maxL (n :: ns) ∈ n :: ns ∧ ∀ y ∈ n :: ns, y ≤ maxL (n :: ns)
  | n, [] => ⟨List.mem_cons_self, fun y hy => by have e : y = n := by simpa using hy
                                                 rw [e]; exact Int.le_refl _⟩
  | n, m :: ns => by
    obtain ⟨h1, h2⟩ := maxL_spec m ns
    have e : maxL (n :: m :: ns) = max n (maxL (m :: ns)) := rfl
    rw [e]
    refine ⟨?_, fun y hy => ?_⟩
    · by_cases h : n ≤ maxL (m :: ns)
      · rw [Int.max_eq_right h]; exact List.mem_cons_of_mem _ h1
      · rw [Int.max_eq_left (by omega)]; exact List.mem_cons_self
    · rcases List.mem_cons.mp hy with rfl | hy
      · omega
      · have := h2 y hy; omega
theorem minL_spec : ∀ (n : Int) (ns : List Int), minL (n :: ns) ∈ n :: ns ∧ ∀ y ∈ n :: ns, minL (n :: ns) ≤ y
  | n, [] => ⟨List.mem_cons_self, fun y hy => by have e : y = n := by simpa using hy
                                                 rw [e]; exact Int.le_refl _⟩
  | n, m :: ns => by
    obtain ⟨h1, h2⟩ := minL_spec m ns
    have e : minL (n :: m :: ns) = min n (minL (m :: ns)) := rfl
    rw [e]
    refine ⟨?_, fun y hy => ?_⟩
    · by_cases h : n ≤ minL (m :: ns)
      · rw [Int.min_eq_left h]; exact List.mem_cons_self
      · rw [Int.min_eq_right (by omega)]; exact List.mem_cons_of_mem _ h1
    · rcases List.mem_cons.mp hy with rfl | hy
      · omega
      · have := h2 y hy; omega
def tpD (q : List Int) : PyData := .tuple (q.map .int)
theorem toksAll_ints : ∀ a b : List Int, PyProof.Rows.lexLt itemOrd (PySem.W.keyToksAll (a.map PyData.int)) (PySem.W.keyToksAll (b.map PyData.int)) = HT.lexLt a b
  | [], [] => rfl
  | [], b :: bs => rfl
  | a :: as, [] => rfl
  | a :: as, b :: bs => by
    have e : ∀ (x : Int) (xs : List Int), PySem.W.keyToksAll ((x :: xs).map PyData.int) = .inl 1 :: .inl x :: PySem.W.keyToksAll (xs.map PyData.int) := fun _ _ => rfl
    rw [e, e, lex_self (O := itemOrd), HT.lexLt_cons]
    by_cases q : a = b
    · subst q
      rw [if_pos rfl, lex_self (O := itemOrd), toksAll_ints as bs]
    · rw [if_neg q, lex_diff (O := itemOrd) (fun h => q (Sum.inl.inj h))]
      rfl
theorem lt_tpD (a b : List Int) : PySem.W.dataLt (tpD a) (tpD b) = ltL a b := toksAll_ints a b
theorem maxTp_eq : ∀ (ps : List (List Int)) (p : List Int), PySem.W.maxD (tpD p) (ps.map tpD) = tpD (maxT p ps)
  | [], p => rfl
  | q :: ps, p => by
    show PySem.W.maxD (if PySem.W.dataLt (tpD p) (tpD q) then tpD q else tpD p) (ps.map tpD) = tpD (maxT (if ltL p q then q else p) ps)
    rw [lt_tpD]
    cases ltL p q
    · exact maxTp_eq ps p
    · exact maxTp_eq ps q
theorem tpD_inj {a b : List Int} (h : tpD a = tpD b) : a = b := by
  have : ∀ a b : List Int, a.map PyData.int = b.map PyData.int → a = b := by
    intro a
    induction a with
    | nil => intro b h; cases b with
      | nil => rfl
      | cons y ys => cases h
    | cons x xs ih => intro b h; cases b with
      | nil => cases h
      | cons y ys =>
        injection h with h1 h2
        injection h1 with h1
        rw [h1, ih ys h2]
  injection h with h
  exact this a b h
theorem alike_ints : ∀ a b : List Int, PySem.W.alikeAll (a.map PyData.int) (b.map PyData.int) = true
  | [], b => by cases b <;> rfl
  | a :: as, [] => rfl
  | a :: as, b :: bs => by
    show (PySem.W.alike (.int a) (.int b) && PySem.W.alikeAll (as.map PyData.int) (bs.map PyData.int)) = true
    rw [alike_ints as bs]; rfl
theorem depth_ints : ∀ a : List Int, PyData.depthAll (a.map PyData.int) ≤ 1
  | [] => by decide
  | a :: as => by
    have := depth_ints as
    show max (PyData.depth (.int a)) (PyData.depthAll (as.map PyData.int)) ≤ 1
    have : PyData.depth (.int a) ≤ 1 := by simp [PyData.depth]
    omega
theorem depth_tps : ∀ ps : List (List Int), PyData.depthAll (ps.map tpD) ≤ 2
  | [] => by decide
  | p :: ps => by
    have := depth_tps ps
    have h2 := depth_ints p
    show max (PyData.depth (tpD p)) (PyData.depthAll (ps.map tpD)) ≤ 2
    have : PyData.depth (tpD p) ≤ 2 := by show PyData.depthAll (p.map PyData.int) + 1 ≤ 2; omega
    omega
def rMaxT (K : PySem.W.Frag) : List V → Hp → VK → Prop := fun vs H Q => ∃ a ws p ps, vs = [V.ref a] ∧ SqL K H a ws ∧ DpAll K H ws ((p :: ps).map tpD) ∧ ∀ (i : Nat) w, ws[i]? = some w → (p :: ps)[i]? = some (maxT p ps) → Q w H
theorem cr_maxT {X : Cx} (hc : X.calm = true) (hu : X.A.units + 65 < cLine) : CallR X (.builtin "max") (rMaxT X.K) := by
  intro pins s σ H vs us Q I r h
  obtain ⟨a, ws, p, ps, rfl, hs, hd, q⟩ := h
  obtain ⟨its, rv, hl, _⟩ := I.list hs
  rw [Vals.ref1 r]
  obtain ⟨as, hr⟩ := Dp.readsAll I _ ws its hd rv
  have hdep := depth_tps (p :: ps)
  refine PySem.W.max_list_data (x := tpD p) (xs := ps.map tpD) (as := as) (I.ok.hd hc) hl.isList (by simpa using hr) ⟨fun x hx y hy => ?_, fun x hx => ?_⟩ (by show _ + 1 + PyData.depthAll ((p :: ps).map tpD) < _; omega) fun i v h' tk bs hv hR hk => ?_
  · obtain ⟨x, _, rfl⟩ := List.mem_map.mp (show x ∈ (p :: ps).map tpD from hx)
    obtain ⟨y, _, rfl⟩ := List.mem_map.mp (show y ∈ (p :: ps).map tpD from hy)
    exact alike_ints x y
  · obtain ⟨x, _, rfl⟩ := List.mem_map.mp (show x ∈ (p :: ps).map tpD from hx)
    exact fun h => nomatch h
  · obtain ⟨bs', r1, r2, _, _⟩ := PySem.W.readsAll_at hr i v (by simpa using hv)
    have r3 := Reads.keeps hk r1
    have e1 := (PyProof.Rows.reads_det (fun b o e _ => e) r3 hR).1
    have hi : i < (p :: ps).length := by simpa using r2
    have e2 : ((p :: ps).map tpD).getD i .none = tpD (p :: ps)[i] := by
      rw [List.getD_eq_getElem?_getD, List.getElem?_map, List.getElem?_eq_getElem hi]; rfl
    rw [e2, maxTp_eq] at e1
    have e3 := tpD_inj e1
    have hl2 : ws.length = its.length := rv.length
    have hi2 : i < its.length := by
      have := (List.getElem?_eq_some_iff.mp (show its[i]? = some v by simpa using hv)).1
      exact this
    obtain ⟨u, hu1, hu2⟩ := rv.get (List.getElem?_eq_getElem (show i < ws.length by omega))
    have hu3 : u = v := by
      have h1 : its[i]? = some v := by simpa using hv
      rw [h1] at hu1
      exact (Option.some.inj hu1).symm
    subst hu3
    exact ⟨ws[i], H, I.kept hk, hu2, q i _ (List.getElem?_eq_getElem (by omega)) (by rw [List.getElem?_eq_getElem hi, ← e3])⟩
theorem tupsOf_some : ∀ {ds : List D} {ps : List (List Int)}, tupsOf ds = some ps → ds = ps.map fun p => D.tup (p.map D.int)
  | [], ps, h => by cases h; rfl
  | d :: r, ps, h => by
    cases d with
    | tup a =>
      have h : (match intsOf a with
        | some p => (tupsOf r).map (p :: ·)
        | none => none) = some ps := h
      split at h
      · rename_i p hp
        obtain ⟨qs, h1, rfl⟩ := Option.map_eq_some_iff.mp h
        rw [tupsOf_some h1, intsOf_some hp]; rfl
      · cases h
    | _ => cases h
theorem deps_tps : ∀ ps : List (List Int), deps (ps.map fun p => D.tup (p.map D.int)) ≤ 1
  | [] => Nat.zero_le _
  | p :: ps => by
    have h1 := deps_tps ps
    have h2 : ∀ p : List Int, deps (p.map D.int) = 0 := fun p => by
      induction p with
      | nil => rfl
      | cons x xs ih => show max 0 (deps (xs.map D.int)) = 0; omega
    show max (deps (p.map D.int) + 1) (deps (ps.map fun p => D.tup (p.map D.int))) ≤ 1
    have := h2 p
    omega
theorem pys_tps (ps : List (List Int)) : pys (ps.map fun p => D.tup (p.map D.int)) = ps.map tpD := by
  rw [pys_map, List.map_map]
  refine List.map_congr_left fun p _ => ?_
  show PyData.tuple (pys (p.map D.int)) = _
  rw [pys_map, List.map_map]; rfl
theorem max_ok : CallOk K (bfun .max) (fun xs H Q => (rMax K xs H Q ∨ rMaxT K xs H Q) ∨ ∃ i j, xs = [.int i, .int j] ∧ Q (.int (if j > i then j else i)) H) := by
  intro H U L ds d vs Q e rr n hu fin
  have e : fMax ds = .ok d := e
  unfold fMax at e
  split at e
  · split at e
    rotate_left
    · split at e <;> cases e
      rename_i p ps hp
      obtain ⟨v, rfl, r⟩ := reps1 rr
      obtain ⟨a, ws, L', rfl, q, r1, _⟩ := sq_of_lst r
      rw [tupsOf_some hp] at r1
      have hd := dps_of _ ws L' (Nat.lt_of_le_of_lt (deps_tps (p :: ps)) (by omega)) r1
      rw [pys_tps] at hd
      refine .inl (.inr ⟨a, ws, p, ps, rfl, q, hd, fun i w hw hi => ?_⟩)
      obtain ⟨w', M, h1, h2, _, _⟩ := reps_get (i := i) (d := .tup ((maxT p ps).map D.int)) r1 (by rw [List.getElem?_map, hi]; rfl)
      rw [hw] at h1
      cases h1
      obtain ⟨b, us, hb, hq, hr⟩ := (show ∃ b us, (w = V.ref b ∧ ((maxT p ps).map D.int).length ≤ lim) ∧ SqT K H b us ∧ reps K H (Or2 U L) ((maxT p ps).map D.int) us M from h2)
      obtain ⟨rfl, rfl⟩ := reps_ints hr
      exact fin _ _ [] (Same.refl H) .nil (fun _ z => nomatch z) (rep_set (fun x u => .inl (.inl u.nil)) h2)
    cases e
    rename_i k ks h
    obtain ⟨v, rfl, r⟩ := reps1 rr
    obtain ⟨a, ws, L', rfl, q, r1, _⟩ := sq_of_lst r
    rw [intsOf_some h] at r1
    obtain ⟨rfl, _⟩ := reps_ints r1
    refine .inl (.inl ⟨a, _, rfl, q, by simp, fun m hm hle => ?_⟩)
    obtain ⟨h1, h2⟩ := maxL_spec k ks
    have e : m = maxL (k :: ks) := by have := h2 m hm; have := hle _ h1; omega
    rw [e]
    exact fin.int
  · cases e
    obtain ⟨v, w, L1, L2, rfl, rfl, ⟨rfl, rfl⟩, ⟨rfl, rfl⟩⟩ := reps2 rr
    refine .inr ⟨_, _, rfl, ?_⟩
    have := fin.int
    rename_i i j
    rw [show (if j > i then j else i) = max i j by split <;> omega]
    exact this
  · cases e
mutual
theorem toks_py : ∀ d : D, intD d = true → PySem.W.keyToks (py d) = (keyI d).map Sum.inl
  | .int n, _ => rfl
  | .tup xs, h => toks_pys xs h
  | .lst o xs, h => toks_pys xs (Bool.and_eq_true_iff.mp h).2
  | .non, h => nomatch h
  | .bl _, h => nomatch h
  | .str _, h => nomatch h
  | .dic _ _, h => nomatch h
  | .dct _ _, h => nomatch h
  | .ptu _, h => nomatch h
  | .fn _, h => nomatch h
theorem toks_pys : ∀ ds : List D, alintD ds = true → PySem.W.keyToksAll (pys ds) = (keysI ds).map Sum.inl
  | [], _ => rfl
  | d :: r, h => by
    obtain ⟨h1, h2⟩ := Bool.and_eq_true_iff.mp (show (intD d && alintD r) = true from h)
    show Sum.inl 1 :: (PySem.W.keyToks (py d) ++ PySem.W.keyToksAll (pys r)) = (1 :: (keyI d ++ keysI r)).map Sum.inl
    rw [toks_py d h1, toks_pys r h2, List.map_cons, List.map_append]
end
theorem lex_inl : ∀ a b : List Int, PyProof.Rows.lexLt itemOrd (a.map Sum.inl) (b.map Sum.inl) = HT.lexLt a b
  | [], [] => rfl
  | [], b :: bs => rfl
  | a :: as, [] => rfl
  | a :: as, b :: bs => by
    rw [List.map_cons, List.map_cons, HT.lexLt_cons]
    by_cases q : a = b
    · subst q
      rw [if_pos rfl, lex_self (O := itemOrd), lex_inl as bs]
    · rw [if_neg q, lex_diff (O := itemOrd) (fun h => q (Sum.inl.inj h))]
      rfl
theorem lt_py {a b : D} (ha : intD a = true) (hb : intD b = true) : PySem.W.dataLt (py a) (py b) = ltL (keyI a) (keyI b) := by
  unfold PySem.W.dataLt
  rw [toks_py a ha, toks_py b hb]
  exact lex_inl _ _
mutual
theorem alike_py : ∀ (d e : D), alI d e = true → PySem.W.alike (py d) (py e) = true
  | .int n, e, h => by
    cases e with
    | int m => rfl
    | _ => cases h
  | .tup xs, e, h => by
    cases e with
    | tup ys => exact alikes_py xs ys h
    | _ => exact nomatch h
  | .lst o xs, e, h => by
    cases e with
    | lst o' ys => exact alikes_py xs ys h
    | _ => exact nomatch h
  | .non, e, h => nomatch h
  | .bl _, e, h => nomatch h
  | .str _, e, h => nomatch h
  | .dic _ _, e, h => nomatch h
  | .dct _ _, e, h => nomatch h
  | .ptu _, e, h => nomatch h
  | .fn _, e, h => nomatch h
theorem alikes_py : ∀ (ds es : List D), alsI ds es = true → PySem.W.alikeAll (pys ds) (pys es) = true
  | [], es, h => by cases es <;> rfl
  | d :: r, [], h => rfl
  | d :: r, e :: es, h => by
    obtain ⟨h1, h2⟩ := Bool.and_eq_true_iff.mp (show (alI d e && alsI r es) = true from h)
    show (PySem.W.alike (py d) (py e) && PySem.W.alikeAll (pys r) (pys es)) = true
    rw [alike_py d e h1, alikes_py r es h2]; rfl
end
mutual
theorem depth_py : ∀ d : D, intD d = true → PyData.depth (py d) ≤ dep d + 1
  | .int n, _ => by show PyData.depth (.int n) ≤ 0 + 1; simp [PyData.depth]
  | .tup xs, h => by
    have := depths_py xs h
    show PyData.depthAll (pys xs) + 1 ≤ deps xs + 1 + 1
    omega
  | .lst o xs, h => by
    have := depths_py xs (Bool.and_eq_true_iff.mp h).2
    show PyData.depthAll (pys xs) + 1 ≤ deps xs + 1 + 1
    omega
  | .non, h => nomatch h
  | .bl _, h => nomatch h
  | .str _, h => nomatch h
  | .dic _ _, h => nomatch h
  | .dct _ _, h => nomatch h
  | .ptu _, h => nomatch h
  | .fn _, h => nomatch h
theorem depths_py : ∀ ds : List D, alintD ds = true → PyData.depthAll (pys ds) ≤ deps ds + 1
  | [], _ => Nat.zero_le _
  | d :: r, h => by
    obtain ⟨h1, h2⟩ := Bool.and_eq_true_iff.mp (show (intD d && alintD r) = true from h)
    have a1 := depth_py d h1
    have a2 := depths_py r h2
    show max (PyData.depth (py d)) (PyData.depthAll (pys r)) ≤ max (dep d) (deps r) + 1
    omega
end
mutual
theorem py_inj : ∀ d e : D, intD d = true → intD e = true → py d = py e → sh d = sh e
  | .int n, e, h1, h2, h => by
    cases e with
    | int m => injection h with h; rw [h]
    | tup _ => exact nomatch h
    | lst _ _ => exact nomatch h
    | _ => exact nomatch h2
  | .tup xs, e, h1, h2, h => by
    cases e with
    | int m => exact nomatch h
    | tup ys =>
      injection h with h
      show D.tup (shs xs) = D.tup (shs ys)
      rw [pys_inj xs ys h1 h2 h]
    | lst _ _ => exact nomatch h
    | _ => exact nomatch h2
  | .lst o xs, e, h1, h2, h => by
    cases e with
    | int m => exact nomatch h
    | tup ys => exact nomatch h
    | lst o' ys =>
      injection h with h
      obtain ⟨a1, a2⟩ := Bool.and_eq_true_iff.mp h1
      obtain ⟨b1, b2⟩ := Bool.and_eq_true_iff.mp h2
      show D.lst o.sh (shs xs) = D.lst o'.sh (shs ys)
      rw [pys_inj xs ys a2 b2 h]
      cases o <;> cases o' <;> first | rfl | (cases a1; done) | (cases b1; done)
    | _ => exact nomatch h2
  | .non, e, h1, h2, h => nomatch h1
  | .bl _, e, h1, h2, h => nomatch h1
  | .str _, e, h1, h2, h => nomatch h1
  | .dic _ _, e, h1, h2, h => nomatch h1
  | .dct _ _, e, h1, h2, h => nomatch h1
  | .ptu _, e, h1, h2, h => nomatch h1
  | .fn _, e, h1, h2, h => nomatch h1
theorem pys_inj : ∀ ds es : List D, alintD ds = true → alintD es = true → pys ds = pys es → shs ds = shs es
  | [], [], _, _, _ => rfl
  | [], e :: es, _, _, h => nomatch h
  | d :: r, [], _, _, h => nomatch h
  | d :: r, e :: es, h1, h2, h => by
    obtain ⟨a1, a2⟩ := Bool.and_eq_true_iff.mp (show (intD d && alintD r) = true from h1)
    obtain ⟨b1, b2⟩ := Bool.and_eq_true_iff.mp (show (intD e && alintD es) = true from h2)
    injection h with g1 g2
    show sh d :: shs r = sh e :: shs es
    rw [py_inj d e a1 b1 g1, pys_inj r es a2 b2 g2]
end
theorem alintD_mem : ∀ {ds : List D}, alintD ds = true → ∀ d ∈ ds, intD d = true
  | x :: r, h, d, hd => by
    obtain ⟨a1, a2⟩ := Bool.and_eq_true_iff.mp (show (intD x && alintD r) = true from h)
    rcases List.mem_cons.mp hd with rfl | hd
    · exact a1
    · exact alintD_mem a2 d hd
theorem minD_py : ∀ (r : List D) (x : D), intD x = true → alintD r = true → PySem.W.minD (py x) (pys r) = py (minDD x r) ∧ intD (minDD x r) = true
  | [], x, hx, _ => ⟨rfl, hx⟩
  | y :: r, x, hx, hr => by
    obtain ⟨a1, a2⟩ := Bool.and_eq_true_iff.mp (show (intD y && alintD r) = true from hr)
    show PySem.W.minD (if PySem.W.dataLt (py y) (py x) then py y else py x) (pys r) = py (minDD (if ltL (keyI y) (keyI x) then y else x) r) ∧ intD (minDD (if ltL (keyI y) (keyI x) then y else x) r) = true
    rw [lt_py a1 hx]
    cases ltL (keyI y) (keyI x)
    · exact minD_py r x hx a2
    · exact minD_py r y a1 a2
def rMinG (K : PySem.W.Frag) : List V → Hp → VK → Prop := fun vs H Q => ∃ a ws x r, vs = [V.ref a] ∧ SqL K H a ws ∧ DpAll K H ws (pys (x :: r)) ∧ alintD (x :: r) = true ∧ deps (x :: r) ≤ 60 ∧ AlI (x :: r) = true ∧ ∀ (i : Nat) w d, ws[i]? = some w → (x :: r)[i]? = some d → sh d = sh (minDD x r) → Q w H
theorem cr_minG {X : Cx} (hc : X.calm = true) (hu : X.A.units + 65 < cLine) : CallR X (.builtin "min") (rMinG X.K) := by
  intro pins s σ H vs us Q I r0 h
  obtain ⟨a, ws, x, r, rfl, hs, hd, hi, hdp, hal, q⟩ := h
  obtain ⟨its, rv, hl, _⟩ := I.list hs
  rw [Vals.ref1 r0]
  obtain ⟨as, hr⟩ := Dp.readsAll I _ ws its hd rv
  obtain ⟨i1, i2⟩ := Bool.and_eq_true_iff.mp (show (intD x && alintD r) = true from hi)
  have hdep := depths_py (x :: r) hi
  have hpm : ∀ z ∈ pys (x :: r), ∃ d ∈ x :: r, z = py d := fun z hz => by
    rw [pys_map] at hz
    obtain ⟨d, h1, h2⟩ := List.mem_map.mp hz
    exact ⟨d, h1, h2.symm⟩
  refine PySem.W.min_list_data (x := py x) (xs := pys r) (as := as) (I.ok.hd hc) hl.isList (show ReadsAll s.heap its.toArray.toList (py x :: pys r) as from hr) ⟨fun y hy z hz => ?_, fun y hy => ?_⟩ (by show _ + 1 + PyData.depthAll (pys (x :: r)) < _; omega) fun i v h' tk bs hv hR hk => ?_
  · obtain ⟨d, h1, rfl⟩ := hpm y hy
    obtain ⟨e, h2, rfl⟩ := hpm z hz
    exact alike_py d e (List.all_eq_true.mp (List.all_eq_true.mp hal d h1) e h2)
  · obtain ⟨d, h1, rfl⟩ := hpm y hy
    have := alintD_mem hi d h1
    intro hn
    have hk := toks_py d this
    cases d with
    | int n => cases hn
    | tup xs => cases hn
    | lst o xs => cases hn
    | _ => cases this
  · obtain ⟨bs', r1, r2, _, _⟩ := PySem.W.readsAll_at hr i v (by simpa using hv)
    have r3 := Reads.keeps hk r1
    have e1 := (PyProof.Rows.reads_det (fun b o e _ => e) r3 hR).1
    have hil : i < (x :: r).length := by
      have : (pys (x :: r)).length = (x :: r).length := by rw [pys_map, List.length_map]
      omega
    have e2 : (pys (x :: r)).getD i .none = py (x :: r)[i] := by
      rw [pys_map, List.getD_eq_getElem?_getD, List.getElem?_map, List.getElem?_eq_getElem hil]; rfl
    obtain ⟨m1, m2⟩ := minD_py r x i1 i2
    rw [e2, m1] at e1
    have e3 := py_inj _ _ m2 (alintD_mem hi _ (List.getElem_mem hil)) e1
    have hl2 : ws.length = its.length := rv.length
    have hi2 : i < its.length := (List.getElem?_eq_some_iff.mp (show its[i]? = some v by simpa using hv)).1
    obtain ⟨u, hu1, hu2⟩ := rv.get (List.getElem?_eq_getElem (show i < ws.length by omega))
    have hu3 : u = v := by
      have h1 : its[i]? = some v := by simpa using hv
      rw [h1] at hu1
      exact (Option.some.inj hu1).symm
    subst hu3
    exact ⟨ws[i], H, I.kept hk, hu2, q i _ _ (List.getElem?_eq_getElem (by omega)) (List.getElem?_eq_getElem hil) e3.symm⟩
theorem min_ok : CallOk K (bfun .min) (fun xs H Q => (rMin K xs H Q ∨ rMinG K xs H Q) ∨ ∃ i j, xs = [.int i, .int j] ∧ Q (.int (if j < i then j else i)) H) := by
  intro H U L ds d vs Q e rr n hu fin
  have e : fMin ds = .ok d := e
  unfold fMin at e
  split at e
  · split at e
    rotate_left
    · unfold fMinG at e
      split at e
      · split at e
        rotate_left
        · cases e
        rename_i x r e0 e1 hcond
        have e := R.ok.inj e
        subst e
        obtain ⟨hi, hdp, hal⟩ := hcond
        obtain ⟨v, rfl, r0⟩ := reps1 rr
        obtain ⟨a, ws, L', rfl, q, r1, hsub, hnd⟩ := sq_of_lst r0
        have hd := dps_of _ ws L' (by omega) r1
        refine .inl (.inr ⟨a, ws, x, r, rfl, q, hd, hi, hdp, hal, fun i w d hw hdi hsh => ?_⟩)
        obtain ⟨w', M, h1, h2, h3, h4⟩ := reps_get (i := i) (d := d) r1 hdi
        rw [hw] at h1
        cases h1
        rw [← hsh] at fin
        exact fin _ _ [] (Same.refl H) .nil (fun _ z => nomatch z) (rep_sh d w M (fun b hb u => hu b (hsub b (h3 b hb)) u.nil) (rep_set (fun b u => .inl (.inl u.nil)) h2))
      · cases e
    cases e
    rename_i k ks h
    obtain ⟨v, rfl, r⟩ := reps1 rr
    obtain ⟨a, ws, L', rfl, q, r1, _⟩ := sq_of_lst r
    rw [intsOf_some h] at r1
    obtain ⟨rfl, _⟩ := reps_ints r1
    refine .inl (.inl ⟨a, _, rfl, q, by simp, fun m hm hle => ?_⟩)
    obtain ⟨h1, h2⟩ := minL_spec k ks
    have e : m = minL (k :: ks) := by have := h2 m hm; have := hle _ h1; omega
    rw [e]
    exact fin.int
  · cases e
    obtain ⟨v, w, L1, L2, rfl, rfl, ⟨rfl, rfl⟩, ⟨rfl, rfl⟩⟩ := reps2 rr
    refine .inr ⟨_, _, rfl, ?_⟩
    have := fin.int
    rename_i i j
    rw [show (if j < i then j else i) = min i j by split <;> omega]
    exact this
  · cases e
theorem all_ok : CallOk K (bfun .all) (L2.rAll K) := by
  intro H U L ds d vs Q e rr n hu fin
  have e : fAll ds = .ok d := e
  unfold fAll at e
  split at e
  · split at e <;> cases e
    rename_i h
    obtain ⟨v, rfl, r⟩ := reps1 rr
    obtain ⟨a, ws, L', rfl, q, r1, _⟩ := sq_of_lst r
    rw [blsOf_some h] at r1
    obtain ⟨rfl, _⟩ := reps_bls r1
    exact ⟨a, _, rfl, q, fin.bl⟩
  · cases e
theorem any_ok : CallOk K (bfun .any) (L2.rAny K) := by
  intro H U L ds d vs Q e rr n hu fin
  have e : fAny ds = .ok d := e
  unfold fAny at e
  split at e
  · split at e <;> cases e
    rename_i h
    obtain ⟨v, rfl, r⟩ := reps1 rr
    obtain ⟨a, ws, L', rfl, q, r1, _⟩ := sq_of_lst r
    rw [blsOf_some h] at r1
    obtain ⟨rfl, _⟩ := reps_bls r1
    exact ⟨a, _, rfl, q, fin.bl⟩
  · cases e
theorem int_ok : CallOk K (bfun .int) (fun xs H Q => (∃ i, xs = [.int i] ∧ Q (.int i) H) ∨ ∃ k, xs = [.bl k] ∧ Q (.int (if k then 1 else 0)) H) := by
  intro H U L ds d vs Q e rr n hu fin
  have e : fInt ds = .ok d := e
  unfold fInt at e
  split at e <;> cases e
  · obtain ⟨v, rfl, rfl, rfl⟩ := reps1 rr
    exact .inl ⟨_, rfl, fin.int⟩
  · obtain ⟨v, rfl, rfl, rfl⟩ := reps1 rr
    exact .inr ⟨_, rfl, fin.int⟩
theorem numL_sok {n : Nat} (h : n < 10 ^ 100) : Sok (TL.numL n) := by
  refine ⟨Nat.le_trans (TL.numL_len (by decide) h) (by decide), fun c hc => ?_⟩
  have := TL.numL_digits n c hc
  omega
theorem str_num {i : Int} (h0 : 0 ≤ i) : Str.ofString (toString i) = toS (TL.numL i.toNat) := by
  obtain ⟨n, rfl⟩ := Int.eq_ofNat_of_zero_le h0
  refine TL.ext_tl ?_
  rw [Int.toNat_natCast]
  exact TL.tl_num n
theorem log_small {i : Int} (h0 : 0 ≤ i) (h : i < 10 ^ 100) : i.natAbs.log2 < 1920 := by
  rcases Nat.eq_zero_or_pos i.natAbs with z | z
  · rw [z]; decide
  · have h1 : i.natAbs < 2 ^ 1920 := Nat.lt_of_lt_of_le (by omega : i.natAbs < 10 ^ 100) (by decide +kernel)
    exact (Nat.log2_lt (by omega)).mpr h1
theorem str_ok : CallOk K (bfun .str) (fun xs H Q => ∃ i, xs = [.int i] ∧ i.natAbs.log2 < 1920 ∧ Q (.str (toString i)) H) := by
  intro H U L ds d vs Q e rr n hu fin
  have e : fStr ds = .ok d := e
  unfold fStr at e
  split at e
  · split at e <;> cases e
    rename_i h
    obtain ⟨v, rfl, rfl, rfl⟩ := reps1 rr
    refine ⟨_, rfl, log_small h.1 h.2, ?_⟩
    have f := fin.str (numL_sok (by omega))
    rw [← str_num h.1] at f
    exact f
  · cases e
theorem odds_prv {H : Hp} {U : Addr → Prop} : ∀ {ds : List D} {ks : List (Cs × Int)} {vs : List V} {L : List Addr}, oddsOf ds = some ks → reps K H U ds vs L → Paired (PrV K H) ks vs ∧ ks.length = ds.length
  | [], ks, vs, L, e, r => by
    cases e
    obtain ⟨rfl, _⟩ := r
    exact ⟨.nil, rfl⟩
  | d :: ds, ks, vs, L, e, r => by
    unfold oddsOf at e
    split at e
    · rename_i q; cases q
    · rename_i c w r' q
      cases q
      obtain ⟨ks', e1, e2⟩ := Option.map_eq_some_iff.mp e
      subst e2
      obtain ⟨v, vr, L1, L2, rfl, rfl, h1, h2⟩ := r
      obtain ⟨p1, p2⟩ := odds_prv e1 h2
      obtain ⟨a, ws, ⟨rfl, _⟩, q, r3⟩ := h1
      obtain ⟨x, y, M1, M2, rfl, rfl, ⟨rfl, k, rfl⟩, ⟨rfl, rfl⟩⟩ := reps2 r3
      exact ⟨.cons ⟨a, rfl, q, k⟩ p1, congrArg (· + 1) p2⟩
    · cases e
/-- tuple(a list): a new tuple without attributes -/
theorem call_tuple_ex {X : Cx} : CallR X (.type "tuple") (fun xs H Q => ∃ p ys, xs = [.ref p] ∧ ((SqL X.K H p ys ∧ ∀ l o, H l = none → o.cls = .type "tuple" → o.dict = none → Q (.ref l) (upd H l (.frz o (.tup ys)))) ∨ (SqT X.K H p ys ∧ Q (.ref p) H))) := by
  intro pins s σ H xs us Q I r h
  obtain ⟨p, ys, rfl, h⟩ := h
  obtain ⟨u, rfl, rx⟩ := vals1 r
  cases rx
  rcases h with ⟨hq, q⟩ | ⟨hq, q⟩
  · obtain ⟨its, r', pl, hz⟩ := I.list hq
    have hlen := r'.length
    refine call_tuple_list pl.isList (fun h' kp => ?_) (by simp only [List.size_toArray] <;> omega)
    have I1 : Inv X pins σ H { s with heap := h' } := I.kept (t' := s.toks) kp
    have I2 : Inv X pins σ (upd H h'.objs.size (.frz { cls := .type "tuple", data := .seq its.toArray } (.tup ys))) { s with heap := h'.push { cls := .type "tuple", data := .seq its.toArray } } :=
      I1.laid (t' := s.toks) (fun b o e => Heap.get?_push_of_some _ e) (Nat.le_refl _) (show ObjOk X.prog X.w _ _ _ (.frz _ (.tup ys)) from ⟨Heap.get?_push_size _ rfl, hz, its, r', IsTup.new _ _⟩)
    exact ⟨.ref h'.objs.size, _, I2, rfl, q _ _ (I1.hok.fresh (Nat.le_refl _)) rfl rfl⟩
  · obtain ⟨its, r', pl, hz⟩ := I.tuple hq
    exact call_tuple_same pl ⟨.ref p, H, I, rfl, q⟩
theorem tuple_ok : CallOk K (bfun .tuple) (fun xs H Q => ∃ p ys, xs = [.ref p] ∧ ((SqL K H p ys ∧ ∀ l o, H l = none → o.cls = .type "tuple" → o.dict = none → Q (.ref l) (upd H l (.frz o (.tup ys)))) ∨ (SqT K H p ys ∧ Q (.ref p) H))) := by
  intro H U L ds d vs Q e rr n hu fin
  have e : fTuple ds = .ok d := e
  unfold fTuple at e
  split at e <;> cases e
  · obtain ⟨v, rfl, r⟩ := reps1 rr
    have hl := len_of_lst r
    obtain ⟨a, ws, L', rfl, q, r1, s1, _⟩ := sq_of_lst r
    have nT : ∀ ds : List D, ds.length ≤ lim → reps K H (Or2 U []) ds ws [] → Fin K H U L (.tup ds) Q → ∀ l o, H l = none → o.cls = .type "tuple" → o.dict = none → Q (.ref l) (upd H l (.frz o (.tup ws))) := fun ds hz r0 fin l o hp _ _ =>
      fin _ _ [] (same_upd hp) .nil (fun a ha => by cases ha) ⟨l, ws, ⟨rfl, hz⟩, .inl (.inr ⟨o, upd_same⟩), reps_same (same_upd hp) r0⟩
    refine ⟨a, ws, rfl, .inl ⟨q, ?_⟩⟩
    have r0 := reps_shN r1 s1 hu
    revert fin
    unfold tupD
    split
    · intro fin
      exact nT [] (Nat.zero_le _) r0 fin
    · split
      · rename_i ks hk
        intro fin l o hp h1 h2
        obtain ⟨p1, p2⟩ := odds_prv hk r1
        exact fin _ _ [] (same_upd hp) .nil (fun a ha => by cases ha) ⟨l, ws, ⟨rfl, by rw [p2]; exact hl⟩, ⟨o, upd_same, h1, h2⟩, paired_go (fun b xs h => SqT.same (same_upd hp) h) p1, rfl⟩
      · intro fin
        exact nT _ (by rw [shs_length]; exact hl) r0 fin
  · obtain ⟨v, rfl, r⟩ := reps1 rr
    obtain ⟨a, ws, ⟨rfl, b1⟩, q, r1⟩ := r
    exact ⟨a, ws, rfl, .inr ⟨q, fin.old (v := .ref a) n (fun b hb => hb) ⟨a, ws, ⟨rfl, b1⟩, q, r1⟩⟩⟩
theorem tupx_ok : CallOk K (bfun .tupx) (fun xs H Q => ∃ p ys, xs = [.ref p] ∧ ((SqL K H p ys ∧ ∀ l o, H l = none → o.cls = .type "tuple" → o.dict = none → Q (.ref l) (upd H l (.frz o (.tup ys)))) ∨ (SqT K H p ys ∧ Q (.ref p) H))) := by
  intro H U L ds d vs Q e rr n hu fin
  have e : fTupx ds = .ok d := e
  unfold fTupx at e
  split at e
  · cases e
    obtain ⟨v, rfl, r⟩ := reps1 rr
    obtain ⟨a, ws, L', rfl, q, r1, s1, _⟩ := sq_of_lst r
    obtain ⟨rfl, rfl⟩ := r1
    exact ⟨a, [], rfl, .inl ⟨q, fun l o hp h1 h2 => fin _ _ [] (same_upd hp) .nil (fun a ha => by cases ha) ⟨l, [], ⟨rfl, Nat.zero_le _⟩, ⟨o, upd_same, h1, h2⟩, .nil, rfl⟩⟩⟩
  · exact tuple_ok H U L ds d vs Q e rr n hu fin
theorem list_ok : CallOk K (bfun .list) (fun xs H Q => ∃ p ys, xs = [.ref p] ∧ (SqL K H p ys ∨ SqT K H p ys) ∧ ∀ l, H l = none → Q (.ref l) (upd H l (.lst ys))) := by
  intro H U L ds d vs Q e rr n hu fin
  have il := reps_in _ _ _ rr
  have e : fList ds = .ok d := e
  unfold fList at e
  split at e <;> cases e
  · obtain ⟨v, rfl, r⟩ := reps1 rr
    obtain ⟨a, ws, L', rfl, q, r1, s1, _⟩ := sq_of_lst r
    exact ⟨a, ws, rfl, .inl q, fin.newL (by rw [shs_length]; exact len_of_lst r) il .nil (fun a ha => by cases ha) (reps_shN r1 s1 hu)⟩
  · obtain ⟨v, rfl, r⟩ := reps1 rr
    obtain ⟨a, ws, ⟨rfl, b1⟩, q, r1⟩ := r
    exact ⟨a, ws, rfl, .inr q, fin.newL (by rw [shs_length]; exact b1) il .nil (fun a ha => by cases ha) (reps_shN r1 (fun b hb => hb) hu)⟩
  · obtain ⟨v, rfl, r⟩ := reps1 rr
    obtain ⟨a, ws, ⟨rfl, b1⟩, q, r1⟩ := ptu_tup r
    exact ⟨a, ws, rfl, .inr q, fin.newL (by rw [shs_length]; exact b1) il .nil (fun a ha => by cases ha) (reps_shN r1 (fun b hb => hb) hu)⟩
theorem call_dict_copy {X : Cx} : CallR X (.type "dict") (fun xs H Q => ∃ a kvs, xs = [.ref a] ∧ H a = some (.dK kvs) ∧ ∀ p, H p = none → Q (.ref p) (upd H p (.dK kvs))) := by
  intro pins s σ H xs us Q I r h
  obtain ⟨a, kvs, rfl, e, q⟩ := h
  obtain ⟨u, rfl, ru⟩ := vals1 r
  cases (show u = Value.ref a from ru)
  exact d_copyOf I (.of e) fun p s' hp I' => ⟨.ref p, _, I', rfl, q p hp⟩
def fDictC (ds : List D) : R D := match ds with
  | [.dic _ kvs] => .ok (.dic .w (shk kvs))
  | _ => .bad
def fDictT (ds : List D) : R D := match ds with
  | [.ptu ks] => .ok (.dic .w (mergeD [] (ks.map fun kv => (.inr kv.1, .int kv.2))))
  | _ => .bad
theorem dict_okC : CallOk K fDictC (fun xs H Q => ∃ a kvs, xs = [.ref a] ∧ H a = some (.dK kvs) ∧ ∀ p, H p = none → Q (.ref p) (upd H p (.dK kvs))) := by
  intro H U L ds d vs Q e rr n hu fin
  unfold fDictC at e
  split at e <;> cases e
  obtain ⟨v, rfl, r⟩ := reps1 rr
  obtain ⟨a, ks, L', rfl, ⟨r1, nk⟩, h, z⟩ := r
  have sL : ∀ b ∈ L', b ∈ L := by
    rcases z with ⟨_, rfl⟩ | ⟨_, _, rfl, rfl⟩
    · exact fun b hb => List.mem_cons_of_mem _ hb
    · exact fun b hb => hb
  refine ⟨a, ks, rfl, h, fun p hp => fin _ _ [p] (same_upd hp) (List.nodup_cons.mpr ⟨by simp, .nil⟩) (fun b hb => .inr (by have e : b = p := by simpa using hb
                                                                                                                           rw [e]; exact hp)) ⟨p, ks, [], rfl, ⟨?_, by rw [shk_keys]; exact nk⟩, upd_same, .inl ⟨rfl, rfl⟩⟩⟩
  have r2 : repk K H U _ ks L' := repk_go _ _ _ (.set fun a z => .inl (.inl z)) r1
  have r3 := repk_sh _ _ _ (fun b hb => hu b (sL b hb)) r2
  refine repk_go _ _ _ (.same (same_upd hp)) (repk_go _ _ _ (.set fun b z => ?_) r3)
  rcases z with z | z
  · exact .inl z
  · have e : b = p := by simpa using z
    rw [e]
    exact .inr hp
/-- dict(a tuple of pairs) -/
theorem pairs_at {X : Cx} {pins : List (Addr × Obj)} {σ : St} {H : Hp} {s : Shared} (I : Inv X pins σ H s) : ∀ {ks : List (Cs × Int)} {vs : List V}, Paired (PrV X.K H) ks vs →
    ∃ (bs : List Addr) (us : List (Value × Value)) (prs : List (Key × Value)), vs = bs.map V.ref ∧ bs.length = ks.length ∧ us.length = ks.length ∧ prs.length = ks.length ∧ KV (ks.map fun kv => (Sum.inr (toS kv.1), V.int kv.2)) prs ∧
      (∀ (j : Nat) k v, us[j]? = some (k, v) → ∃ b, bs[j]? = some b ∧ PairAt s.heap b k v) ∧ ∀ (j : Nat) k v, us[j]? = some (k, v) → ∃ q, prs[j]? = some (q, v) ∧ (mixKind X.prog X.w).is q k = true
  | _, _, .nil => ⟨[], [], [], rfl, rfl, rfl, rfl, .nil, (fun j k v h => by simp at h), fun j k v h => by simp at h⟩
  | _, _, .cons (a := kv) h t => by
    obtain ⟨b, rfl, q, k⟩ := h
    obtain ⟨bs, us, prs, e0, e1, e2, e3, e4, e5, e6⟩ := pairs_at I t
    obtain ⟨its, rv, ht, _⟩ := I.tuple q
    obtain ⟨u, y, ei, ru, ry⟩ := vals2 rv
    subst ei
    refine ⟨b :: bs, (u, y) :: us, (Sum.inr (toS kv.1), y) :: prs, by rw [e0]; rfl, by simp [e1], by simp [e2], by simp [e3], .cons ⟨rfl, ry⟩ e4, fun j k v h => ?_, fun j k v h => ?_⟩
    · cases j with
      | zero =>
        cases (show (u, y) = (k, v) from by simpa using h)
        exact ⟨b, rfl, .inl (show s.heap.IsTuple b #[u, y] from ht)⟩
      | succ j => obtain ⟨b', h1, h2⟩ := e5 j k v (by simpa using h); exact ⟨b', by simpa using h1, h2⟩
    · cases j with
      | zero =>
        cases (show (u, y) = (k, v) from by simpa using h)
        exact ⟨_, rfl, kV_is (P := X.prog) (w := X.w) (k := .inr (toS kv.1)) ru⟩
      | succ j => obtain ⟨q', h1, h2⟩ := e6 j k v (by simpa using h); exact ⟨q', by simpa using h1, h2⟩
def rDictT (K : PySem.W.Frag) : List V → Hp → VK → Prop := fun xs H Q => ∃ (a : Addr) (vs : List V) (ks : List (Cs × Int)), xs = [.ref a] ∧ ExT H a vs ∧ Paired (PrV K H) ks vs ∧ ∀ p, H p = none → Q (.ref p) (upd H p (.dK (mergeK [] (ks.map fun kv => (Sum.inr (toS kv.1), V.int kv.2)))))
theorem call_dict_tup {X : Cx} (hcalm : X.calm = true) : CallR X (.type "dict") (rDictT X.K) := by
  intro pins s σ H xs us0 Q I r q
  obtain ⟨a, vs, ks, ex, ⟨o, hx, hcls, hdict⟩, hp, q⟩ := q
  subst ex
  obtain ⟨u, eu, rx⟩ := vals1 r
  subst eu
  cases rx
  obtain ⟨ho, hz, its, rv, o', ho', _, n, hdat⟩ := I.hok a _ hx
  have eo : o' = o := Option.some.inj (ho'.symm.trans ho)
  subst eo
  obtain ⟨bs, us, prs, e0, e1, e2, e3, e4, e5, e6⟩ := pairs_at I hp
  subst e0
  have ei := refs_at rv
  subst ei
  rw [List.length_map] at hz
  have P := PairArg.tuple (prog := X.prog) (w := X.w) a (bs.map Value.ref).toArray (fun j => bs.getD j 0) us
  refine PySem.call_dict_pairs (knd := mixKind X.prog X.w) (kvs := prs) P (I.ok.hd hcalm) ⟨⟨o', n, ho, hcls, hdict, hdat⟩, by simp [e1, e2], fun j k v h => ?_⟩ ⟨by rw [e3, e2], fun i key v h => e6 i key v h⟩ (by rw [e2, ← e1]; exact hz) fun h' tk hd' k => ?_
  · obtain ⟨b, h1, h2⟩ := e5 j k v h
    have hb : bs.getD j 0 = b := by simp [List.getD, h1]
    show _ = some (Value.ref (bs.getD j 0)) ∧ PairAt s.heap (bs.getD j 0) k v
    rw [hb]
    exact ⟨by simp [h1], h2⟩
  · have hm : (s.heap.objs.size == sysModules) = false := beq_eq_false_iff_ne.mpr (Nat.ne_of_gt I.big)
    have hlen : (mergeK [] (ks.map fun kv => ((Sum.inr (toS kv.1) : Key), V.int kv.2))).length ≤ sizeLine := by
      refine Nat.le_trans (length_mergeK _ []) ?_
      rw [List.length_nil, Nat.zero_add, List.length_map, ← e1]
      exact hz
    exact ⟨.ref s.heap.objs.size, upd H s.heap.objs.size (.dK (mergeK [] (ks.map fun kv => (Sum.inr (toS kv.1), V.int kv.2)))), I.laid (t' := tk) (fun b o e => k b o (by simp) e) (Nat.le_refl _) (show ObjOk X.prog X.w _ _ _ (.dK _) from ⟨hlen, hm, merged [] prs, KV.merge e4 .nil, hd'⟩), rfl, q _ (I.hok.fresh (Nat.le_refl _))⟩
theorem merge_map {H : Hp} {U : Addr → Prop} : ∀ (ks : List (Cs × Int)) (acc : List (Ky × D)) (av : List (Key × V)), repk K H U acc av [] → (acc.map (·.1)).Nodup →
    repk K H U (mergeD acc (ks.map fun kv => (.inr kv.1, .int kv.2))) (mergeK av (ks.map fun kv => (Sum.inr (toS kv.1), V.int kv.2))) [] ∧ ((mergeD acc (ks.map fun kv => (.inr kv.1, .int kv.2))).map (·.1)).Nodup
  | [], acc, av, h, nk => ⟨h, nk⟩
  | (c, w) :: r, acc, av, h, nk => by
    obtain ⟨N1, p1, p2, p3⟩ := repk_put (k := .inr c) nk h (show rep K H U (.int w) (.int w) [] from ⟨rfl, rfl⟩) (by simp)
    have e : N1 = [] := List.eq_nil_iff_forall_not_mem.mpr fun a ha => by have := p2 a ha; simp at this
    subst e
    exact merge_map r _ _ p1 (putD_keys nk)
theorem dict_okT : CallOk K fDictT (rDictT K) := by
  intro H U L ds d vs Q e rr n hu fin
  unfold fDictT at e
  split at e <;> cases e
  obtain ⟨v, rfl, r⟩ := reps1 rr
  obtain ⟨a, ws, ⟨rfl, hl⟩, ex, m, rfl⟩ := r
  refine ⟨a, ws, _, rfl, ex, m, fun p hp => ?_⟩
  obtain ⟨g1, g2⟩ := merge_map (K := K) (H := upd H p (.dK (mergeK [] _))) (U := Or2 U [p]) _ [] [] ⟨rfl, rfl⟩ .nil
  exact fin _ _ [p] (same_upd hp) (List.nodup_cons.mpr ⟨by simp, .nil⟩) (fun b hb => .inr (by rw [List.mem_singleton.mp hb]; exact hp)) ⟨p, _, [], rfl, ⟨g1, g2⟩, upd_same, .inl ⟨rfl, rfl⟩⟩
theorem dict_ok : CallOk K (bfun .dict) (fun xs H Q => (∃ a kvs, xs = [.ref a] ∧ H a = some (.dK kvs) ∧ ∀ p, H p = none → Q (.ref p) (upd H p (.dK kvs))) ∨ rDictT K xs H Q) := CallOk.or dict_okC dict_okT fun ds d e => by
  have e : fDict ds = .ok d := e
  unfold fDict at e
  split at e
  · exact .inl e
  · exact .inr e
  · cases e
theorem txtKeys_some : ∀ {kvs : List (Ky × D)} {ps : List Cs}, txtKeys kvs = some ps → kvs.map (·.1) = ps.map Sum.inr
  | [], _, h => by cases h; rfl
  | (.inr s, d) :: r, ps, h => by
    have h : (txtKeys r).map (s :: ·) = some ps := h
    obtain ⟨ms, e1, e2⟩ := Option.map_eq_some_iff.mp h
    rw [← e2, List.map_cons, txtKeys_some e1]; rfl
  | (.inl i, d) :: r, ps, h => by cases h
theorem keys_Sok {H : Hp} {U : Addr → Prop} : ∀ {kvs : List (Ky × D)} {vs : List (Key × V)} {L : List Addr}, repk K H U kvs vs L → vs.map (·.1) = kvs.map (fun p => kyK p.1)
  | [], _, _, h => by rw [h.1]; rfl
  | (k, d) :: r, vs, L, h => by
    obtain ⟨v, vr, L1, L2, rfl, rfl, h1, h2⟩ := h
    rw [List.map_cons, List.map_cons, keys_Sok h2, h1.1]
theorem strs_reps {H : Hp} {U : Addr → Prop} : ∀ {ps : List Cs}, (∀ s ∈ ps, Sok s) → reps K H U (ps.map D.str) (ps.map fun s => V.str (toS s)) []
  | [], _ => ⟨rfl, rfl⟩
  | s :: r, h => ⟨_, _, [], [], rfl, rfl, ⟨rfl, h s List.mem_cons_self, rfl⟩, strs_reps fun z hz => h z (List.mem_cons_of_mem _ hz)⟩
theorem sorted_fin {H : Hp} {U : Addr → Prop} {L : List Addr} {ps : List Cs} {ys : List Str} {Q : VK} {p : Addr} (il : ∀ a ∈ L, H a ≠ none) (fin : Fin K H U L (.lst .w ((sortC ps).map D.str)) Q) (ok : ∀ s ∈ ps, Sok s) (hl : ps.length ≤ lim) (hp : ys.Perm (ps.map toS)) (hs : PyProof.Rows.sortedS ys = true) (hf : H p = none) : Q (.ref p) (upd H p (.lst (ys.map V.str))) := by
  have ok' : ∀ s ∈ sortC ps, Sok s := fun s hs => ok s ((sortC_perm ps).mem_iff.mp hs)
  rw [sortedS_one hp hs, List.map_map]
  exact fin.newL (by rw [List.length_map, (sortC_perm ps).length_eq]; exact hl) il .nil (fun a ha => by cases ha) (strs_reps ok') p hf
theorem sorted_ok : CallOk K (bfun .sorted) (rSortedX K) := by
  intro H U L ds d vs Q e rr n hu fin
  have il := reps_in _ _ _ rr
  have e : fSorted ds = .ok d := e
  unfold fSorted at e
  split at e
  · rename_i o xs _
    cases hx : strsOf xs with
    | none => rw [hx] at e; cases e
    | some ps =>
      rw [hx] at e
      cases e
      obtain ⟨v, rfl, r⟩ := reps1 rr
      obtain ⟨a, ws, L', rfl, q, r1, s1, _⟩ := sq_of_lst r
      have hl := len_of_lst r
      rw [strsOf_some hx] at r1 hl
      rw [List.length_map] at hl
      obtain ⟨rfl, rfl, ok⟩ := reps_strs r1
      exact .inl ⟨a, ps.map toS, rfl, by rw [List.map_map]; exact q, fun ys p hp hs hf => sorted_fin il fin ok hl hp hs hf⟩
  · rename_i o kvs _
    cases hx : txtKeys kvs with
    | none => rw [hx] at e; cases e
    | some ps =>
      rw [hx] at e
      by_cases c : ps.length < 64 ∧ (ps.all fun s => decide (s.length ≤ lim) && s.all fun c => decide (c < 128)) = true
      · have e : (if ps.length < 64 ∧ (ps.all fun s => decide (s.length ≤ lim) && s.all fun c => decide (c < 128)) = true then R.ok (D.lst .w ((sortC ps).map D.str)) else .bad) = .ok d := e
        rw [if_pos c] at e
        cases e
        obtain ⟨v, rfl, r⟩ := reps1 rr
        obtain ⟨a, ws, L', rfl, ⟨r1, nd⟩, ha, _⟩ := r
        have ok : ∀ s ∈ ps, Sok s := fun s hs => by
          have := List.all_eq_true.mp c.2 s hs
          rw [Bool.and_eq_true, List.all_eq_true] at this
          exact ⟨of_decide_eq_true this.1, fun x hx => of_decide_eq_true (this.2 x hx)⟩
        have hk : ws.map (·.1) = (ps.map toS).map Sum.inr := by
          rw [keys_Sok r1, show (kvs.map fun p => kyK p.1) = (kvs.map (·.1)).map kyK by rw [List.map_map]; rfl, txtKeys_some hx, List.map_map, List.map_map]
          rfl
        exact .inr ⟨a, ws, ps.map toS, rfl, .of ha, hk, by rw [List.length_map]; exact c.1, fun ys p hp hs hf => sorted_fin il fin ok (Nat.le_trans (Nat.le_of_lt c.1) (by decide)) hp hs hf⟩
      · have e : (if ps.length < 64 ∧ (ps.all fun s => decide (s.length ≤ lim) && s.all fun c => decide (c < 128)) = true then R.ok (D.lst .w ((sortC ps).map D.str)) else .bad) = .ok d := e
        rw [if_neg c] at e
        cases e
  · cases e
theorem bf_ne (b : BF) : ∀ ds x, bfun b ds ≠ .exc x := by
  intro ds x
  cases b <;> simp only [bfun, ne_eq, reduceCtorEq, not_false_eq_true] <;> first | (unfold fLen; split <;> simp; done) | (unfold fSum; split <;> (try split) <;> simp; done) | (unfold fMax; split <;> (try split) <;> (try split) <;> simp; done) | (unfold fMin fMinG; split <;> (try split) <;> (try split) <;> (try split) <;> simp; done) | (unfold fAll; split <;> (try split) <;> simp; done) | (unfold fAny; split <;> (try split) <;> simp; done) | (unfold fInt; split <;> simp; done) | (unfold fStr; split <;> (try split) <;> simp; done) | (unfold fTuple; split <;> simp; done) | (unfold fTupx fTuple; split <;> (try split) <;> simp; done) | (unfold fList; split <;> simp; done) | (unfold fDict; split <;> simp; done) | (unfold fMaxd; split <;> (try split) <;> simp; done) | (unfold fSorted; split <;> (try split) <;> (try split) <;> simp; done)
end
/-- the built-in functions' rules -/
inductive BK where
  | fn (id : String) | ty (T : String)
def bfK : BF → Option (String × BK)
  | .len => some ("len", .fn "len")
  | .sum => some ("sum", .fn "sum")
  | .max => some ("max", .fn "max")
  | .min => some ("min", .fn "min")
  | .all => some ("all", .fn "all")
  | .any => some ("any", .fn "any")
  | .int => some ("int", .ty "int")
  | .str => some ("str", .ty "str")
  | .tuple => some ("tuple", .ty "tuple")
  | .list => some ("list", .ty "list")
  | .dict => some ("dict", .ty "dict")
  | .maxd => none
  | .sorted => some ("sorted", .fn "sorted")
  | .tupx => some ("tuple", .ty "tuple")
theorem len_rule {X : Cx} : CallR X (.builtin "len") (rLenX X.K) := call_len.or (call_lenD.or call_len_dT)
section
variable {X : Cx} {G : Gx} {p pos : Pos} {e : Expr} {es : List Expr} {m : E} {ms : List E}
theorem sim_bf (hK : G.K = X.K) (b : BF) (hc : b ≠ .int → X.calm = true) (hu : X.A.units + 65 < cLine) {n : String} {k : BK} (hb : bfK b = some (n, k)) {x : Str} (hx : x = Str.ofString n) (hg : Gl X x) (hm : X.mg x = none) (ha : PA X (e :: es) (tMs G ms)) (hdb : (x == ("__debug__" : Str)) = false)
    (he : starEach (e :: es) X.env = (false, eval e X.env) :: starEach es X.env) (hpl : (backTo pos (starEach es X.env)).any (·.1) = false) : PE X (.Call (.Name x p) (e :: es) [] pos) (tM G (.bf b ms)) := by
  subst hx
  have nn : ∀ z : Str, z = Str.ofString "len" ∨ True := fun _ => .inr trivial
  cases b <;> cases hb
  · exact sim_bfB len_rule (hK ▸ len_ok) (bf_ne _) hg hm (by decide +kernel) ha (by decide +kernel) hdb he hpl
  · exact sim_bfB (cr_sum (hc (by decide))) (hK ▸ sum_ok) (bf_ne _) hg hm (by decide +kernel) ha (by decide +kernel) hdb he hpl
  · exact sim_bfB (((cr_max (hc (by decide))).or (cr_maxT (hc (by decide)) hu)).or (call_max2 (hc (by decide)))) (hK ▸ max_ok) (bf_ne _) hg hm (by decide +kernel) ha (by decide +kernel) hdb he hpl
  · exact sim_bfB (((cr_min (hc (by decide))).or (cr_minG (hc (by decide)) hu)).or (call_min2 (hc (by decide)))) (hK ▸ min_ok) (bf_ne _) hg hm (by decide +kernel) ha (by decide +kernel) hdb he hpl
  · exact sim_bfB (cr_all (hc (by decide))) (hK ▸ all_ok) (bf_ne _) hg hm (by decide +kernel) ha (by decide +kernel) hdb he hpl
  · exact sim_bfB (cr_any (hc (by decide))) (hK ▸ any_ok) (bf_ne _) hg hm (by decide +kernel) ha (by decide +kernel) hdb he hpl
  · exact sim_bfT call_int1 int_ok (bf_ne _) hg hm (by decide +kernel) ha (by decide +kernel) hdb he hpl
  · exact sim_bfT call_str_int str_ok (bf_ne _) hg hm (by decide +kernel) ha (by decide +kernel) hdb he hpl
  · exact sim_bfT call_tuple_ex (hK ▸ tuple_ok) (bf_ne _) hg hm (by decide +kernel) ha (by decide +kernel) hdb he hpl
  · exact sim_bfT call_list_of (hK ▸ list_ok) (bf_ne _) hg hm (by decide +kernel) ha (by decide +kernel) hdb he hpl
  · exact sim_bfT (call_dict_copy.or (call_dict_tup (hc (by decide)))) (hK ▸ dict_ok) (bf_ne _) hg hm (by decide +kernel) ha (by decide +kernel) hdb he hpl
  · exact sim_bfB (srt_rule (hc (by decide))) (hK ▸ sorted_ok) (bf_ne _) hg hm (by decide +kernel) ha (by decide +kernel) hdb he hpl
  · exact sim_bfT call_tuple_ex (hK ▸ tupx_ok) (bf_ne _) hg hm (by decide +kernel) ha (by decide +kernel) hdb he hpl
/-! isinstance -/
def tyS : Ty → String
  | .int => "int"
  | .bool => "bool"
  | .str => "str"
  | .list => "list"
  | .tuple => "tuple"
  | .dict => "dict"
theorem isi_rep {K : PySem.W.Frag} {H : Hp} {U : Addr → Prop} {d : D} {v : V} {L : List Addr} (t : Ty) (ho : isOk d = true) (h : rep K H U d v L) : ∃ T : Value, TyX K H v T ∧ PySem.W.kitOne K T (.type (tyS t)) = some (isTy d t) := by
  cases d with
  | non => obtain ⟨rfl, _⟩ := h; exact ⟨_, .base .non, by cases t <;> first | exact kit_ty (r := true) (by decide +kernel) | exact kit_ty (r := false) (by decide +kernel)⟩
  | bl b => obtain ⟨rfl, _⟩ := h; exact ⟨_, .base (.bl _), by cases t <;> first | exact kit_ty (r := true) (by decide +kernel) | exact kit_ty (r := false) (by decide +kernel)⟩
  | int b => obtain ⟨rfl, _⟩ := h; exact ⟨_, .base (.int _), by cases t <;> first | exact kit_ty (r := true) (by decide +kernel) | exact kit_ty (r := false) (by decide +kernel)⟩
  | str b => obtain ⟨rfl, _⟩ := h; exact ⟨_, .base (.str _), by cases t <;> first | exact kit_ty (r := true) (by decide +kernel) | exact kit_ty (r := false) (by decide +kernel)⟩
  | tup ds =>
    obtain ⟨a, vs, ⟨rfl, _⟩, q, _⟩ := h
    refine ⟨.type "tuple", ?_, by cases t <;> first | exact kit_ty (r := true) (by decide +kernel) | exact kit_ty (r := false) (by decide +kernel)⟩
    rcases q with (q | ⟨o, q⟩) | ⟨o, its, n, q, c, _⟩
    · exact .base (.tup q)
    · exact .fTuple q
    · exact .kTuple q c
  | lst o ds =>
    obtain ⟨a, vs, L', rfl, q, _⟩ := sq_of_lst h
    refine ⟨.type "list", ?_, by cases t <;> first | exact kit_ty (r := true) (by decide +kernel) | exact kit_ty (r := false) (by decide +kernel)⟩
    rcases q with (q | ⟨o, q⟩) | ⟨o, its, n, q, c, _⟩
    · exact .base (.lst q)
    · exact .base (.frz q)
    · exact .kList q c
  | dic o ds =>
    obtain ⟨a, vs, L', rfl, _, q, _⟩ := h
    exact ⟨.type "dict", .base (.dK q), by cases t <;> first | exact kit_ty (r := true) (by decide +kernel) | exact kit_ty (r := false) (by decide +kernel)⟩
  | dct o ds =>
    obtain ⟨a, vs, rfl, q, _⟩ := h
    exact ⟨.type "dict", .base (.dT q), by cases t <;> first | exact kit_ty (r := true) (by decide +kernel) | exact kit_ty (r := false) (by decide +kernel)⟩
  | ptu ks =>
    obtain ⟨a, vs, ⟨rfl, _⟩, ⟨o, q, _⟩, _⟩ := h
    exact ⟨.type "tuple", .fTuple q, by cases t <;> first | exact kit_ty (r := true) (by decide +kernel) | exact kit_ty (r := false) (by decide +kernel)⟩
  | fn x => cases ho
theorem sim_isi {x y : Str} {py : Pos} (hK : G.K = X.K) (t : Ty) (hx : x = "isinstance") (hy : y = Str.ofString (tyS t)) (hg : Gl X x) (hm : X.mg x = none) (hg2 : Gl X y) (hm2 : X.mg y = none) (ha : PE X e (tM G m)) (hst : starEach [e, .Name y py] X.env = (false, eval e X.env) :: starEach [.Name y py] X.env)
    (hdb : (x == ("__debug__" : Str)) = false) (hdb2 : (y == ("__debug__" : Str)) = false) : PE X (.Call (.Name x p) [e, .Name y py] [] pos) (tM G (.isi m [t])) := by
  subst hx hy
  have hb : PE X (.Name (Str.ofString (tyS t)) py) (tC (.ty (tyS t))) := pe_bltn (u := .type (tyS t)) hg2 hm2 (by cases t <;> decide +kernel) rfl (by cases t <;> decide +kernel) hdb2
  refine (pe_callB call_isi hg hm (by decide +kernel) (pa_cons ha (pa_cons hb pa_nil) hst) (by decide +kernel) hdb hst (by first | rfl | simp [starEach, backTo])).imp fun σ H Q ⟨U, env, hd, he, h⟩ => ?_
  have h' : Res G σ H ((ev G.C m env).b fun x => if isOk x then .ok (.bl ([t].any (isTy x))) else .bad) fun d => Ok1 G.K H U d Q := h
  refine tM_then hd he h'.bind fun d v H1 L q s f r => ?_
  by_cases ho : isOk d = true
  case neg => rw [if_neg ho] at q; exact q.elim
  rw [if_pos ho] at q
  obtain ⟨T, h1, h2⟩ := isi_rep t ho r
  have q' : Ok1 G.K H U (.bl (isTy d t || false)) Q := q
  rw [Bool.or_false] at q'
  rw [hK] at h1 h2
  exact ⟨v, .ty (tyS t), T, .type (tyS t), _, rfl, .ty _, h1, h2, q' _ _ [] s .nil ⟨rfl, rfl⟩⟩
end
end Q

set_option maxHeartbeats 1000000
namespace Q
open PySem PySem.Spec L2
open PyProof.Rows hiding St
theorem isi_repA {K : PySem.W.Frag} {H : Hp} {U : Addr → Prop} {d : D} {v : V} {L : List Addr} (ho : isOk d = true) (h : rep K H U d v L) : ∃ T : Value, TyX K H v T ∧ ∀ t : Ty, PySem.W.kitOne K T (.type (tyS t)) = some (isTy d t) := by
  cases d with
  | non => obtain ⟨rfl, _⟩ := h; exact ⟨_, .base .non, fun t => by cases t <;> first | exact kit_ty (r := true) (by decide +kernel) | exact kit_ty (r := false) (by decide +kernel)⟩
  | bl b => obtain ⟨rfl, _⟩ := h; exact ⟨_, .base (.bl _), fun t => by cases t <;> first | exact kit_ty (r := true) (by decide +kernel) | exact kit_ty (r := false) (by decide +kernel)⟩
  | int b => obtain ⟨rfl, _⟩ := h; exact ⟨_, .base (.int _), fun t => by cases t <;> first | exact kit_ty (r := true) (by decide +kernel) | exact kit_ty (r := false) (by decide +kernel)⟩
  | str b => obtain ⟨rfl, _⟩ := h; exact ⟨_, .base (.str _), fun t => by cases t <;> first | exact kit_ty (r := true) (by decide +kernel) | exact kit_ty (r := false) (by decide +kernel)⟩
  | tup ds =>
    obtain ⟨a, vs, ⟨rfl, _⟩, q, _⟩ := h
    refine ⟨.type "tuple", ?_, fun t => by cases t <;> first | exact kit_ty (r := true) (by decide +kernel) | exact kit_ty (r := false) (by decide +kernel)⟩
    rcases q with (q | ⟨o, q⟩) | ⟨o, its, n, q, c, _⟩
    · exact .base (.tup q)
    · exact .fTuple q
    · exact .kTuple q c
  | lst o ds =>
    obtain ⟨a, vs, L', rfl, q, _⟩ := sq_of_lst h
    refine ⟨.type "list", ?_, fun t => by cases t <;> first | exact kit_ty (r := true) (by decide +kernel) | exact kit_ty (r := false) (by decide +kernel)⟩
    rcases q with (q | ⟨o, q⟩) | ⟨o, its, n, q, c, _⟩
    · exact .base (.lst q)
    · exact .base (.frz q)
    · exact .kList q c
  | dic o ds =>
    obtain ⟨a, vs, L', rfl, _, q, _⟩ := h
    exact ⟨.type "dict", .base (.dK q), fun t => by cases t <;> first | exact kit_ty (r := true) (by decide +kernel) | exact kit_ty (r := false) (by decide +kernel)⟩
  | dct o ds =>
    obtain ⟨a, vs, rfl, q, _⟩ := h
    exact ⟨.type "dict", .base (.dT q), fun t => by cases t <;> first | exact kit_ty (r := true) (by decide +kernel) | exact kit_ty (r := false) (by decide +kernel)⟩
  | ptu ks =>
    obtain ⟨a, vs, ⟨rfl, _⟩, ⟨o, q, _⟩, _⟩ := h
    exact ⟨.type "tuple", .fTuple q, fun t => by cases t <;> first | exact kit_ty (r := true) (by decide +kernel) | exact kit_ty (r := false) (by decide +kernel)⟩
  | fn x => cases ho

theorem kitAny_ok {K : PySem.W.Frag} {T : Value} {d : D} (h : ∀ t : Ty, PySem.W.kitOne K T (.type (tyS t)) = some (isTy d t)) : ∀ ts : List Ty, PySem.W.kitAny K T (ts.map fun t => Value.type (tyS t)) = some (ts.any (isTy d))
  | [] => rfl
  | t :: ts => by
    have ih := kitAny_ok h ts
    show (match PySem.W.kitOne K T (.type (tyS t)) with
      | some true => some true
      | some false => PySem.W.kitAny K T (ts.map fun t => Value.type (tyS t))
      | none => none) = some (isTy d t || ts.any (isTy d))
    rw [h t]
    cases isTy d t with
    | true => rfl
    | false => exact ih
section
variable {X : Cx} {G : Gx} {p pos : Pos} {e : Expr} {m : E}
def tyCs (ts : List Ty) : List V := ts.map fun t => .ty (tyS t)
theorem clsv_tys : ∀ ts : List Ty, Paired ClsV (tyCs ts) (ts.map fun t => Value.type (tyS t))
  | [] => .nil
  | t :: ts => .cons (.ty _) (clsv_tys ts)
def tTys (ts : List Ty) : TA := fun _ H Q => Q (tyCs ts) H
theorem pa_tys_nil : PA X [] (tTys []) := pa_nil.imp fun σ H Q q => q
theorem pa_tys_cons {y : Str} {py : Pos} {t : Ty} {es : List Expr} {ts : List Ty} (hy : y = Str.ofString (tyS t)) (hg : Gl X y) (hm : X.mg y = none) (hdb : (y == ("__debug__" : Str)) = false) (h : PA X es (tTys ts)) : PA X (.Name y py :: es) (tTys (t :: ts)) := by
  subst hy
  have hb : PE X (.Name (Str.ofString (tyS t)) py) (tC (.ty (tyS t))) := pe_bltn (u := .type (tyS t)) hg hm (by cases t <;> decide +kernel) rfl (by cases t <;> decide +kernel) hdb
  exact (pa_cons hb h rfl).imp fun σ H Q q => q
theorem sim_isiT {x : Str} {es : List Expr} {ts : List Ty} {kk : Nat} {p2 : Pos} (hK : G.K = X.K) (hx : x = "isinstance") (hg : Gl X x) (hm : X.mg x = none) (ha : PE X e (tM G m)) (ht : PA X es (tTys ts)) (hl : ts.length ≤ 1000) (hst : starEach [e, .Tuple es kk p2] X.env = (false, eval e X.env) :: starEach [.Tuple es kk p2] X.env)
    (hdb : (x == ("__debug__" : Str)) = false) : PE X (.Call (.Name x p) [e, .Tuple es kk p2] [] pos) (tM G (.isi m ts)) := by
  subst hx
  refine (pe_callB call_isiT hg hm (by decide +kernel) (pa_cons ha (pa_cons (pe_tup ht) pa_nil) hst) (by decide +kernel) hdb hst (by first | rfl | simp [starEach, backTo])).imp fun σ H Q ⟨U, env, hd, he, h⟩ => ?_
  have h' : Res G σ H ((ev G.C m env).b fun x => if isOk x then .ok (.bl (ts.any (isTy x))) else .bad) fun d => Ok1 G.K H U d Q := h
  refine tM_then hd he h'.bind fun d v H1 L q s f r => ?_
  by_cases ho : isOk d = true
  case neg => rw [if_neg ho] at q; exact q.elim
  rw [if_pos ho] at q
  refine ⟨by unfold tyCs; rw [List.length_map]; exact small_line hl, fun pp hp => ?_⟩
  obtain ⟨T, h1, h2⟩ := isi_repA ho (rep_same (same_upd (o := .tup (tyCs ts)) hp) r)
  have q' : Ok1 G.K H U (.bl (ts.any (isTy d))) Q := q
  rw [hK] at h1 h2
  exact ⟨v, pp, tyCs ts, T, _, _, rfl, upd_same, clsv_tys ts, h1, kitAny_ok h2 ts, q' _ _ [] (s.trans (same_upd hp)) .nil ⟨rfl, rfl⟩⟩
end
end Q

set_option maxHeartbeats 1000000
namespace Q
open PySem PySem.Spec L2
open PyProof.Rows hiding St

/-! ## enumerate(text) -/
/-- the text's signs with their numbers, in new pairs -/
def IteS (z : Str) : L2.It := ⟨fun i H => ∃ c, z.cps[i]? = some c, fun i H v H' => ∃ T c, v = .ref T ∧ H T = none ∧ H' = upd H T (.tup [.int (i : Nat), .str ⟨#[c]⟩]) ∧ z.cps[i]? = some c, fun i H => z.cps.size = i⟩
theorem turn_enumS {P : Program} {w : World} {K : PySem.W.Frag} {elts : List Expr} {kk : Nat} {tpos : Pos} (z : Str) (t : Tok) (e it : Addr) (hne : e ≠ it) :
    Turn P w K (.Tuple elts kk tpos) (IteS z) [e, it] e (fun i h => ((∃ old, IsEnum h e it (0 + (i : Int)) old) ∧ h.IsStrIter it (strIterType z) z t i)) where
  mem := by simp
  obj := fun i h st b hb => by
    obtain ⟨⟨old, he⟩, ⟨o, ho, hc, hd⟩⟩ := st
    have e' : b = e ∨ b = it := by simpa using hb
    rcases e' with q | q
    · rw [q]; exact ⟨_, he, fun v q => nomatch q⟩
    · rw [q]; exact ⟨o, ho, fun v q => by rw [hd] at q; cases q⟩
  keep := fun i h h' st k => let ⟨⟨old, he⟩, ⟨o, ho, r⟩⟩ := st; ⟨⟨old, k e (by simp) _ he⟩, ⟨o, k it (by simp) o ho, r⟩⟩
  item := by
    intro X hP hw hK hc i pins s σ H E I hf st hg
    subst hP hw hK
    have hh : X.A.in1.handled = none := I.ok.hd hc
    have W := GoesN.enumFrom (elts := elts) (x1 := kk) (pos := tpos) 0 (Draws.text (prog := X.prog) (w := X.w) hh it z t) e hne (by simpa using hne) (by simp)
    obtain ⟨c0, hc0⟩ := hg
    have hi : i < z.cps.size := (Array.getElem?_eq_some_iff.mp hc0).1
    refine W.goes i s _ E hi st fun v h' tk hY st' hk htk => ?_
    obtain ⟨T, tt, x, ev, hn, ⟨c, u, hcI, ex⟩, hT⟩ := hY
    subst ev ex
    rw [Int.zero_add] at hT
    have new : ObjOk X.prog X.w (upd H T (.tup [.int (i : Nat), .str ⟨#[c]⟩])) h' T (.tup [.int (i : Nat), .str ⟨#[c]⟩]) :=
      ⟨by show 2 ≤ sizeLine; decide, [.int i tt, .str ⟨#[c]⟩ u], .cons ⟨_, rfl⟩ (.cons ⟨_, rfl⟩ .nil), hT⟩
    have I1 : Inv X pins σ (upd H T (.tup [.int (i : Nat), .str ⟨#[c]⟩])) { s with heap := h', toks := tk } :=
      I.turnedNew (ch := [e, it]) hk hf hn new
    refine ⟨.ref T, _, I1, rfl, ⟨T, c, rfl, I.hok.fresh hn, rfl, hcI⟩, st', fun b hb => ?_⟩
    have hb' : b < s.heap.objs.size := by
      obtain ⟨⟨old, he⟩, ⟨o, ho, _⟩⟩ := st
      have e' : b = e ∨ b = it := by simpa using hb
      rcases e' with q | q
      · rw [q]; exact Heap.lt_size he
      · rw [q]; exact Heap.lt_size ho
    rw [upd_ne (Nat.ne_of_lt (Nat.lt_of_lt_of_le hb' hn))]
    exact (hf b hb).1
  done := by
    intro X hP hw hK hc i pins s σ H E I hf st hg
    subst hP hw hK
    have hh : X.A.in1.handled = none := I.ok.hd hc
    have W := GoesN.enumFrom (elts := elts) (x1 := kk) (pos := tpos) 0 (Draws.text (prog := X.prog) (w := X.w) hh it z t) e hne (by simpa using hne) (by simp)
    have hg : z.cps.size = i := hg
    subst hg
    exact W.stops s _ E st fun h' tk hk htk => I.turnedL (t' := tk) (ch := [e, it]) hk hf
  self := fun A i s Q E st h => let ⟨⟨_, he⟩, _⟩ := st; wpAny_pyIter_enum he h
def iEnumX (K : PySem.W.Frag) (ta : TA) : TI := fun σ H R => ta σ H fun vs H1 => (∃ a xs, vs = [.ref a] ∧ SqL K H1 a xs ∧ R (Ite K a) H1) ∨ ∃ z, vs = [.str z] ∧ R (IteS z) H1
theorem pi_enumX {X : Cx} {e : Expr} {ta : TA} {p pos tpos : Pos} {elts : List Expr} {kk : Nat} (hg : Gl X "enumerate") (hm : X.mg "enumerate" = none) (ha : PA X [e] ta) (hs : starEach [e] X.env = [(false, eval e X.env)]) :
    PI X (.Tuple elts kk tpos) (.Call (.Name "enumerate" p) [e] [] pos) (iEnumX X.K ta) := by
  refine ⟨fun pins s σ H R I h => ?_⟩
  refine Call_ (ld_blt I hg hm boot_enumerate (PyProof.Rows.callWith_type1 (thn (ha.run pos pins s σ H _ I h) fun us s1 ⟨vs, H1, I1, r1, q1⟩ => ?_) hs rfl))
  have fr2 : ∀ b, b = s1.heap.objs.size + 1 ∨ b = s1.heap.objs.size → FpOk X pins H1 b := fun b e' => by
    have hle : s1.heap.objs.size ≤ b := by
      rcases e' with z | z
      · rw [z]; exact Nat.le_add_right _ _
      · rw [z]; exact Nat.le_refl _
    exact I1.fpOk hle (I1.hok.fresh hle)
  rcases q1 with ⟨a, xs, ex, hq, q⟩ | ⟨z, ex, q⟩
  · subst ex
    cases r1 with
    | cons r rr =>
      cases rr
      cases r
      obtain ⟨its, rv, p', hz⟩ := I1.list hq
      refine call_enumerate_list p'.isList fun h' he hit hsz hk => wpAny_pyIter_enum he ?_
      have I2 : Inv X pins σ H1 { s1 with heap := h' } := I1.kept (t' := s1.toks) hk
      exact ⟨s1.heap.objs.size + 1, [s1.heap.objs.size + 1, s1.heap.objs.size], _, _, H1, rfl, I2, turn_enum a (s1.heap.objs.size + 1) s1.heap.objs.size, ⟨⟨.none, he⟩, hit, Nat.succ_ne_self _⟩, fun b hb => fr2 b (by simpa using hb), q⟩
  · subst ex
    cases r1 with
    | cons r rr =>
      cases rr
      obtain ⟨t, rfl⟩ := r
      refine call_enumerate_str fun h' he hit hsz hk => wpAny_pyIter_enum he ?_
      have I2 : Inv X pins σ H1 { s1 with heap := h' } := I1.kept (t' := s1.toks) hk
      exact ⟨s1.heap.objs.size + 1, [s1.heap.objs.size + 1, s1.heap.objs.size], _, _, H1, rfl, I2, turn_enumS z t (s1.heap.objs.size + 1) s1.heap.objs.size (Nat.succ_ne_self _), ⟨⟨.none, he⟩, hit⟩, fun b hb => fr2 b (by simpa using hb), q⟩

/-! ## zip(a tuple, a list) -/
def ItzM (K : PySem.W.Frag) (a b : Addr) : L2.It :=
  ⟨fun i H => ∃ (xs ys : List V) (x y : V), SqT K H a xs ∧ SqL K H b ys ∧ xs[i]? = some x ∧ ys[i]? = some y,
    fun i H v H' => ∃ T x y, v = .ref T ∧ H T = none ∧ H' = upd H T (.tup [x, y]) ∧ (∀ xs, SqT K H a xs → xs[i]? = some x) ∧ ∀ ys, SqL K H b ys → ys[i]? = some y,
    fun i H => ∃ xs ys : List V, SqT K H a xs ∧ SqL K H b ys ∧ min xs.length ys.length = i⟩
theorem turn_zipM {P : Program} {w : World} {K : PySem.W.Frag} {elts : List Expr} {kk : Nat} {tpos : Pos} {a b z TI TO i1 i2 : Addr} (D : ZipSep2 z TI TO i1 i2 [i1, a] [i2, b]) :
    Turn P w K (.Tuple elts kk tpos) (ItzM K a b) [z, TI, TO, i1, i2] z (fun i h => IsZip h z TI TO .none ∧ IsTupOf2 h TI (.ref i1) (.ref i2) ∧ (∃ x y, IsTupOf2 h TO x y) ∧ h.IsTupleIter i1 a i ∧ h.IsListIter i2 b i) where
  mem := by simp
  obj := fun i h st c hc => by
    obtain ⟨hz, hTI, ⟨x, y, hTO⟩, ⟨o1, e1, _, d1⟩, ⟨o2, e2, _, d2⟩⟩ := st
    have e' : c = z ∨ c = TI ∨ c = TO ∨ c = i1 ∨ c = i2 := by simpa using hc
    rcases e' with q | q | q | q | q
    · rw [q]; exact ⟨_, hz, fun v q => nomatch q⟩
    · rw [q]; exact ⟨_, hTI, fun v q => nomatch q⟩
    · rw [q]; exact ⟨_, hTO, fun v q => nomatch q⟩
    · rw [q]; exact ⟨o1, e1, fun v q => by rw [d1] at q; cases q⟩
    · rw [q]; exact ⟨o2, e2, fun v q => by rw [d2] at q; cases q⟩
  keep := fun i h h' st k => by
    obtain ⟨hz, hTI, ⟨x, y, hTO⟩, h1, h2⟩ := st
    exact ⟨k z (by simp) _ hz, k TI (by simp) _ hTI, ⟨x, y, k TO (by simp) _ hTO⟩, h1.at fun o q => k i1 (by simp) o q, h2.at fun o q => k i2 (by simp) o q⟩
  item := by
    intro X hP hw hK hc i pins s σ H E I hf st hg
    subst hP hw hK
    have hh : X.A.in1.handled = none := I.ok.hd hc
    obtain ⟨xs, ys, x, y, hqx, hqy, hx, hy⟩ := hg
    obtain ⟨its, rv, p, _⟩ := I.tuple hqx
    obtain ⟨its2, rv2, p2, _⟩ := I.list hqy
    have na : a ≠ i1 := fun q => by
      obtain ⟨_, _, _, ⟨o1, e1, c1, _⟩, _⟩ := st
      obtain ⟨o, eo, co, _⟩ := p
      subst q
      rw [eo] at e1
      cases e1
      rw [co] at c1
      injection c1 with c1
      exact absurd c1 (by decide)
    have nb : b ≠ i2 := fun q => by
      obtain ⟨_, _, _, _, ⟨o1, e1, c1, _⟩⟩ := st
      obtain ⟨o, eo, co, _⟩ := p2.isList
      subst q
      rw [eo] at e1
      cases e1
      rw [co] at c1
      injection c1 with c1
      exact absurd c1 (by decide)
    have W := GoesN.zip2 (elts := elts) (x1 := kk) (pos := tpos) D (Draws.tuple (prog := X.prog) (w := X.w) hh i1 a na its.toArray) (Draws.list (prog := X.prog) (w := X.w) hh i2 b nb its2.toArray)
    obtain ⟨u, hu, ru⟩ := rv.get hx
    obtain ⟨u2, hu2, ru2⟩ := rv2.get hy
    have hi : i < min its.toArray.size its2.toArray.size := by
      have := (List.getElem?_eq_some_iff.mp hu).1
      have := (List.getElem?_eq_some_iff.mp hu2).1
      simp; omega
    obtain ⟨hz, hTI, hTO, h1, h2⟩ := st
    refine W.goes i s _ E hi ⟨hz, hTI, hTO, ⟨h1, p⟩, ⟨h2, p2.isList⟩⟩ fun v h' tk hY st' hk htk => ?_
    obtain ⟨T, x', y', ev, hn, hx', hy', hT⟩ := hY
    subst ev
    obtain ⟨hz', hTI', hTO', ⟨h1', _⟩, ⟨h2', _⟩⟩ := st'
    have ex : x' = u := by
      have : its[i]? = some x' := by simpa using hx'
      rw [hu] at this; exact (Option.some.inj this).symm
    have ey : y' = u2 := by
      have : its2[i]? = some y' := by simpa using hy'
      rw [hu2] at this; exact (Option.some.inj this).symm
    subst ex ey
    have new : ObjOk X.prog X.w (upd H T (.tup [x, y])) h' T (.tup [x, y]) := ⟨by show 2 ≤ sizeLine; decide, [x', y'], .cons ru (.cons ru2 .nil), hT⟩
    have hf' : ∀ c ∈ [z, TO, i1, i2], FpOk X pins H c := fun c hc => hf c (by simp at hc ⊢; rcases hc with q | q | q | q <;> simp [q])
    have I1 : Inv X pins σ (upd H T (.tup [x, y])) { s with heap := h', toks := tk } := I.turnedNew (ch := [z, TO, i1, i2]) hk hf' hn new
    refine ⟨.ref T, _, I1, rfl, ⟨T, x, y, rfl, I.hok.fresh hn, rfl, fun l hl => by rw [I.tuple_inj hl hqx]; exact hx, fun l hl => by rw [I.list_inj hl hqy]; exact hy⟩, ⟨hz', hTI', hTO', h1', h2'⟩, fun c hcm => ?_⟩
    have hlt : c < s.heap.objs.size := by
      have e' : c = z ∨ c = TI ∨ c = TO ∨ c = i1 ∨ c = i2 := by simpa using hcm
      rcases e' with q | q | q | q | q
      · rw [q]; exact Heap.lt_size hz
      · rw [q]; exact Heap.lt_size hTI
      · obtain ⟨_, _, q2⟩ := hTO; rw [q]; exact Heap.lt_size q2
      · obtain ⟨_, q2, _⟩ := h1; rw [q]; exact Heap.lt_size q2
      · obtain ⟨_, q2, _⟩ := h2; rw [q]; exact Heap.lt_size q2
    rw [upd_ne (Nat.ne_of_lt (Nat.lt_of_lt_of_le hlt hn))]
    exact (hf c hcm).1
  done := by
    intro X hP hw hK hc i pins s σ H E I hf st hg
    subst hP hw hK
    have hh : X.A.in1.handled = none := I.ok.hd hc
    obtain ⟨xs, ys, hqx, hqy, hend⟩ := hg
    obtain ⟨its, rv, p, _⟩ := I.tuple hqx
    obtain ⟨its2, rv2, p2, _⟩ := I.list hqy
    have na : a ≠ i1 := fun q => by
      obtain ⟨_, _, _, ⟨o1, e1, c1, _⟩, _⟩ := st
      obtain ⟨o, eo, co, _⟩ := p
      subst q
      rw [eo] at e1
      cases e1
      rw [co] at c1
      injection c1 with c1
      exact absurd c1 (by decide)
    have nb : b ≠ i2 := fun q => by
      obtain ⟨_, _, _, _, ⟨o1, e1, c1, _⟩⟩ := st
      obtain ⟨o, eo, co, _⟩ := p2.isList
      subst q
      rw [eo] at e1
      cases e1
      rw [co] at c1
      injection c1 with c1
      exact absurd c1 (by decide)
    have W := GoesN.zip2 (elts := elts) (x1 := kk) (pos := tpos) D (Draws.tuple (prog := X.prog) (w := X.w) hh i1 a na its.toArray) (Draws.list (prog := X.prog) (w := X.w) hh i2 b nb its2.toArray)
    have en : min its.toArray.size its2.toArray.size = i := by
      have l1 := rv.length
      have l2 := rv2.length
      rw [List.size_toArray, List.size_toArray, ← l1, ← l2]
      exact hend
    subst en
    obtain ⟨hz, hTI, hTO, h1, h2⟩ := st
    have hf' : ∀ c ∈ [z, TO, i1, i2], FpOk X pins H c := fun c hc => hf c (by simp at hc ⊢; rcases hc with q | q | q | q <;> simp [q])
    exact W.stops s _ E ⟨hz, hTI, hTO, ⟨h1, p⟩, ⟨h2, p2.isList⟩⟩ fun h' tk hk htk => I.turnedL (t' := tk) (ch := [z, TO, i1, i2]) hk hf'
  self := fun A i s Q E st h => wpAny_pyIter_zip st.1 h
def iZipX (K : PySem.W.Frag) (ta : TA) : TI := fun σ H R => ta σ H fun vs H1 => ∃ a b xs ys, vs = [.ref a, .ref b] ∧ (((SqL K H1 a xs ∧ SqL K H1 b ys ∧ R (Itz K a b) H1) ∨ (SqT K H1 a xs ∧ SqT K H1 b ys ∧ R (RZ.ItzT K a b) H1)) ∨ (SqT K H1 a xs ∧ SqL K H1 b ys ∧ R (ItzM K a b) H1))
theorem pi_zipX {X : Cx} {e e2 : Expr} {ta : TA} {p pos tpos : Pos} {elts : List Expr} {kk : Nat} (hg : Gl X "zip") (hm : X.mg "zip" = none) (ha : PA X [e, e2] ta)
    (hs : starEach [e, e2] X.env = (false, eval e X.env) :: starEach [e2] X.env) (hpl : (backTo pos (starEach [e2] X.env)).any (·.1) = false) :
    PI X (.Tuple elts kk tpos) (.Call (.Name "zip" p) [e, e2] [] pos) (iZipX X.K ta) := by
  refine ⟨fun pins s σ H R I h => ?_⟩
  refine Call_ (ld_blt I hg hm PyProof.Rows.boot_zip (PyProof.Rows.callWith_type1 (thn (ha.run pos pins s σ H _ I h) fun us s1 ⟨vs, H1, I1, r1, q1⟩ => ?_) hs hpl))
  obtain ⟨a, b, xs, ys, ex, q1⟩ := q1
  subst ex
  cases r1 with
  | cons r rr =>
    cases rr with
    | cons r' rr =>
      cases rr
      cases r
      cases r'
      have fresh5 : ∀ c, c ∈ [s1.heap.objs.size + 4, s1.heap.objs.size + 2, s1.heap.objs.size + 3, s1.heap.objs.size, s1.heap.objs.size + 1] → FpOk X pins H1 c := fun c hcm => by
        have e' : c = s1.heap.objs.size + 4 ∨ c = s1.heap.objs.size + 2 ∨ c = s1.heap.objs.size + 3 ∨ c = s1.heap.objs.size ∨ c = s1.heap.objs.size + 1 := by simpa using hcm
        have hle : s1.heap.objs.size ≤ c := by
          rcases e' with z | z | z | z | z
          · rw [z]; exact Nat.le_add_right _ _
          · rw [z]; exact Nat.le_add_right _ _
          · rw [z]; exact Nat.le_add_right _ _
          · rw [z]; exact Nat.le_refl _
          · rw [z]; exact Nat.le_add_right _ _
        exact I1.fpOk hle (I1.hok.fresh hle)
      rcases q1 with (⟨hqx, hqy, q⟩ | ⟨hqx, hqy, q⟩) | ⟨hqx, hqy, q⟩
      · obtain ⟨its, rv, p1, _⟩ := I1.list hqx
        obtain ⟨its2, rv2, p2, _⟩ := I1.list hqy
        refine call_zip_2 p1.isList p2.isList fun h' hz hTI hTO h1 h2 hsz hk => wpAny_pyIter_zip hz ?_
        have I2 : Inv X pins σ H1 { s1 with heap := h' } := I1.kept (t' := s1.toks) hk
        exact ⟨s1.heap.objs.size + 4, [s1.heap.objs.size + 4, s1.heap.objs.size + 2, s1.heap.objs.size + 3, s1.heap.objs.size, s1.heap.objs.size + 1], _, _, H1, rfl, I2, turn_zip (PySem.W.ktu_apart s1.heap.objs.size a b p1.lt p2.lt), ⟨hz, hTI, ⟨_, _, hTO⟩, h1, h2⟩, fresh5, q⟩
      · obtain ⟨its, rv, p1, _⟩ := I1.tuple hqx
        obtain ⟨its2, rv2, p2, _⟩ := I1.tuple hqy
        obtain ⟨o1, ho1, _⟩ := id p1
        obtain ⟨o2, ho2, _⟩ := id p2
        refine RZ.call_zipT (show s1.heap.IsTuple a its.toArray from p1) (show s1.heap.IsTuple b its2.toArray from p2) fun h' hz hTI hTO h1 h2 hsz hk => wpAny_pyIter_zip hz ?_
        have I2 : Inv X pins σ H1 { s1 with heap := h' } := I1.kept (t' := s1.toks) hk
        exact ⟨s1.heap.objs.size + 4, [s1.heap.objs.size + 4, s1.heap.objs.size + 2, s1.heap.objs.size + 3, s1.heap.objs.size, s1.heap.objs.size + 1], _, _, H1, rfl, I2, RZ.turn_zipT (PySem.W.ktu_apart s1.heap.objs.size a b (Heap.lt_size ho1) (Heap.lt_size ho2)), ⟨hz, hTI, ⟨_, _, hTO⟩, h1, h2⟩, fresh5, q⟩
      · obtain ⟨its, rv, p1, _⟩ := I1.tuple hqx
        obtain ⟨its2, rv2, p2, _⟩ := I1.list hqy
        obtain ⟨o1, ho1, _⟩ := id p1
        refine zip_begins2 (begins_tuple a its.toArray) (begins_list b its2.toArray) (show s1.heap.IsTuple a its.toArray from p1) p2.isList fun h' hz hTI hTO h1 h2 hsz hk => wpAny_pyIter_zip hz ?_
        have I2 : Inv X pins σ H1 { s1 with heap := h' } := I1.kept (t' := s1.toks) hk
        have S := zip_sep2 (N := s1.heap.objs.size) (fp1 := [a]) (fp2 := [b]) (by simpa using Heap.lt_size ho1) (by simpa using p2.lt)
        exact ⟨s1.heap.objs.size + 4, [s1.heap.objs.size + 4, s1.heap.objs.size + 2, s1.heap.objs.size + 3, s1.heap.objs.size, s1.heap.objs.size + 1], _, _, H1, rfl, I2, turn_zipM S, ⟨hz, hTI, ⟨_, _, hTO⟩, ⟨_, h1, rfl, rfl⟩, ⟨_, h2, rfl, rfl⟩⟩, fresh5, q⟩
end Q

set_option maxHeartbeats 1000000
namespace Q
open PySem PySem.Spec L2
open PyProof.Rows hiding St

/-! ## what is walked -/
/-- the iterator J tells the items ds, in every heap in which what is none of O's stands -/
def ItRep (K : PySem.W.Frag) (J : L2.It) (U O : Addr → Prop) (H1 : Hp) (ds : List D) : Prop := ∀ H, (∀ b o, H1 b = some o → ¬ O b → H b = some o) → ∀ i,
  (∀ d, ds[i]? = some d → J.go i H ∧ ∀ x H', J.yld i H x H' → Same H H' ∧ rep K H' U d x []) ∧ (ds.length = i → J.stop i H)
/-- what follows an iterable's reading: its items, wherever O's alone is changed and U' keeps off what is new -/
def ItTells (K : PySem.W.Frag) (H : Hp) (U : Addr → Prop) (R : L2.It → Hp → Prop) (ds : List D) : Prop := ∀ J H1, Same H H1 → ds.length ≤ lim →
  (∀ U' O : Addr → Prop, (∀ a, U' a → U a ∨ H1 a = none) → (∀ a, O a → U a) → (∀ a, O a → U' a) → (∀ a, O a → MutA H a) → ItRep K J U' O H1 (shs ds)) → R J H1
def tI (G : Gx) (m : It) : TI := fun σ H R => ∃ U env, Dom H U ∧ RepE G H U σ env ∧ Res G σ H (evi G.C m env) fun ds => ItTells G.K H U R ds
theorem PI.imp {X : Cx} {tg e : Expr} {t t' : TI} (h : PI X tg e t) (k : ∀ σ H R, t' σ H R → t σ H R) : PI X tg e t' := ⟨fun pins s σ H R I q => h.run pins s σ H R I (k _ _ _ q)⟩
/-- a list, a tuple, a text -/
def iSeq (K : PySem.W.Frag) (tl : TE) : TI := fun σ H R => tl σ H fun x H1 => (∃ a, x = .ref a ∧ (∃ xs, SqL K H1 a xs) ∧ R (Itl K a) H1) ∨ (∃ a, x = .ref a ∧ (∃ xs, SqT K H1 a xs) ∧ R (Itt K a) H1) ∨ ∃ z, x = .str z ∧ R (Its z) H1
theorem pi_seq {X : Cx} {tg l : Expr} {tl : TE} (hl : PE X l tl) : PI X tg l (iSeq X.K tl) := by
  refine ⟨fun pins s σ H R I h => ?_⟩
  refine thn (hl.run pins s σ H _ I h) fun v s1 ⟨x, H1, I1, r1, q1⟩ => ?_
  rcases q1 with ⟨a, e, ⟨xs, hq⟩, q⟩ | ⟨a, e, ⟨xs, hq⟩, q⟩ | ⟨z, e, q⟩
  · subst e
    cases r1
    obtain ⟨its, rv, p, hz⟩ := I1.list hq
    refine wpAny_pyIter_list p.isList ?_
    exact pi_one (tk := s1.toks) I1 _ (turn_list a _) ⟨_, Heap.get?_push_size _ rfl, rfl, rfl⟩ q
  · subst e
    cases r1
    obtain ⟨its, rv, p, hz⟩ := I1.tuple hq
    refine wpAny_pyIter_tuple (show s1.heap.IsTuple a its.toArray from p) ?_
    exact pi_one (tk := s1.toks) I1 _ (turn_tuple a _) ⟨_, Heap.get?_push_size _ rfl, rfl, rfl⟩ q
  · subst e
    obtain ⟨t, rfl⟩ := r1
    cases ha : z.cps.all (· < 128)
    · exact wpAny_pyIter_wide ha (pi_one (tk := s1.toks) I1 _ (turn_str _ z t "str_iterator" (.inr rfl)) ⟨_, Heap.get?_push_size _ rfl, rfl, rfl⟩ q)
    · exact wpAny_pyIter_ascii ha (pi_one (tk := s1.toks) I1 _ (turn_str _ z t "str_ascii_iterator" (.inl rfl)) ⟨_, Heap.get?_push_size _ rfl, rfl, rfl⟩ q)
section
variable {K : PySem.W.Frag} {H H1 H' : Hp} {U O : Addr → Prop}
/-- what is none of O's stands -/
def Stays (O : Addr → Prop) (H1 H : Hp) : Prop := ∀ b o, H1 b = some o → ¬ O b → H b = some o
theorem Stays.tup (s : Stays O H1 H) (m : ∀ a, O a → MutA H1 a) {a : Addr} {xs : List V} (h : SqT K H1 a xs) : SqT K H a xs := by
  have no : ∀ u, H1 a = some (.tup xs) ∨ H1 a = some (.frz u (.tup xs)) → ¬ O a := fun u e z => by
    rcases m a z with ⟨_, q⟩ | ⟨_, q⟩ | ⟨_, q⟩ <;> rcases e with e | e <;> rw [q] at e <;> cases e
  rcases h with (h | ⟨o, h⟩) | h
  · exact .inl (.inl (s _ _ h (no ⟨.none, none, .cell none, #[]⟩ (.inl h))))
  · exact .inl (.inr ⟨o, s _ _ h (no o (.inr h))⟩)
  · exact .inr h
theorem Stays.frz (s : Stays O H1 H) (m : ∀ a, O a → MutA H1 a) {a : Addr} {xs : List V} (h : Frz K H1 a xs) : Frz K H a xs := by
  rcases h with ⟨o, h⟩ | h
  · refine .inl ⟨o, s _ _ h fun z => ?_⟩
    rcases m a z with ⟨_, q⟩ | ⟨_, q⟩ | ⟨_, q⟩ <;> rw [q] at h <;> cases h
  · exact .inr h
/-- values none of whose lists are O's -/
theorem Stays.go (s : Stays O H1 H) (m : ∀ a, O a → MutA H1 a) (u : ∀ a, O a → U a) : Go K H1 H U U [] :=
  ⟨fun a xs q => s.tup m q, (fun a ha => by cases ha), fun a xs q => s.frz m q, fun a xs q n => ⟨s _ _ q fun z => n (u a z), n⟩, fun a xs q n => ⟨s _ _ q fun z => n (u a z), n⟩, fun a xs q n => ⟨s _ _ q fun z => n (u a z), n⟩,
    fun a xs ⟨o, q, z⟩ => ⟨o, s _ _ q (fun z => by rcases m a z with ⟨_, q2⟩ | ⟨_, q2⟩ | ⟨_, q2⟩ <;> rw [q2] at q <;> cases q), z⟩⟩
theorem Stays.refl : Stays O H H := fun _ _ e _ => e
theorem it_seqL {a : Addr} {vs : List V} {ds : List D} (hs : ∀ H, Stays O H1 H → SqL K H a vs) (r : ∀ H, Stays O H1 H → reps K H U ds vs []) : ItRep K (Itl K a) U O H1 ds := by
  intro H s i
  have hq := hs H s
  have hr := r H s
  refine ⟨fun d e => ?_, fun h => ⟨vs, hq, by rw [reps_length hr]; exact Nat.le_of_eq h⟩⟩
  obtain ⟨v, e1, r1⟩ := reps_get0 hr e
  refine ⟨⟨vs, v, hq, e1⟩, fun x H' ⟨e2, y⟩ => ?_⟩
  subst e2
  have ex := (y vs hq).symm.trans e1
  cases ex
  exact ⟨Same.refl _, r1⟩
theorem it_seqT {a : Addr} {vs : List V} {ds : List D} (hs : ∀ H, Stays O H1 H → SqT K H a vs) (r : ∀ H, Stays O H1 H → reps K H U ds vs []) : ItRep K (Itt K a) U O H1 ds := by
  intro H s i
  have hq := hs H s
  have hr := r H s
  refine ⟨fun d e => ?_, fun h => ⟨vs, hq, by rw [reps_length hr]; exact Nat.le_of_eq h⟩⟩
  obtain ⟨v, e1, r1⟩ := reps_get0 hr e
  refine ⟨⟨vs, v, hq, e1⟩, fun x H' ⟨e2, y⟩ => ?_⟩
  subst e2
  have ex := (y vs hq).symm.trans e1
  cases ex
  exact ⟨Same.refl _, r1⟩
theorem it_str {s : Cs} (k : Sok s) : ItRep K (Its (toS s)) U O H1 (s.map fun c => .str [c]) := by
  intro H _ i
  have sz : (toS s).cps.size = s.length := by simp [toS]
  refine ⟨fun d e => ?_, fun h => ?_⟩
  · rw [List.getElem?_map] at e
    obtain ⟨c, e1, e2⟩ := Option.map_eq_some_iff.mp e
    have hi : i < s.length := (List.getElem?_eq_some_iff.mp e1).1
    refine ⟨by show i < (toS s).cps.size; rw [sz]; exact hi, fun x H' ⟨e3, c', e4, e5⟩ => ?_⟩
    subst e3 e5
    have : c' = c := by
      have e6 : (toS s).cps[i]? = s[i]? := by simp [toS]
      rw [e6, e1] at e4
      exact (Option.some.inj e4).symm
    subst this
    rw [← e2]
    exact ⟨Same.refl _, rfl, sok_one k (List.mem_of_getElem? e1), rfl⟩
  · rw [List.length_map] at h
    show (toS s).cps.size ≤ i
    rw [sz]; exact Nat.le_of_eq h
theorem it_rng {lo : Int} {n : Nat} : ItRep K (Itr lo n) U O H1 ((List.range n).map fun k => .int (lo + (k : Nat))) := by
  intro H _ i
  refine ⟨fun d e => ?_, fun h => (show n ≤ i from Nat.le_of_eq (by simpa using h))⟩
  rw [List.getElem?_map] at e
  obtain ⟨c, e1, e2⟩ := Option.map_eq_some_iff.mp e
  obtain ⟨hi, e3⟩ := List.getElem?_eq_some_iff.mp e1
  rw [List.length_range] at hi
  rw [List.getElem_range] at e3
  subst e3
  refine ⟨hi, fun x H' ⟨e4, e5⟩ => ?_⟩
  subst e4 e5
  rw [← e2]
  exact ⟨Same.refl _, rfl, rfl⟩
theorem it_rngC {lo : Int} {n : Nat} : ItRep K (Itc lo (-1) n) U O H1 ((List.range n).map fun k => .int (lo - (k : Nat))) := by
  intro H _ i
  refine ⟨fun d e => ?_, fun h => (show n ≤ i from Nat.le_of_eq (by simpa using h))⟩
  rw [List.getElem?_map] at e
  obtain ⟨c, e1, e2⟩ := Option.map_eq_some_iff.mp e
  obtain ⟨hi, e3⟩ := List.getElem?_eq_some_iff.mp e1
  rw [List.length_range] at hi
  rw [List.getElem_range] at e3
  subst e3
  refine ⟨hi, fun x H' ⟨e4, e5⟩ => ?_⟩
  subst e4 e5
  rw [← e2]
  refine ⟨Same.refl _, ?_, rfl⟩
  congr 1
  omega
/-- a new tuple each turn -/
theorem tup_new {T : Addr} {ds : List D} {vs : List V} (hT : H T = none) (hl : ds.length ≤ lim) (r : reps K H U ds vs []) : Same H (upd H T (.tup vs)) ∧ rep K (upd H T (.tup vs)) U (.tup ds) (.ref T) [] :=
  ⟨same_upd hT, T, vs, ⟨rfl, hl⟩, .of upd_same, reps_same (same_upd hT) r⟩
theorem it_enum {a : Addr} {vs : List V} {ds : List D} (hs : ∀ H, Stays O H1 H → SqL K H a vs) (r : ∀ H, Stays O H1 H → reps K H U ds vs []) : ItRep K (Ite K a) U O H1 (ds.mapIdx fun i x => .tup [.int i, x]) := by
  intro H s i
  have hq := hs H s
  have hr := r H s
  refine ⟨fun d e => ?_, fun h => ⟨vs, hq, by rw [reps_length hr]; exact Nat.le_of_eq (by simpa using h)⟩⟩
  rw [List.getElem?_mapIdx] at e
  obtain ⟨c, e1, e2⟩ := Option.map_eq_some_iff.mp e
  obtain ⟨v, e3, r1⟩ := reps_get0 hr e1
  refine ⟨⟨vs, v, hq, e3⟩, fun x H' ⟨T, z, ex, hT, eH, y⟩ => ?_⟩
  subst ex eH
  have ez := (y vs hq).symm.trans e3
  cases ez
  rw [← e2]
  exact tup_new hT (by show 2 ≤ lim; decide) ⟨_, _, [], [], rfl, rfl, ⟨rfl, rfl⟩, reps_one r1⟩
theorem it_zipL {a b : Addr} {vs ws : List V} {ds es : List D} (hs : ∀ H, Stays O H1 H → SqL K H a vs ∧ SqL K H b ws) (r : ∀ H, Stays O H1 H → reps K H U ds vs [] ∧ reps K H U es ws []) : ItRep K (Itz K a b) U O H1 ((ds.zip es).map fun q => .tup [q.1, q.2]) := by
  intro H s i
  obtain ⟨hq1, hq2⟩ := hs H s
  obtain ⟨hr1, hr2⟩ := r H s
  refine ⟨fun d e => ?_, fun h => ⟨vs, ws, hq1, hq2, ?_⟩⟩
  · rw [List.getElem?_map] at e
    obtain ⟨c, e1, e2⟩ := Option.map_eq_some_iff.mp e
    obtain ⟨e3, e4⟩ := List.getElem?_zip_eq_some.mp e1
    obtain ⟨v, e5, r1⟩ := reps_get0 hr1 e3
    obtain ⟨w, e6, r2⟩ := reps_get0 hr2 e4
    refine ⟨⟨vs, ws, v, w, hq1, hq2, e5, e6⟩, fun x H' ⟨T, z, z', ex, hT, eH, y, y'⟩ => ?_⟩
    subst ex eH
    cases (y vs hq1).symm.trans e5
    cases (y' ws hq2).symm.trans e6
    rw [← e2]
    exact tup_new hT (by show 2 ≤ lim; decide) ⟨_, _, [], [], rfl, rfl, r1, reps_one r2⟩
  · rw [List.length_map, List.length_zip] at h
    rw [reps_length hr1, reps_length hr2]
    omega
theorem it_zipT {a b : Addr} {vs ws : List V} {ds es : List D} (hs : ∀ H, Stays O H1 H → SqT K H a vs ∧ SqT K H b ws) (r : ∀ H, Stays O H1 H → reps K H U ds vs [] ∧ reps K H U es ws []) : ItRep K (RZ.ItzT K a b) U O H1 ((ds.zip es).map fun q => .tup [q.1, q.2]) := by
  intro H s i
  obtain ⟨hq1, hq2⟩ := hs H s
  obtain ⟨hr1, hr2⟩ := r H s
  refine ⟨fun d e => ?_, fun h => ⟨vs, ws, hq1, hq2, ?_⟩⟩
  · rw [List.getElem?_map] at e
    obtain ⟨c, e1, e2⟩ := Option.map_eq_some_iff.mp e
    obtain ⟨e3, e4⟩ := List.getElem?_zip_eq_some.mp e1
    obtain ⟨v, e5, r1⟩ := reps_get0 hr1 e3
    obtain ⟨w, e6, r2⟩ := reps_get0 hr2 e4
    refine ⟨⟨vs, ws, v, w, hq1, hq2, e5, e6⟩, fun x H' ⟨T, z, z', ex, hT, eH, y, y'⟩ => ?_⟩
    subst ex eH
    cases (y vs hq1).symm.trans e5
    cases (y' ws hq2).symm.trans e6
    rw [← e2]
    exact tup_new hT (by show 2 ≤ lim; decide) ⟨_, _, [], [], rfl, rfl, r1, reps_one r2⟩
  · rw [List.length_map, List.length_zip] at h
    rw [reps_length hr1, reps_length hr2]
    omega
end
theorem it_enumS {K : PySem.W.Frag} {H1 : Hp} {U O : Addr → Prop} {s : Cs} (k : Sok s) : ItRep K (IteS (toS s)) U O H1 ((s.map fun c => D.str [c]).mapIdx fun i x => .tup [.int i, x]) := by
  intro H _ i
  have sz : (toS s).cps.size = s.length := by simp [toS]
  have ec : ∀ j : Nat, (toS s).cps[j]? = s[j]? := fun j => by simp [toS]
  refine ⟨fun d e => ?_, fun h => ?_⟩
  · rw [List.getElem?_mapIdx, List.getElem?_map, Option.map_map] at e
    obtain ⟨c, e1, e2⟩ := Option.map_eq_some_iff.mp e
    subst e2
    refine ⟨⟨c, (ec i).trans e1⟩, fun x H' ⟨T, c', e3, hT, e4, e5⟩ => ?_⟩
    subst e3 e4
    have : c' = c := Option.some.inj (((ec i).symm.trans e5).symm.trans e1)
    subst this
    exact tup_new hT (by show 2 ≤ lim; decide) ⟨_, _, [], [], rfl, rfl, ⟨rfl, rfl⟩, reps_one ⟨rfl, sok_one k (List.mem_of_getElem? e1), rfl⟩⟩
  · show (toS s).cps.size = i
    rw [sz]; simpa using h
theorem it_zipM {K : PySem.W.Frag} {H1 : Hp} {U O : Addr → Prop} {a b : Addr} {vs ws : List V} {ds es : List D} (hs : ∀ H, Stays O H1 H → SqT K H a vs ∧ SqL K H b ws) (r : ∀ H, Stays O H1 H → reps K H U ds vs [] ∧ reps K H U es ws []) : ItRep K (ItzM K a b) U O H1 ((ds.zip es).map fun q => .tup [q.1, q.2]) := by
  intro H s i
  obtain ⟨hq1, hq2⟩ := hs H s
  obtain ⟨hr1, hr2⟩ := r H s
  refine ⟨fun d e => ?_, fun h => ⟨vs, ws, hq1, hq2, ?_⟩⟩
  · rw [List.getElem?_map] at e
    obtain ⟨c, e1, e2⟩ := Option.map_eq_some_iff.mp e
    obtain ⟨e3, e4⟩ := List.getElem?_zip_eq_some.mp e1
    obtain ⟨v, e5, r1⟩ := reps_get0 hr1 e3
    obtain ⟨w, e6, r2⟩ := reps_get0 hr2 e4
    refine ⟨⟨vs, ws, v, w, hq1, hq2, e5, e6⟩, fun x H' ⟨T, z, z', ex, hT, eH, y, y'⟩ => ?_⟩
    subst ex eH
    cases (y vs hq1).symm.trans e5
    cases (y' ws hq2).symm.trans e6
    rw [← e2]
    exact tup_new hT (by show 2 ≤ lim; decide) ⟨_, _, [], [], rfl, rfl, r1, reps_one r2⟩
  · rw [List.length_map, List.length_zip] at h
    rw [reps_length hr1, reps_length hr2]
    exact h
section
variable {G : Gx} {H H1 : Hp} {U O : Addr → Prop}
theorem MutA.same {a : Addr} (s : Same H H1) (h : MutA H a) : MutA H1 a := by
  rcases h with ⟨x, h⟩ | ⟨x, h⟩ | ⟨x, h⟩
  · exact .inl ⟨x, s _ _ h⟩
  · exact .inr (.inl ⟨x, s _ _ h⟩)
  · exact .inr (.inr ⟨x, s _ _ h⟩)
/-- a list's reading, for the turns -/
theorem lst_stays {K : PySem.W.Frag} {o : Q.O} {ds : List D} {v : V} {L : List Addr} (hd : Dom H U) (s : Same H H1) (f : ∀ a ∈ L, H a = none) (r : rep K H1 (Or2 U L) (.lst o ds) v L) :
    ds.length ≤ lim ∧ ∃ a vs, v = .ref a ∧ (∃ xs, SqL K H1 a xs) ∧ ∀ U' O : Addr → Prop, (∀ a, U' a → U a ∨ H1 a = none) → (∀ a, O a → U a) → (∀ a, O a → U' a) → (∀ a, O a → MutA H a) → (∀ H2, Stays O H1 H2 → SqL K H2 a vs) ∧ ∀ H2, Stays O H1 H2 → reps K H2 U' (shs ds) vs [] := by
  obtain ⟨a, vs, L', ⟨rfl, hl⟩, r1, z⟩ := r
  have sL : ∀ b ∈ L', b ∈ L := by
    rcases z with ⟨_, _, rfl⟩ | ⟨_, _, _, rfl, rfl⟩ | ⟨_, _, rfl, rfl⟩
    · exact fun b hb => List.mem_cons_of_mem _ hb
    · exact fun b hb => hb
    · exact fun b hb => hb
  have rs : reps K H1 U (shs ds) vs [] := reps_sh ds vs L' (fun b hb u => hd b u (f b (sL b hb))) (reps_set (fun a z => .inl (.inl z)) r1)
  refine ⟨hl, a, vs, rfl, ?_, fun U' O hU hO hO' hM => ⟨fun H2 st => ?_, fun H2 st => reps_go _ _ _ (st.go (fun a z => (hM a z).same s) hO') (reps_set hU rs)⟩⟩
  · rcases z with ⟨_, q, _⟩ | ⟨_, q, _⟩ | ⟨_, q, _⟩
    · exact ⟨_, .of q⟩
    · exact ⟨_, .of q⟩
    · exact ⟨_, q.sq⟩
  · rcases z with ⟨_, q, e⟩ | ⟨_, q, u, _⟩ | ⟨_, q, _⟩
    · exact .of (st _ _ q fun z => hd a (hO a z) (f a (by rw [e]; exact List.mem_cons_self)))
    · exact .of (st _ _ q fun z => u (.inl (hO a z)))
    · exact (st.frz (fun a z => (hM a z).same s) q).sq
theorem tup_stays {K : PySem.W.Frag} {ds : List D} {v : V} {L : List Addr} (hd : Dom H U) (s : Same H H1) (f : ∀ a ∈ L, H a = none) (r : rep K H1 (Or2 U L) (.tup ds) v L) :
    ds.length ≤ lim ∧ ∃ a vs, v = .ref a ∧ (∃ xs, SqT K H1 a xs) ∧ ∀ U' O : Addr → Prop, (∀ a, U' a → U a ∨ H1 a = none) → (∀ a, O a → U a) → (∀ a, O a → U' a) → (∀ a, O a → MutA H a) → (∀ H2, Stays O H1 H2 → SqT K H2 a vs) ∧ ∀ H2, Stays O H1 H2 → reps K H2 U' (shs ds) vs [] := by
  obtain ⟨a, vs, ⟨rfl, hl⟩, q, r1⟩ := r
  have rs : reps K H1 U (shs ds) vs [] := reps_sh ds vs L (fun b hb u => hd b u (f b hb)) (reps_set (fun a z => .inl (.inl z)) r1)
  exact ⟨hl, a, vs, rfl, ⟨_, q⟩, fun U' O hU hO hO' hM => ⟨fun H2 st => st.tup (fun a z => (hM a z).same s) q, fun H2 st => reps_go _ _ _ (st.go (fun a z => (hM a z).same s) hO') (reps_set hU rs)⟩⟩
end
theorem shs_chars (s : Cs) : shs (s.map fun c => D.str [c]) = s.map fun c => D.str [c] := by
  rw [shs_map, List.map_map]
  rfl
theorem shs_ints {α : Type} (f : α → Int) (s : List α) : shs (s.map fun c => D.int (f c)) = s.map fun c => D.int (f c) := by
  rw [shs_map, List.map_map]
  rfl
theorem shs_enum (ds : List D) : shs (ds.mapIdx fun i x => D.tup [.int i, x]) = (shs ds).mapIdx fun i x => D.tup [.int i, x] := by
  refine List.ext_getElem? fun i => ?_
  rw [shs_map, shs_map, List.getElem?_map, List.getElem?_mapIdx, List.getElem?_mapIdx, List.getElem?_map]
  cases ds[i]? <;> rfl
theorem shs_zip : ∀ xs ys : List D, shs ((xs.zip ys).map fun q => D.tup [q.1, q.2]) = ((shs xs).zip (shs ys)).map fun q => D.tup [q.1, q.2]
  | [], ys => rfl
  | x :: xs, [] => rfl
  | x :: xs, y :: ys => congrArg (D.tup [sh x, sh y] :: ·) (shs_zip xs ys)
section
variable {X : Cx} {G : Gx} {tg e e2 e3 : Expr} {m m2 m3 : E} {p pos : Pos}
theorem simi_val (hK : G.K = X.K) (h : PE X e (tM G m)) : PI X tg e (tI G (.val m)) := PI.imp (pi_seq h) fun σ H R ⟨U, env, hd, he, r⟩ => by
  have r' : Res G σ H ((ev G.C m env).b itemsOf) fun ds => ItTells G.K H U R ds := r
  refine tM_then hd he r'.bind fun d v H1 L q s f rr => ?_
  rw [← hK]
  cases d with
  | lst o ds =>
    obtain ⟨hz, a, vs, rfl, h1, h2⟩ := lst_stays hd s f.2 rr
    exact .inl ⟨a, rfl, h1, (show ItTells G.K H U R ds from q) _ H1 s hz fun U' O h3 h4 h5 h6 => it_seqL (h2 U' O h3 h4 h5 h6).1 (h2 U' O h3 h4 h5 h6).2⟩
  | tup ds =>
    obtain ⟨hz, a, vs, rfl, h1, h2⟩ := tup_stays hd s f.2 rr
    exact .inr (.inl ⟨a, rfl, h1, (show ItTells G.K H U R ds from q) _ H1 s hz fun U' O h3 h4 h5 h6 => it_seqT (h2 U' O h3 h4 h5 h6).1 (h2 U' O h3 h4 h5 h6).2⟩)
  | ptu ks =>
    obtain ⟨hz, a, vs, rfl, h1, h2⟩ := tup_stays hd s f.2 (ptu_tup rr)
    exact .inr (.inl ⟨a, rfl, h1, (show ItTells G.K H U R _ from q) _ H1 s hz fun U' O h3 h4 h5 h6 => it_seqT (h2 U' O h3 h4 h5 h6).1 (h2 U' O h3 h4 h5 h6).2⟩)
  | str z =>
    obtain ⟨rfl, k, rfl⟩ := rr
    exact .inr (.inr ⟨_, rfl, (show ItTells G.K H U R _ from q) _ H1 s (by rw [List.length_map]; exact k.1) fun U' O h3 h4 h5 h6 => by rw [shs_chars]; exact it_str k⟩)
  | _ => exact (show False from q).elim
theorem sized_in {i : Int} (h : sized i = true) : -(2 ^ 23) ≤ i ∧ i ≤ 2 ^ 23 := of_decide_eq_true h
theorem sized_ok {i : Int} (h : sized i = true) : -(2 ^ 62) ≤ i ∧ i < 2 ^ 62 := by
  have := sized_in h
  omega
theorem reps_cons' {K : PySem.W.Frag} {H : Hp} {U : Addr → Prop} {d : D} {ds : List D} {vs : List V} {L : List Addr} (h : reps K H U (d :: ds) vs L) : ∃ v vr L1 L2, vs = v :: vr ∧ L = L1 ++ L2 ∧ rep K H U d v L1 ∧ reps K H U ds vr L2 := h
theorem evs_one {C : Nat → List D → R D} {m : E} {env : Env} : evs C [m] env = (ev C m env).b fun x => .ok [x] := rfl
/-- one argument that is an int -/
theorem int1 {σ : St} {H : Hp} {U : Addr → Prop} {env : Env} {Q : List V → Hp → Prop} {k : Int → Prop} (hd : Dom H U) (he : RepE G H U σ env) (h : Res G σ H (asI (ev G.C m env)) k) (n : ∀ i H', k i → Same H H' → Q [.int i] H') : tMs G [m] σ H Q := by
  refine ⟨U, env, hd, he, ?_⟩
  rw [evs_one]
  have h2 := asI_bind h
  cases e : ev G.C m env with
  | ok d =>
    rw [e] at h2
    obtain ⟨i, rfl, q⟩ := (show ∃ b, d = .int b ∧ k b from h2)
    intro vs H' L s f r
    obtain ⟨v, rfl, rfl, rfl⟩ := reps1 r
    exact n i H' q s
  | exc x => rw [e] at h2; exact h2
  | bad => rw [e] at h2; exact h2
theorem int2 {σ : St} {H : Hp} {U : Addr → Prop} {env : Env} {Q : List V → Hp → Prop} {k : Int → Int → Prop} (hd : Dom H U) (he : RepE G H U σ env) (h : Res G σ H (asI (ev G.C m env)) fun i => Res G σ H (asI (ev G.C m2 env)) fun j => k i j) (n0 : ∀ i j H', k i j → Same H H' → Q [.int i, .int j] H') : tMs G [m, m2] σ H Q := by
  refine ⟨U, env, hd, he, ?_⟩
  show Res G σ H ((ev G.C m env).b fun x => (evs G.C [m2] env).b fun xs => .ok (x :: xs)) _
  have h1 := asI_bind h
  cases e : ev G.C m env with
  | ok d =>
    rw [e] at h1
    obtain ⟨i, rfl, h2⟩ := (show ∃ b, d = .int b ∧ Res G σ H (asI (ev G.C m2 env)) (fun j => k b j) from h1)
    have h3 := asI_bind h2
    rw [_root_.Q.R.b_ok, evs_one]
    cases e2 : ev G.C m2 env with
    | ok d2 =>
      rw [e2] at h3
      obtain ⟨j, rfl, q⟩ := (show ∃ b, d2 = .int b ∧ k i b from h3)
      intro vs H' L s f r
      obtain ⟨v, w, L1, L2, rfl, rfl, ⟨rfl, rfl⟩, ⟨rfl, rfl⟩⟩ := reps2 r
      exact n0 i j H' q s
    | exc x => rw [e2] at h3; exact h3
    | bad => rw [e2] at h3; exact h3
  | exc x => rw [e] at h1; exact h1
  | bad => rw [e] at h1; exact h1
theorem int3 {σ : St} {H : Hp} {U : Addr → Prop} {env : Env} {Q : List V → Hp → Prop} {k : Int → Int → Int → Prop} (hd : Dom H U) (he : RepE G H U σ env) (h : Res G σ H (asI (ev G.C m env)) fun i => Res G σ H (asI (ev G.C m2 env)) fun j => Res G σ H (asI (ev G.C m3 env)) fun l => k i j l) (n0 : ∀ i j l H', k i j l → Same H H' → Q [.int i, .int j, .int l] H') : tMs G [m, m2, m3] σ H Q := by
  refine ⟨U, env, hd, he, ?_⟩
  show Res G σ H ((ev G.C m env).b fun x => (evs G.C [m2, m3] env).b fun xs => .ok (x :: xs)) _
  have h1 := asI_bind h
  cases e : ev G.C m env with
  | ok d =>
    rw [e] at h1
    obtain ⟨i, rfl, h2⟩ := (show ∃ b, d = .int b ∧ Res G σ H (asI (ev G.C m2 env)) (fun j => Res G σ H (asI (ev G.C m3 env)) fun l => k b j l) from h1)
    have h3 := asI_bind h2
    rw [_root_.Q.R.b_ok]
    show Res G σ H (((ev G.C m2 env).b fun x => (evs G.C [m3] env).b fun xs => .ok (x :: xs)).b _) _
    cases e2 : ev G.C m2 env with
    | ok d2 =>
      rw [e2] at h3
      obtain ⟨j, rfl, h4⟩ := (show ∃ b, d2 = .int b ∧ Res G σ H (asI (ev G.C m3 env)) (fun l => k i b l) from h3)
      have h5 := asI_bind h4
      rw [_root_.Q.R.b_ok, evs_one]
      cases e3 : ev G.C m3 env with
      | ok d3 =>
        rw [e3] at h5
        obtain ⟨l, rfl, q⟩ := (show ∃ b, d3 = .int b ∧ k i j b from h5)
        intro vs H' L s f r
        obtain ⟨v, w, L1, L2, rfl, rfl, ⟨rfl, rfl⟩, h6⟩ := reps_cons' r
        obtain ⟨v2, w2, L3, L4, rfl, rfl, ⟨rfl, rfl⟩, ⟨rfl, rfl⟩⟩ := reps2 h6
        exact n0 i j l H' q s
      | exc x => rw [e3] at h5; exact h5
      | bad => rw [e3] at h5; exact h5
    | exc x => rw [e2] at h3; exact h3
    | bad => rw [e2] at h3; exact h3
  | exc x => rw [e] at h1; exact h1
  | bad => rw [e] at h1; exact h1
theorem simi_r1 {x : Str} (hx : x = "range") (hg : Gl X "range") (hm : X.mg "range" = none) (h : PE X e (tM G m)) (hst : starEach [e] X.env = [(false, eval e X.env)]) : PI X tg (.Call (.Name x p) [e] [] pos) (tI G (.r1 m)) := by
  subst hx
  refine PI.imp (pi_range1 hg hm (sims_cons h sims_nil (by rw [hst]; first | rfl | simp [starEach])) hst) fun σ H R ⟨U, env, hd, he, r⟩ => ?_
  have r' : Res G σ H ((asI (ev G.C m env)).b fun n => if sized n then .ok (rngUp 0 n) else .bad) fun ds => ItTells G.K H U R ds := r
  refine int1 hd he r'.bind fun i H' q s => ?_
  split at q
  · rename_i hs
    refine ⟨i, rfl, (sized_ok hs).1, (sized_ok hs).2, (show ItTells G.K H U R _ from q) _ H' s (by unfold rngUp lim; rw [List.length_map, List.length_range]; have := sized_in hs; omega) fun U' O _ _ _ _ => ?_⟩
    unfold rngUp
    rw [shs_ints, Int.sub_zero]
    exact it_rng
  · exact (show False from q).elim
theorem simi_r2 {x : Str} (hx : x = "range") (hg : Gl X "range") (hm : X.mg "range" = none) (h : PE X e (tM G m)) (h2 : PE X e2 (tM G m2)) (hst : starEach [e, e2] X.env = [(false, eval e X.env), (false, eval e2 X.env)]) (hst2 : starEach [e2] X.env = [(false, eval e2 X.env)]) :
    PI X tg (.Call (.Name x p) [e, e2] [] pos) (tI G (.r2 m m2)) := by
  subst hx
  refine PI.imp (pi_range2 hg hm (sims_cons h (sims_cons h2 sims_nil (by rw [hst2]; first | rfl | simp [starEach])) (by rw [hst, hst2])) hst hst2) fun σ H R ⟨U, env, hd, he, r⟩ => ?_
  have r' : Res G σ H ((asI (ev G.C m env)).b fun i => (asI (ev G.C m2 env)).b fun j => if sized i && sized j then .ok (rngUp i j) else .bad) fun ds => ItTells G.K H U R ds := r
  refine int2 hd he (r'.bind.mono fun i _ q => q.bind) fun i j H' q s => ?_
  split at q
  · rename_i hs
    obtain ⟨s1, s2⟩ := Bool.and_eq_true_iff.mp hs
    refine ⟨i, j, rfl, ⟨(sized_ok s1).1, (sized_ok s1).2, (sized_ok s2).1, (sized_ok s2).2⟩, (show ItTells G.K H U R _ from q) _ H' s (by unfold rngUp lim; rw [List.length_map, List.length_range]; have := sized_in s1; have := sized_in s2; omega) fun U' O _ _ _ _ => ?_⟩
    unfold rngUp
    rw [shs_ints]
    exact it_rng
  · exact (show False from q).elim
theorem simi_r3 {x : Str} (hx : x = "range") (hg : Gl X "range") (hm : X.mg "range" = none) (h : PE X e (tM G m)) (h2 : PE X e2 (tM G m2)) (h3 : PE X e3 (tM G m3)) (hst : starEach [e, e2, e3] X.env = (false, eval e X.env) :: starEach [e2, e3] X.env) (hst2 : starEach [e2, e3] X.env = (false, eval e2 X.env) :: starEach [e3] X.env) (hst3 : starEach [e3] X.env = (false, eval e3 X.env) :: starEach [] X.env)
    (hpl : (backTo pos (starEach [e2, e3] X.env)).any (·.1) = false) : PI X tg (.Call (.Name x p) [e, e2, e3] [] pos) (tI G (.r3 m m2 m3)) := by
  subst hx
  refine PI.imp (pi_range3 hg hm (sims_cons h (sims_cons h2 (sims_cons h3 sims_nil hst3) hst2) hst) hst hpl) fun σ H R ⟨U, env, hd, he, r⟩ => ?_
  have r' : Res G σ H ((asI (ev G.C m env)).b fun i => (asI (ev G.C m2 env)).b fun j => (asI (ev G.C m3 env)).b fun k => if sized i && sized j && decide (k = -1) then .ok (rngDn i j) else .bad) fun ds => ItTells G.K H U R ds := r
  refine int3 hd he (r'.bind.mono fun i _ q => q.bind.mono fun j _ q => q.bind) fun i j l H' q s => ?_
  split at q
  · rename_i hs
    obtain ⟨hs1, s3⟩ := Bool.and_eq_true_iff.mp hs
    obtain ⟨s1, s2⟩ := Bool.and_eq_true_iff.mp hs1
    have e : l = -1 := of_decide_eq_true s3
    subst e
    refine ⟨i, j, -1, (i - j).toNat, rfl, .neg (sized_ok s1).1 (sized_ok s1).2 (sized_ok s2).1 (sized_ok s2).2, (show ItTells G.K H U R _ from q) _ H' s (by unfold rngDn lim; rw [List.length_map, List.length_range]; have := sized_in s1; have := sized_in s2; omega) fun U' O _ _ _ _ => ?_⟩
    unfold rngDn
    rw [shs_ints]
    exact it_rngC
  · exact (show False from q).elim
theorem simi_enum {elts : List Expr} {kk : Nat} {tpos : Pos} {x : Str} (hK : G.K = X.K) (hx : x = "enumerate") (hg : Gl X "enumerate") (hm : X.mg "enumerate" = none) (h : PE X e (tM G m)) (hst : starEach [e] X.env = [(false, eval e X.env)]) : PI X (.Tuple elts kk tpos) (.Call (.Name x p) [e] [] pos) (tI G (.enum m)) := by
  subst hx
  refine PI.imp (pi_enumX hg hm (sims_cons h sims_nil (by rw [hst]; first | rfl | simp [starEach])) hst) fun σ H R ⟨U, env, hd, he, r⟩ => ?_
  have r' : Res G σ H ((ev G.C m env).b enumD) fun ds => ItTells G.K H U R ds := r
  refine tMs_then (k := fun ds => ∃ d, ds = [d] ∧ Res G σ H (enumD d) fun ds => ItTells G.K H U R ds) hd he ?_ fun ds vs H1 L ⟨d, e1, q⟩ s f rr => ?_
  · rw [evs_one]
    have := r'.bind
    cases e1 : ev G.C m env with
    | ok d => rw [e1] at this; exact ⟨d, rfl, this⟩
    | exc x => rw [e1] at this; exact this
    | bad => rw [e1] at this; exact this
  · subst e1
    obtain ⟨v, rfl, r1⟩ := reps1 rr
    cases d with
    | lst o ds =>
      obtain ⟨hz, a, vs, rfl, ⟨xs, h1⟩, h2⟩ := lst_stays hd s f.2 r1
      refine .inl ⟨a, xs, rfl, by rw [← hK]; exact h1, ?_⟩
      rw [← hK]
      refine (show ItTells G.K H U R _ from q) _ H1 s (by simpa using hz) fun U' O h3 h4 h5 h6 => ?_
      have e2 := shs_enum ds
      rw [e2]
      exact it_enum (h2 U' O h3 h4 h5 h6).1 (h2 U' O h3 h4 h5 h6).2
    | str z =>
      obtain ⟨rfl, k, rfl⟩ := r1
      refine .inr ⟨_, rfl, (show ItTells G.K H U R _ from q) _ H1 s (by simpa using k.1) fun U' O h3 h4 h5 h6 => ?_⟩
      have e2 := shs_enum (z.map fun c => D.str [c])
      rw [e2, shs_chars]
      exact it_enumS k
    | _ => exact (show False from q).elim
theorem simi_zip {elts : List Expr} {kk : Nat} {tpos : Pos} {x : Str} (hK : G.K = X.K) (hx : x = "zip") (hg : Gl X "zip") (hm : X.mg "zip" = none) (h : PE X e (tM G m)) (h2 : PE X e2 (tM G m2)) (hst : starEach [e, e2] X.env = (false, eval e X.env) :: starEach [e2] X.env) (hst2 : starEach [e2] X.env = (false, eval e2 X.env) :: starEach [] X.env)
    (hpl : (backTo pos (starEach [e2] X.env)).any (·.1) = false) : PI X (.Tuple elts kk tpos) (.Call (.Name x p) [e, e2] [] pos) (tI G (.zip m m2)) := by
  subst hx
  refine PI.imp (pi_zipX hg hm (sims_cons h (sims_cons h2 sims_nil hst2) hst) hst hpl) fun σ H R ⟨U, env, hd, he, r⟩ => ?_
  have r' : Res G σ H ((ev G.C m env).b fun d => (ev G.C m2 env).b fun c => zipD d c) fun ds => ItTells G.K H U R ds := r
  refine tMs_then (k := fun ds => ∃ d c, ds = [d, c] ∧ Res G σ H (zipD d c) fun ds => ItTells G.K H U R ds) hd he ?_ fun ds vs H1 L ⟨d, c, e1, q⟩ s f rr => ?_
  · show Res G σ H ((ev G.C m env).b fun x => (evs G.C [m2] env).b fun xs => .ok (x :: xs)) _
    have := r'.bind
    cases e1 : ev G.C m env with
    | ok d =>
      rw [e1] at this
      have h5 := (show Res G σ H ((ev G.C m2 env).b fun c => zipD d c) _ from this).bind
      rw [_root_.Q.R.b_ok, evs_one]
      cases e2 : ev G.C m2 env with
      | ok c => rw [e2] at h5; exact ⟨d, c, rfl, h5⟩
      | exc x => rw [e2] at h5; exact h5
      | bad => rw [e2] at h5; exact h5
    | exc x => rw [e1] at this; exact this
    | bad => rw [e1] at this; exact this
  · subst e1
    obtain ⟨v, w, L1, L2, rfl, rfl, r1, r2⟩ := reps2 rr
    have f1 : ∀ a ∈ L1, H a = none := fun a ha => f.2 a (List.mem_append_left _ ha)
    have f2 : ∀ a ∈ L2, H a = none := fun a ha => f.2 a (List.mem_append_right _ ha)
    have r1 := rep_less (fun a ha => List.mem_append_left L2 ha) r1
    have r2 := rep_less (fun a ha => List.mem_append_right L1 ha) r2
    rw [← hK]
    cases d with
    | lst o ds =>
      cases c with
      | lst o' es =>
        obtain ⟨hz, a, vs, rfl, ⟨xs, h1⟩, h2⟩ := lst_stays hd s f1 r1
        obtain ⟨hz', b, ws, rfl, ⟨ys, h1'⟩, h2'⟩ := lst_stays hd s f2 r2
        refine ⟨a, b, xs, ys, rfl, .inl (.inl ⟨h1, h1', (show ItTells G.K H U R _ from q) _ H1 s (by rw [List.length_map, List.length_zip]; omega) fun U' O h3 h4 h5 h6 => ?_⟩)⟩
        rw [shs_zip]
        exact it_zipL (fun H2 z => ⟨(h2 U' O h3 h4 h5 h6).1 H2 z, (h2' U' O h3 h4 h5 h6).1 H2 z⟩) fun H2 z => ⟨(h2 U' O h3 h4 h5 h6).2 H2 z, (h2' U' O h3 h4 h5 h6).2 H2 z⟩
      | _ => exact (show False from q).elim
    | tup ds =>
      cases c with
      | tup es =>
        obtain ⟨hz, a, vs, rfl, ⟨xs, h1⟩, h2⟩ := tup_stays hd s f1 r1
        obtain ⟨hz', b, ws, rfl, ⟨ys, h1'⟩, h2'⟩ := tup_stays hd s f2 r2
        refine ⟨a, b, xs, ys, rfl, .inl (.inr ⟨h1, h1', (show ItTells G.K H U R _ from q) _ H1 s (by rw [List.length_map, List.length_zip]; omega) fun U' O h3 h4 h5 h6 => ?_⟩)⟩
        rw [shs_zip]
        exact it_zipT (fun H2 z => ⟨(h2 U' O h3 h4 h5 h6).1 H2 z, (h2' U' O h3 h4 h5 h6).1 H2 z⟩) fun H2 z => ⟨(h2 U' O h3 h4 h5 h6).2 H2 z, (h2' U' O h3 h4 h5 h6).2 H2 z⟩
      | lst o' es =>
        obtain ⟨hz, a, vs, rfl, ⟨xs, h1⟩, h2⟩ := tup_stays hd s f1 r1
        obtain ⟨hz', b, ws, rfl, ⟨ys, h1'⟩, h2'⟩ := lst_stays hd s f2 r2
        refine ⟨a, b, xs, ys, rfl, .inr ⟨h1, h1', (show ItTells G.K H U R _ from q) _ H1 s (by rw [List.length_map, List.length_zip]; omega) fun U' O h3 h4 h5 h6 => ?_⟩⟩
        rw [shs_zip]
        exact it_zipM (fun H2 z => ⟨(h2 U' O h3 h4 h5 h6).1 H2 z, (h2' U' O h3 h4 h5 h6).1 H2 z⟩) fun H2 z => ⟨(h2 U' O h3 h4 h5 h6).2 H2 z, (h2' U' O h3 h4 h5 h6).2 H2 z⟩
      | _ => exact (show False from q).elim
    | _ => exact (show False from q).elim
end
end Q

set_option maxHeartbeats 1000000
namespace Q
open PySem PySem.Spec L2
open PyProof.Rows hiding St

/-! ## written dicts -/
section
variable {X : Cx} {G : Gx} {pos : Pos}
theorem tMs_cons {m : E} {ms : List E} {σ : St} {H : Hp} {Q : List V → Hp → Prop} (h : tMs G (m :: ms) σ H Q) : tM G m σ H fun y H1 => tMs G ms σ H1 fun ys H2 => Q (y :: ys) H2 := by
  obtain ⟨U, env, hd, he, r⟩ := h
  have r' : Res G σ H ((ev G.C m env).b fun x => (evs G.C ms env).b fun xs => .ok (x :: xs)) fun d => Oks G.K H U d Q := r
  refine tM_then hd he (r'.bind.mono fun x _ q => q.bind) fun d v H1 L q s f rr => ?_
  have il := rep_in _ _ _ rr
  refine tMs_then (U := Or2 U L) (env := env) ((hd.same s).or il) ((he.or f.2).same s) (Res.same s q) fun ds vs H2 M q2 s2 f2 r2 => ?_
  rw [or_app'] at r2
  refine (show Oks G.K H U (d :: ds) Q from q2) _ H2 (L ++ M) (s.trans s2) (f.app s il f2) ⟨v, vs, L, M, rfl, rfl, rep_same s2 ?_, r2⟩
  rw [← or_app']
  exact rep_or f2.2 rr
/-- keys and values -/
def trsOf (G : Gx) (ks : List Ky) (ms : List E) : List (TE × TE) := (ks.zip ms).map fun q => (tC (kV (kyK q.1)), tM G q.2)
theorem pairs_run : ∀ {ks : List Ky} {ms : List E} {σ : St} {H : Hp} {Q : List (V × V) → Hp → Prop}, ks.length = ms.length → tMs G ms σ H (fun vs H' => Q ((ks.map fun k => kV (kyK k)).zip vs) H') → tPairs (trsOf G ks ms) σ H Q
  | [], [], σ, H, Q, _, h => by
    obtain ⟨U, env, hd, he, r⟩ := h
    exact (show Oks G.K H U [] _ from r) [] H [] (Same.refl H) .nil ⟨rfl, rfl⟩
  | k :: ks, m :: ms, σ, H, Q, hl, h => by
    obtain ⟨U, env, hd, he, r⟩ := tMs_cons h
    exact ⟨U, env, hd, he, r.mono fun d _ q v H1 L s f rr => pairs_run (Nat.succ.inj hl) (q v H1 L s f rr)⟩
  | [], _ :: _, _, _, _, hl, _ => nomatch hl
  | _ :: _, [], _, _, _, hl, _ => nomatch hl
theorem merge_rep {K : PySem.W.Frag} {H : Hp} {U : Addr → Prop} : ∀ {ks : List Ky} {ds : List D} {vs : List V} {L : List Addr} {acc : List (Ky × D)} {av : List (Key × V)} {La : List Addr}, repk K H U acc av La → (acc.map (·.1)).Nodup → reps K H U ds vs L → (La ++ L).Nodup →
    ∃ N, repk K H U (mergeD acc (ks.zip ds)) (mergeK av ((ks.map kyK).zip vs)) N ∧ ((mergeD acc (ks.zip ds)).map (·.1)).Nodup ∧ (∀ a ∈ N, a ∈ La ++ L) ∧ N.Nodup
  | [], ds, vs, L, acc, av, La, h, nk, r, nd => ⟨La, h, nk, fun a ha => List.mem_append_left _ ha, (List.nodup_append.mp nd).1⟩
  | k :: ks, [], vs, L, acc, av, La, h, nk, r, nd => by
    obtain ⟨rfl, _⟩ := (show vs = [] ∧ _ from r)
    exact ⟨La, h, nk, fun a ha => List.mem_append_left _ ha, (List.nodup_append.mp nd).1⟩
  | k :: ks, d :: ds, vs, L, acc, av, La, h, nk, r, nd => by
    obtain ⟨v, vr, L1, L2, e1, e2, h1, h2⟩ := r
    subst e1 e2
    have nd1 : (La ++ L1).Nodup := by
      rw [← List.append_assoc] at nd
      exact (List.nodup_append.mp nd).1
    obtain ⟨N1, p1, p2, p3⟩ := repk_put (k := k) nk h h1 nd1
    have nd2 : (N1 ++ L2).Nodup := by
      rw [← List.append_assoc] at nd
      obtain ⟨_, q2, q3⟩ := List.nodup_append.mp nd
      exact List.nodup_append.mpr ⟨p3, q2, fun a ha b hb => q3 a (p2 a ha) b hb⟩
    obtain ⟨N, g1, g2, g3, g4⟩ := merge_rep (ks := ks) p1 (putD_keys nk) h2 nd2
    refine ⟨N, g1, g2, fun a ha => ?_, g4⟩
    rcases List.mem_append.mp (g3 a ha) with q | q
    · rcases List.mem_append.mp (p2 a q) with q | q
      · exact List.mem_append_left _ q
      · exact List.mem_append_right _ (List.mem_append_left _ q)
    · exact List.mem_append_right _ (List.mem_append_right _ q)
theorem zip_map {ks : List Ky} {vs : List V} : (ks.map fun k => kV (kyK k)).zip vs = ((ks.map kyK).zip vs).map fun kv => (kV kv.1, kv.2) := by
  induction ks generalizing vs with
  | nil => rfl
  | cons k ks ih =>
    cases vs with
    | nil => rfl
    | cons v vs => exact congrArg _ ih
theorem sim_dic {keys : List (Option Expr)} {values : List Expr} {ks : List Ky} {ms : List E} (hl : ks.length = ms.length) (h : PPs X pos keys values (trsOf G ks ms)) (hall : keys.all (·.isSome) = true) (hle : keys.length = values.length) (h0 : keys ≠ [])
    (h15 : keys.length ≤ 15) (hk15 : ks.length ≤ 15) : PE X (.Dict keys values pos) (tM G (.dic ks ms)) :=
  (pe_disp h hall hle h0 h15).imp fun σ H Q ⟨U, env, hd, he, r⟩ p hp => by
  have r' : Res G σ H ((evs G.C ms env).b fun ds => .ok (.dic .w (mergeD [] (ks.zip ds)))) fun d => Ok1 G.K H U d Q := r
  have s1 : Same H (upd H p (.dK [])) := same_upd hp
  refine pairs_run hl ?_
  refine ⟨Or2 U [p], env, (hd.same s1).or fun a ha => ?_, (he.or fun a ha => ?_).same s1, Res.same s1 (r'.bind.mono fun ds _ q => ?_)⟩
  · rw [List.mem_singleton.mp ha, upd_same]; exact Option.some_ne_none _
  · rw [List.mem_singleton.mp ha]; exact hp
  · intro vs H2 L s2 f2 rr
    have s12 := s1.trans s2
    have hp2 : H2 p = some (.dK []) := s2 _ _ upd_same
    have pL : p ∉ L := fun m => by
      have := f2.2 p m
      rw [upd_same] at this; cases this
    refine ⟨hp2, (ks.map kyK).zip vs, zip_map, by rw [List.length_zip, List.length_map]; omega, ?_⟩
    have q' : Ok1 G.K H U (.dic .w (mergeD [] (ks.zip ds))) Q := q
    have rr2 : reps G.K (upd H2 p (.dK (mergeK [] ((ks.map kyK).zip vs)))) (Or2 U (p :: L)) ds vs L := by
      rw [or_app'] at rr
      exact reps_go _ _ _ (Go.upd (.inr (.inl ⟨_, hp2⟩)) (.inr List.mem_cons_self) pL) rr
    obtain ⟨N, g1, g2, g3, g4⟩ := merge_rep (K := G.K) (ks := ks) (acc := []) (av := []) (La := []) ⟨rfl, rfl⟩ List.nodup_nil rr2 f2.1
    have gN : ∀ a ∈ N, a ∈ L := fun a ha => (List.mem_append.mp (g3 a ha)).elim (fun z => nomatch z) id
    have fin : Same H (upd H2 p (.dK (mergeK [] ((ks.map kyK).zip vs)))) := fun b o e => by rw [upd_ne (ne_of_none e hp)]; exact s12 b o e
    refine q' (.ref p) _ (p :: N) fin ⟨List.nodup_cons.mpr ⟨fun m => pL (gN p m), g4⟩, fun a ha => ?_⟩ ⟨p, _, N, rfl, ⟨repk_go _ _ _ (.set fun a z => .inl ?_) g1, g2⟩, upd_same, .inl ⟨rfl, rfl⟩⟩
    · rcases List.mem_cons.mp ha with rfl | ha
      · exact hp
      · exact s1.free (f2.2 a (gN a ha))
    · rcases z with z | z
      · exact .inl z
      · rcases List.mem_cons.mp z with rfl | z
        · exact .inr List.mem_cons_self
        · exact .inr (List.mem_cons_of_mem _ (gN a z))
end
end Q

set_option maxHeartbeats 1000000
namespace Q
open PySem PySem.Spec L2
open PyProof.Rows hiding St

/-! ## targets -/
section
variable {G : Gx} {H : Hp} {U : Addr → Prop} {σ : St} {env : Env}
theorem RepE.set {i : Nat} {d : D} {v : V} (h : RepE G H U σ env) (hq : ∀ q v, G.hot = some (q, v) → q ≠ i) (hm : G.M i = false) (r : rep G.K H U d v []) : RepE G H U (σ.set i (some v)) (env.set i (some d)) := by
  refine ⟨by rw [List.length_set, List.length_set]; exact h.1, fun j d' e z => ?_, fun q w e => by rw [List.getElem?_set_ne (Ne.symm (hq q w e))]; exact h.2.2 q w e⟩
  by_cases hj : i = j
  · subst hj
    rw [List.getElem?_set] at e
    rw [if_pos rfl] at e
    split at e
    · cases e
      refine ⟨v, by rw [List.getElem?_set, if_pos rfl, if_pos (by rw [← h.1]; assumption)], ?_⟩
      rw [hm, if_neg Bool.false_ne_true]; exact r
    · cases e
  · rw [List.getElem?_set_ne hj] at e
    obtain ⟨w, h1, h2⟩ := h.2.1 j d' e z
    exact ⟨w, by rw [List.getElem?_set_ne hj]; exact h1, h2⟩
/-- names, one behind the other -/
def setV (is : List Nat) (vs : List V) (σ : St) : St := (is.zip vs).foldl (fun σ q => σ.set q.1 (some q.2)) σ
theorem RepE.setV : ∀ {is : List Nat} {ds : List D} {vs : List V} {σ : St} {env : Env}, RepE G H U σ env → G.hot = none → (∀ i ∈ is, G.M i = false) → reps G.K H U (shs ds) vs [] →
    RepE G H U (setV is vs σ) ((is.zip ds).foldl (fun env q => env.set q.1 (some (sh q.2))) env)
  | [], ds, vs, σ, env, h, hc, hm, r => h
  | i :: is, [], vs, σ, env, h, hc, hm, r => by
    obtain ⟨rfl, _⟩ := (show vs = [] ∧ _ from r)
    exact h
  | i :: is, d :: ds, vs, σ, env, h, hc, hm, r => by
    obtain ⟨v, vr, L1, L2, rfl, e2, h1, h2⟩ := (show ∃ v vr L1 L2, vs = v :: vr ∧ [] = L1 ++ L2 ∧ rep G.K H U (sh d) v L1 ∧ reps G.K H U (shs ds) vr L2 from r)
    obtain ⟨rfl, rfl⟩ := List.append_eq_nil_iff.mp e2.symm
    have := RepE.setV (is := is) (ds := ds) (vs := vr) (h.set (fun q v e => by rw [hc] at e; cases e) (hm i List.mem_cons_self) h1) hc (fun j hj => hm j (List.mem_cons_of_mem _ hj)) h2
    exact this
theorem setV_length : ∀ {is : List Nat} {vs : List V} {σ : St}, (setV is vs σ).length = σ.length
  | [], _, _ => rfl
  | _ :: _, [], _ => rfl
  | i :: is, v :: vs, σ => (setV_length (is := is) (vs := vs)).trans List.length_set
theorem wipe_get {σ : St} {i : Nat} : ∀ {vs : List Nat}, (wipe σ vs)[i]? = if i ∈ vs then (if i < σ.length then some none else none) else σ[i]?
  | [] => by simp [wipe]
  | v :: vs => by
    unfold wipe
    rw [List.getElem?_set, wipe_length]
    by_cases h : v = i
    · subst h; simp
    · rw [if_neg h, wipe_get (vs := vs)]
      have : i ∈ v :: vs ↔ i ∈ vs := by simp [Ne.symm h]
      simp only [this]
theorem wipe_eq {σ σ' : St} {vs : List Nat} (hl : σ'.length = σ.length) (h : ∀ i, i ∉ vs → σ'[i]? = σ[i]?) : wipe σ' vs = wipe σ vs := by
  refine List.ext_getElem? fun i => ?_
  rw [wipe_get, wipe_get, hl]
  split
  · rfl
  · rename_i hi; exact h i hi
theorem setV_out {j : Nat} : ∀ {is : List Nat} {vs : List V} {σ : St}, j ∉ is → (setV is vs σ)[j]? = σ[j]?
  | [], _, _, _ => rfl
  | _ :: _, [], _, _ => rfl
  | i :: is, v :: vs, σ, h => by
    have h1 : j ≠ i := fun e => h (e ▸ List.mem_cons_self)
    exact (setV_out (is := is) (vs := vs) (σ := σ.set i (some v)) fun m => h (List.mem_cons_of_mem _ m)).trans (List.getElem?_set_ne h1.symm)
theorem RepE.wipe {vs : List Nat} (h : RepE G H U σ env) (hc : G.hot = none) : RepE G H U (wipe σ vs) (vs.foldl (fun env i => env.set i none) env) := by
  have key : ∀ (vs : List Nat) (env : Env), (vs.foldl (fun env i => env.set i none) env).length = env.length ∧ ∀ i d, (vs.foldl (fun env i => env.set i none) env)[i]? = some (some d) → i ∉ vs ∧ env[i]? = some (some d) := by
    intro vs
    induction vs with
    | nil => exact fun env => ⟨rfl, fun i d e => ⟨by simp, e⟩⟩
    | cons v vs ih =>
      intro env
      obtain ⟨h1, h2⟩ := ih (env.set v none)
      refine ⟨h1.trans List.length_set, fun i d e => ?_⟩
      obtain ⟨h3, h4⟩ := h2 i d e
      rw [List.getElem?_set] at h4
      split at h4
      · split at h4 <;> cases h4
      · rename_i hne
        exact ⟨by simp only [List.mem_cons, not_or]; exact ⟨fun e => hne e.symm, h3⟩, h4⟩
  obtain ⟨h1, h2⟩ := key vs env
  refine ⟨by rw [h1, wipe_length]; exact h.1, fun i d e z => ?_, fun q w e => by rw [hc] at e; cases e⟩
  obtain ⟨h3, h4⟩ := h2 i d e
  obtain ⟨v, h5, h6⟩ := h.2.1 i d h4 z
  exact ⟨v, by rw [wipe_get, if_neg h3]; exact h5, h6⟩
end
def unpk (p : P) (d : D) : Option (List D) := match p with
  | .n _ => some [d]
  | .t is => match d with
    | .tup ds => if ds.length = is.length then some ds else none
    | .lst _ ds => if ds.length = is.length then some ds else none
    | _ => none
theorem bindP_unpk (p : P) (d : D) (env : Env) : bindP p d env = match unpk p d with
  | some ds => .ok (((slots p).zip ds).foldl (fun env q => env.set q.1 (some (sh q.2))) env)
  | none => .bad := by
  cases p with
  | n i => rfl
  | t is =>
    unfold bindP unpk
    cases d with
    | tup ds => dsimp only; split <;> rfl
    | lst o ds => dsimp only; split <;> rfl
    | _ => rfl
/-- a target's reading -/
def tG (K : PySem.W.Frag) (p : P) : TG := fun v σ H Q => ∃ U d, rep K H U (sh d) v [] ∧ match unpk p d with
  | some ds => ∀ vs, reps K H U (shs ds) vs [] → Q (setV (slots p) vs σ) H
  | none => False
theorem _root_.L2.PG.imp {X : Cx} {e : Expr} {t t' : TG} (h : PG X e t) (k : ∀ v σ H Q, t' v σ H Q → t v σ H Q) : PG X e t' := ⟨fun pins s σ H v u Q I r q => h.run pins s σ H v u Q I r (k _ _ _ _ q)⟩
theorem pg_or {X : Cx} {e : Expr} {t u : TG} (h : PG X e t) (h' : PG X e u) : PG X e (fun v σ H Q => t v σ H Q ∨ u v σ H Q) := ⟨fun pins s σ H v u Q I r q => q.elim (h.run pins s σ H v u Q I r) (h'.run pins s σ H v u Q I r)⟩
def gAll (is : List Nat) : TGs := fun vs σ H Q => vs.length = is.length ∧ Q (setV is vs σ) H
section
variable {X : Cx} {G : Gx} {pos : Pos}
theorem simg_name {i : Nat} {x : Str} {K : PySem.W.Frag} (hN : X.N.Nodup) (hi : X.N[i]? = some x) (hx : Loc X.env.scope x) (hf : X.fn x = true ∨ X.env.scope.names.lookup x = some .local) : PG X (.Name x pos) (tG K (.n i)) :=
  PG.imp (pg_name hN hi hx hf) fun v σ H Q ⟨U, d, h2, h4⟩ => by
    exact (show ∀ vs, reps K H U (shs [d]) vs [] → Q (setV [i] vs σ) H from h4) [v] (reps_one h2)
theorem simgs_nil : PGs X [] (gAll []) := ⟨fun pins s σ H vs us Q I r h => pgs_nil.run pins s σ H vs us Q I r ⟨List.length_eq_zero_iff.mp h.1, by
  have e : vs = [] := List.length_eq_zero_iff.mp h.1
  rw [e] at h; exact h.2⟩⟩
theorem simgs_cons {i : Nat} {x : Str} {is : List Nat} {es : List Expr} (hN : X.N.Nodup) (hi : X.N[i]? = some x) (hx : Loc X.env.scope x) (hf : X.fn x = true ∨ X.env.scope.names.lookup x = some .local) (h : PGs X es (gAll is))
    (hs : (assignEach (.Name x pos :: es) X.env).map (·.2) = assign (.Name x pos) X.env :: (assignEach es X.env).map (·.2)) : PGs X (.Name x pos :: es) (gAll (i :: is)) :=
  ⟨fun pins s σ H vs us Q I r q => (pgs_cons (pg_name hN hi hx hf) h hs).run pins s σ H vs us Q I r (by
    obtain ⟨q1, q2⟩ := q
    cases vs with
    | nil => cases q1
    | cons v vr => exact ⟨v, vr, rfl, Nat.succ.inj q1, q2⟩)⟩
theorem simg_tup {es : List Expr} {k : Nat} {is : List Nat} {K : PySem.W.Frag} (hK : K = X.K) (hc : X.calm = true) (h : PGs X es (gAll is)) (hn : (assignEach es X.env).length = is.length) (hst : (assignEach es X.env).findIdx? (·.1) = none) : PG X (.Tuple es k pos) (tG K (.t is)) :=
  PG.imp (pg_or (pg_tup hc h hn hst) (pg_unl hc h hn hst)) fun v σ H Q ⟨U, d, h2, h4⟩ => by
    have fin : ∀ ds vs, reps K H U (shs ds) vs [] → unpk (.t is) d = (if ds.length = is.length then some ds else none) → vs.length = is.length ∧ Q (setV is vs σ) H := fun ds vs rr e => by
      have hl : vs.length = ds.length := (reps_length rr).trans (shs_length ds)
      rw [e] at h4
      by_cases hlen : ds.length = is.length
      · rw [if_pos hlen] at h4
        exact ⟨hl.trans hlen, h4 vs rr⟩
      · rw [if_neg hlen] at h4
        exact h4.elim
    cases d with
    | tup ds =>
      obtain ⟨a, vs, ⟨rfl, _⟩, q, r⟩ := h2
      obtain ⟨f1, f2⟩ := fin ds vs r rfl
      exact .inl ⟨a, vs, rfl, by rw [← hK]; exact q, f1, f1, f2⟩
    | lst o ds =>
      obtain ⟨a, vs, L', e, q, r, hL, _⟩ := sq_of_lst h2
      subst e
      have e2 : L' = [] := List.eq_nil_iff_forall_not_mem.mpr fun b hb => nomatch hL b hb
      subst e2
      obtain ⟨f1, f2⟩ := fin ds vs r rfl
      exact .inr ⟨a, vs, rfl, by rw [← hK]; exact q, f1, f1, f2⟩
    | _ => exact h4.elim
end

/-! ## comprehensions -/
def Gx.q (G : Gx) : Gx := { G with W := fun _ _ _ _ => False }
/-- a clause's tests -/
def tMc (G : Gx) (m : List E) : TT := fun σ H Q => ∃ U env, Dom H U ∧ RepE G H U σ env ∧ Res G σ H (evc G.C m env) fun b => ∀ H', Same H H' → Q b H'
section
variable {X : Cx} {G : Gx} {pos : Pos}
theorem PTs.imp {es : List Expr} {t t' : TT} (h : PTs X es t) (k : ∀ σ H Q, t' σ H Q → t σ H Q) : PTs X es t' := ⟨fun pins s σ H Q I q => h.run pins s σ H Q I (k _ _ _ q)⟩
theorem simc_nil : PTs X [] (tMc G []) := PTs.imp pts_nil fun σ H Q ⟨U, env, hd, he, r⟩ => (show ∀ H', Same H H' → Q true H' from r) H (Same.refl H)
theorem simc_one {c : Expr} {m : E} (h : PT X c (tMt G m)) : PTs X [c] (tMc G [m]) := PTs.imp (pts_one h) fun σ H Q ⟨U, env, hd, he, r⟩ => by
  have r' : Res G σ H ((asB (ev G.C m env)).b fun t => if t then .ok true else .ok false) fun b => ∀ H', Same H H' → Q b H' := r
  refine ⟨U, env, hd, he, r'.bind.mono fun b _ q => ?_⟩
  cases b with
  | true => exact q
  | false => exact q
theorem quiet_ok {α : Type} {x : R α} {a : α} (h : x.quiet = .ok a) : x = .ok a := by
  cases x with
  | ok b => exact h
  | exc e => cases h
  | bad => cases h
theorem b_ok {α β : Type} {x : R α} {f : α → R β} {c : β} (h : x.b f = .ok c) : ∃ a, x = .ok a ∧ f a = .ok c := by
  cases x with
  | ok b => exact ⟨b, rfl, h⟩
  | exc e => cases h
  | bad => cases h
theorem compL_ne (f : D → R (Option D)) : ∀ ds x, compL f ds ≠ .exc x
  | [], x, e => by cases e
  | d :: r, x, e => by
    have e : ((f d).quiet.b fun x => (compL f r).b fun ys => match x with
      | some y => R.ok (y :: ys)
      | none => .ok ys) = .exc x := e
    cases h : f d with
    | ok y =>
      rw [h] at e
      have e : ((compL f r).b fun ys => match y with
        | some y => R.ok (y :: ys)
        | none => .ok ys) = .exc x := e
      cases h2 : compL f r with
      | ok ys => rw [h2] at e; cases y <;> cases e
      | exc z => exact compL_ne f r z h2
      | bad => rw [h2] at e; cases e
    | exc z => rw [h] at e; cases e
    | bad => rw [h] at e; cases e
def stepC (C : Nat → List D → R D) (p : P) (cs : List E) (m : E) (env : Env) (d : D) : R (Option D) := (bindP p d (wipeP p env)).b fun env1 => (evc C cs env1).b fun t => if t then (ev C m env1).b fun x => .ok (some x) else .ok none
theorem compL_cons {f : D → R (Option D)} {d : D} {r zs : List D} (h : compL f (d :: r) = .ok zs) : ∃ x ws, f d = .ok x ∧ compL f r = .ok ws ∧ zs = (match x with
    | some y => y :: ws
    | none => ws) := by
  obtain ⟨x, h1, h2⟩ := b_ok h
  obtain ⟨ws, h3, h4⟩ := b_ok h2
  refine ⟨x, ws, quiet_ok h1, h3, ?_⟩
  cases x with
  | some y => cases h4; rfl
  | none => cases h4; rfl
theorem comp_run {p : P} {it : It} {cs : List E} {m : E} {σ : St} {H : Hp} {Q : VK} (hcold : G.hot = none) (hM : ∀ i ∈ slots p, G.M i = false) (h : tM G (.comp p it cs m) σ H Q) : tLc (tI G it) (tG G.K p) (tMc G.q cs) (tM G.q m) (slots p) σ H Q := by
  obtain ⟨U, env, hd, he, r⟩ := h
  have r' : Res G σ H ((evi G.C it env).b fun ds => (compL (stepC G.C p cs m env) ds).b fun xs => .ok (.lst .w xs)) fun d => Ok1 G.K H U d Q := r
  refine ⟨U, env, hd, he, r'.bind.mono fun ds _ q => ?_⟩
  intro J H1 s hz tells D hD
  generalize hf : stepC G.C p cs m env = f at q
  cases ec : compL f ds with
  | exc x => exact absurd ec (compL_ne _ _ _)
  | bad => rw [ec] at q; exact q.elim
  | ok xs =>
  rw [ec] at q
  have q : Ok1 G.K H U (.lst .w xs) Q := q
  refine ⟨fun i m H' => m = ds.length - i ∧ i ≤ ds.length ∧ ∃ ys vs L zs, compL f (ds.drop i) = .ok zs ∧ ys ++ zs = xs ∧ Same H1 H' ∧ H' D = some (.lst vs) ∧ reps G.K H' (Or2 U (D :: L)) ys vs L ∧ (D :: L).Nodup ∧ (∀ a ∈ L, H1 a = none) ∧ ys.length ≤ i,
    ⟨ds.length, rfl, Nat.zero_le _, [], [], [], xs, ec, rfl, same_upd hD, upd_same, ⟨rfl, rfl⟩, List.nodup_cons.mpr ⟨by simp, .nil⟩, (fun a ha => nomatch ha), Nat.le_refl _⟩, ?_⟩
  rintro i mm H2 ⟨rfl, hi, ys, vs, L, zs, e1, e2, s2, hD2, rr, nd, fr, hl⟩
  have frD : ∀ a ∈ D :: L, H1 a = none := fun a ha => (List.mem_cons.mp ha).elim (fun e => e ▸ hD) (fr a)
  have dm : Dom H2 (Or2 U (D :: L)) := (hd.same (s.trans s2)).or fun a ha => by
    rcases List.mem_cons.mp ha with rfl | ha
    · rw [hD2]; exact Option.some_ne_none _
    · exact reps_in _ _ _ rr a ha
  have hlim : ys.length ≤ lim := Nat.le_trans hl (Nat.le_trans hi hz)
  obtain ⟨tl1, tl2⟩ := tells (Or2 U (D :: L)) (fun _ => False) (fun a z => z.elim .inl fun m => .inr (frD a m)) (fun a z => z.elim) (fun a z => z.elim) (fun a z => z.elim) H2 (fun b o e _ => s2 b o e) i
  by_cases hlt : i < ds.length
  · have ei : (shs ds)[i]? = some (sh ds[i]) := by rw [shs_map, List.getElem?_map, List.getElem?_eq_getElem hlt]; rfl
    obtain ⟨go, yl⟩ := tl1 _ ei
    rw [List.drop_eq_getElem_cons hlt] at e1
    obtain ⟨x, ws, e3, e4, e5⟩ := compL_cons e1
    refine .inr ⟨go, fun H' => (i + 1 ≤ ds.length ∧ ∃ ys vs L zs, compL f (ds.drop (i + 1)) = .ok zs ∧ ys ++ zs = xs ∧ Same H1 H' ∧ H' D = some (.lst vs) ∧ reps G.K H' (Or2 U (D :: L)) ys vs L ∧ (D :: L).Nodup ∧ (∀ a ∈ L, H1 a = none) ∧ ys.length ≤ i + 1),
      fun H' z => ⟨_, by omega, rfl, z⟩, fun v H3 y => ?_⟩
    obtain ⟨s3, rv⟩ := yl v H3 y
    have s13 := s2.trans s3
    have hE : RepE G H3 (Or2 U (D :: L)) (wipe σ (slots p)) (wipeP p env) := RepE.wipe (((he.same s).or frD).same s13) hcold
    subst hf
    obtain ⟨env1, e6, e7⟩ := b_ok (show (bindP p ds[i] (wipeP p env)).b _ = .ok x from e3)
    obtain ⟨t, e8, e9⟩ := b_ok e7
    rw [bindP_unpk] at e6
    refine ⟨Or2 U (D :: L), ds[i], rv, ?_⟩
    cases eu : unpk p ds[i] with
    | none => rw [eu] at e6; cases e6
    | some us =>
    rw [eu] at e6
    cases e6
    intro us' ru
    generalize hσ2 : setV (slots p) us' (wipe σ (slots p)) = σ2
    have hE2 : RepE G H3 (Or2 U (D :: L)) σ2 _ := hσ2 ▸ hE.setV hcold hM ru
    have o2 : ∀ i, i ∉ slots p → σ2[i]? = (wipe σ (slots p))[i]? := fun j hj => by rw [← hσ2]; exact setV_out hj
    have l2 : σ2.length = (wipe σ (slots p)).length := by rw [← hσ2]; exact setV_length
    have hw : wipe σ2 (slots p) = wipe σ (slots p) := (wipe_eq l2 o2).trans (wipe_eq (wipe_length _ _) fun j hj => by rw [wipe_get, if_neg hj])
    refine ⟨hw, Or2 U (D :: L), _, dm.same s3, hE2, ?_⟩
    show Res G.q σ2 H3 (evc G.C cs _) _
    rw [e8]
    show ∀ H', Same H3 H' → _
    intro H4 s4
    have s14 := s13.trans s4
    cases t with
    | false =>
      cases (show R.ok none = .ok x from e9)
      subst e5
      rw [if_neg Bool.false_ne_true]
      exact ⟨hlt, ys, vs, L, _, e4, e2, s14, s4 _ _ (s3 _ _ hD2), reps_same (s3.trans s4) rr, nd, fr, Nat.le_succ_of_le hl⟩
    | true =>
      obtain ⟨z, e10, e11⟩ := b_ok (show (ev G.C m _).b (fun x => .ok (some x)) = .ok x from e9)
      cases e11
      subst e5
      rw [if_pos rfl]
      refine ⟨Or2 U (D :: L), _, (dm.same s3).same s4, hE2.same s4, ?_⟩
      show Res G.q σ2 H4 (ev G.C m _) _
      rw [e10]
      intro w H5 M s5 f5 r5
      have s25 := (s3.trans s4).trans s5
      have hD5 : H5 D = some (.lst vs) := s25 _ _ hD2
      refine ⟨vs, hD5, by rw [reps_length rr, ← lim_eq]; omega, hlt, ys ++ [z], vs ++ [w], L ++ M, _, e4, by rw [List.append_assoc]; exact e2, ?_, upd_same, ?_, ?_, ?_, by rw [List.length_append]; exact Nat.succ_le_succ hl⟩
      · exact fun b o e => by rw [upd_ne (ne_of_none e hD)]; exact s14.trans s5 _ _ e
      · have dne : D ∉ L ++ M := fun hm => (List.mem_append.mp hm).elim (List.nodup_cons.mp nd).1 fun hm => by
          have := f5.2 D hm
          rw [s4 _ _ (s3 _ _ hD2)] at this; cases this
        rw [or_app'] at r5
        have e12 : (D :: L) ++ M = D :: (L ++ M) := rfl
        rw [e12] at r5
        refine reps_go _ _ _ (Go.upd (.inl ⟨_, hD5⟩) (.inr List.mem_cons_self) dne) (reps_append ?_ (reps_one r5))
        refine reps_same s5 (reps_set (fun a za => ?_) (reps_same (s3.trans s4) rr))
        rcases za with za | za
        · exact .inl (.inl za)
        · rcases List.mem_cons.mp za with rfl | za
          · exact .inl (.inr List.mem_cons_self)
          · rcases List.mem_append.mp za with za | za
            · exact .inl (.inr (List.mem_cons_of_mem _ za))
            · exact .inr (f5.2 a za)
      · refine List.nodup_cons.mpr ⟨fun hm => (List.mem_append.mp hm).elim (List.nodup_cons.mp nd).1 fun hm => ?_, List.nodup_append.mpr ⟨(List.nodup_cons.mp nd).2, f5.1, fun a ha b hb e => ?_⟩⟩
        · have := f5.2 D hm
          rw [s4 _ _ (s3 _ _ hD2)] at this; cases this
        · subst e
          exact reps_in _ _ _ (reps_same (s3.trans s4) rr) a ha (f5.2 a hb)
      · exact fun a ha => (List.mem_append.mp ha).elim (fr a) fun ha => s14.free (f5.2 a ha)
  · have e : i = ds.length := by omega
    subst e
    rw [List.drop_length] at e1
    cases e1
    rw [List.append_nil] at e2
    subst e2
    refine .inl ⟨tl2 (by rw [shs_length]), ?_⟩
    exact q _ H2 (D :: L) (s.trans s2) ⟨nd, fun a ha => s.free (frD a ha)⟩ ⟨D, vs, L, ⟨rfl, hlim⟩, rr, .inl ⟨rfl, hD2, rfl⟩⟩
theorem sim_comp (hcold : G.hot = none) {elt tg iter : Expr} {ifs : List Expr} {scope : Scope} {own : List (Str × Nat)} {p : P} {it : It} {cs : List E} {m : E} (hM : ∀ i ∈ slots p, G.M i = false) (hc : X.calm = true) (hN : X.N.Nodup) (hi : PI X tg iter (tI G it)) (ok : BlkOk X.N X.env.scope scope own) (ho : own.map (·.2) = slots p)
    (hg : ∀ (s : Shared) (H : Hp) (C : Addr) (cl : List (Str × Addr)) (fp : List Addr), PG (X.blk s H scope (compEnvC scope cl C X.env) fp) tg (tG G.K p)) (ht : ∀ (s : Shared) (H : Hp) (C : Addr) (cl : List (Str × Addr)) (fp : List Addr), PTs (X.blk s H scope (compEnvC scope cl C X.env) fp) ifs (tMc G.q cs))
    (he : ∀ (s : Shared) (H : Hp) (C : Addr) (cl : List (Str × Addr)) (fp : List Addr), PE (X.blk s H scope (compEnvC scope cl C X.env) fp) elt (tM G.q m)) (hs : ∀ x, foldedSetIterable iter X.env x = pure x) : PE X (.ListComp elt [⟨tg, iter, ifs, 0⟩] scope pos) (tM G (.comp p it cs m)) :=
  (pe_lc hc hN hi ok hg ht he hs).imp fun σ H Q h => by rw [ho]; exact comp_run hcold hM h
end
end Q

set_option maxHeartbeats 1000000
namespace Q
open PySem PySem.Spec L2
open PyProof.Rows hiding St

/-! ## the state between statements -/
section
variable {K : PySem.W.Frag} {H : Hp} {U : Addr → Prop}
mutual
theorem rep_mut : ∀ (d : D) (v : V) (L : List Addr), rep K H U d v L → ∀ a ∈ L, MutA H a
  | .non, v, L, h => fun a ha => by rw [h.2] at ha; cases ha
  | .bl b, v, L, h => fun a ha => by rw [h.2] at ha; cases ha
  | .int i, v, L, h => fun a ha => by rw [h.2] at ha; cases ha
  | .str s, v, L, h => fun a ha => by rw [h.2.2] at ha; cases ha
  | .tup ds, v, L, h => by
    obtain ⟨a, vs, e, q, r⟩ := h
    exact reps_mut ds vs L r
  | .lst o ds, v, L, h => by
    obtain ⟨a, vs, L', e, r, z⟩ := h
    rcases z with ⟨e1, q, e2⟩ | ⟨e1, q, u, e2, e3⟩ | ⟨e1, q, e2, e3⟩
    · subst e2
      intro b hb
      rcases List.mem_cons.mp hb with rfl | hb
      · exact .inl ⟨_, q⟩
      · exact reps_mut ds vs L' r b hb
    · intro b hb; rw [e3] at hb; cases hb
    · intro b hb; rw [e3] at hb; cases hb
  | .dic o ds, v, L, h => by
    obtain ⟨a, vs, L', e, r, q, z⟩ := h
    rcases z with ⟨e1, e2⟩ | ⟨e1, u, e2, e3⟩
    · subst e2
      intro b hb
      rcases List.mem_cons.mp hb with rfl | hb
      · exact .inr (.inl ⟨_, q⟩)
      · exact repk_mut ds vs L' r.1 b hb
    · intro b hb; rw [e3] at hb; cases hb
  | .dct o ds, v, L, h => by
    obtain ⟨a, vs, e, q, m, z⟩ := h
    rcases z with ⟨e1, e2⟩ | ⟨e1, u, e3⟩
    · subst e2
      intro b hb
      rcases List.mem_cons.mp hb with rfl | hb
      · exact .inr (.inr ⟨_, q⟩)
      · cases hb
    · intro b hb; rw [e3] at hb; cases hb
  | .fn x, v, L, h => fun a ha => by rw [h.2] at ha; cases ha
  | .ptu ks, v, L, h => by
    obtain ⟨a, vs, e, q, m, z⟩ := h
    intro b hb; rw [z] at hb; cases hb
termination_by structural d => d
theorem reps_mut : ∀ (ds : List D) (vs : List V) (L : List Addr), reps K H U ds vs L → ∀ a ∈ L, MutA H a
  | [], vs, L, h => fun a ha => by rw [h.2] at ha; cases ha
  | d :: r, vs, L, h => by
    obtain ⟨v, vr, L1, L2, e, e2, h1, h2⟩ := h
    subst e2
    intro a ha
    rcases List.mem_append.mp ha with ha | ha
    · exact rep_mut d v L1 h1 a ha
    · exact reps_mut r vr L2 h2 a ha
termination_by structural d => d
theorem repk_mut : ∀ (ds : List (Ky × D)) (vs : List (Key × V)) (L : List Addr), repk K H U ds vs L → ∀ a ∈ L, MutA H a
  | [], vs, L, h => fun a ha => by rw [h.2] at ha; cases ha
  | d :: r, vs, L, h => by
    obtain ⟨v, vr, L1, L2, e, e2, h1, h2⟩ := h
    subst e2
    intro a ha
    rcases List.mem_append.mp ha with ha | ha
    · exact repp_mut d v L1 h1 a ha
    · exact repk_mut r vr L2 h2 a ha
termination_by structural d => d
theorem repp_mut : ∀ (p : Ky × D) (v : Key × V) (L : List Addr), repp K H U p v L → ∀ a ∈ L, MutA H a
  | (k, d), v, L, h => rep_mut d v.2 L h.2
termination_by structural d => d
end
end
theorem MutA.ne {H : Hp} {a : Addr} (h : MutA H a) : H a ≠ none := by
  rcases h with ⟨_, e⟩ | ⟨_, e⟩ | ⟨_, e⟩ <;> rw [e] <;> exact Option.some_ne_none _
theorem MutA.same' {H H' : Hp} {a : Addr} (h : MutA H a) (s : Same H H') : MutA H' a := by
  rcases h with ⟨_, e⟩ | ⟨_, e⟩ | ⟨_, e⟩
  · exact .inl ⟨_, s _ _ e⟩
  · exact .inr (.inl ⟨_, s _ _ e⟩)
  · exact .inr (.inr ⟨_, s _ _ e⟩)
abbrev Own := Nat → List Addr
/-- the caller's, and what is owned by the names where z says so -/
def UO (U : Addr → Prop) (Lf : Own) (z : Nat → Bool) : Addr → Prop := fun a => U a ∨ ∃ i, z i = true ∧ a ∈ Lf i
def allN : Nat → Bool := fun _ => true
structure SE (G : Gx) (U : Addr → Prop) (Lf : Own) (H : Hp) (σ : St) (env : Env) : Prop where
  len : env.length = σ.length
  dom : Dom H U
  val : ∀ i d, env[i]? = some (some d) → ∃ v, σ[i]? = some (some v) ∧ rep G.K H (UO U Lf allN) d v (Lf i)
  fro : ∀ i b, b ∈ Lf i → ¬ U b
  dis : ∀ i j b, b ∈ Lf i → b ∈ Lf j → i = j
  nod : ∀ i, (Lf i).Nodup
  muta : ∀ i b, b ∈ Lf i → MutA H b
  imm : ∀ i, G.M i = false → Lf i = []
  cold : ∀ q v, G.hot = some (q, v) → σ[q]? = some (some v)
/-- what a statement may change -/
structure FrR (Lf : Own) (H : Hp) (Lf' : Own) (H' : Hp) : Prop where
  keep : ∀ b o, H b = some o → (∀ j, b ∉ Lf j) → H' b = some o
  from_ : ∀ i b, b ∈ Lf' i → (∃ j, b ∈ Lf j) ∨ H b = none
section
variable {G : Gx} {H H' H2 : Hp} {U : Addr → Prop} {Lf Lf' Lf2 : Own} {σ : St} {env : Env}
theorem FrR.refl : FrR Lf H Lf H := ⟨fun _ _ e _ => e, fun i b h => .inl ⟨i, h⟩⟩
theorem FrR.trans (a : FrR Lf H Lf' H') (b : FrR Lf' H' Lf2 H2) : FrR Lf H Lf2 H2 := by
  have out : ∀ c o, H c = some o → (∀ j, c ∉ Lf j) → ∀ j, c ∉ Lf' j := fun c o e n j m => (a.from_ j c m).elim (fun ⟨i, q⟩ => n i q) fun q => by rw [e] at q; cases q
  refine ⟨fun c o e n => b.keep c o (a.keep c o e n) (out c o e n), fun i c m => ?_⟩
  rcases b.from_ i c m with ⟨j, q⟩ | q
  · exact a.from_ j c q
  · by_cases h : ∃ j, c ∈ Lf j
    · exact .inl h
    · refine .inr ?_
      cases e : H c with
      | none => rfl
      | some o => rw [a.keep c o e fun j m => h ⟨j, m⟩] at q; cases q
theorem FrR.of_same (s : Same H H') : FrR Lf H Lf H' := ⟨fun b o e _ => s b o e, fun i b h => .inl ⟨i, h⟩⟩
theorem SE.same (h : SE G U Lf H σ env) (s : Same H H') : SE G U Lf H' σ env :=
  ⟨h.len, h.dom.same s, fun i d e => let ⟨v, h1, h2⟩ := h.val i d e; ⟨v, h1, rep_same s h2⟩, h.fro, h.dis, h.nod, fun i b m => (h.muta i b m).same' s, h.imm, h.cold⟩
theorem UO.sub {z z' : Nat → Bool} (h : ∀ i, z i = true → z' i = true) {a : Addr} (u : UO U Lf z a) : UO U Lf z' a := u.imp id fun ⟨i, q, m⟩ => ⟨i, h i q, m⟩
theorem UO.all {z : Nat → Bool} {a : Addr} (u : UO U Lf z a) : UO U Lf allN a := UO.sub (fun _ _ => rfl) u
/-- for the reading of an expression that reads, of the names that hold what is changed, those of z -/
def Gx.z (G : Gx) (z : Nat → Bool) : Gx := { G with bm := z }
theorem SE.dom' (h : SE G U Lf H σ env) (z : Nat → Bool) : Dom H (UO U Lf z) := fun a u => u.elim (h.dom a) fun ⟨i, _, m⟩ => (h.muta i a m).ne
theorem SE.read (h : SE G U Lf H σ env) (z : Nat → Bool) : RepE (G.z z) H (UO U Lf fun i => !z i) σ env := by
  refine ⟨h.len, fun i d e hz => ?_, fun q w e => h.cold q w e⟩
  obtain ⟨v, h1, h2⟩ := h.val i d e
  have h3 : rep G.K H (UO U Lf fun i => !z i) d v (Lf i) := rep_set (fun a u => .inl u.all) h2
  refine ⟨v, h1, ?_⟩
  cases hm : G.M i with
  | false =>
    rw [h.imm i hm] at h3
    show rep G.K H _ (if G.M i = true then sh d else d) v []
    rw [hm]
    exact h3
  | true =>
    show rep G.K H _ (if G.M i = true then sh d else d) v []
    rw [hm, if_pos rfl]
    refine rep_sh d v (Lf i) (fun a ha u => ?_) h3
    rcases u with u | ⟨j, hj, m⟩
    · exact h.fro i a ha u
    · have : i = j := h.dis i j a ha m
      subst this
      have hj' : (!z i) = true := hj
      have hz' : z i = true := hz hm
      rw [hz'] at hj'; cases hj'
/-- names let go of what they own -/
def offL (Lf : Own) (z : List Nat) : Own := fun i => if i ∈ z then [] else Lf i
theorem offL_mem {z : List Nat} {i : Nat} {b : Addr} (h : b ∈ offL Lf z i) : b ∈ Lf i ∧ i ∉ z := by
  unfold offL at h
  split at h
  · cases h
  · rename_i hz; exact ⟨h, hz⟩
theorem offL_nil : offL Lf [] = Lf := funext fun i => if_neg (by simp)
theorem frz_get {z : List Nat} {i : Nat} {env : Env} : (frz z env)[i]? = if i ∈ z then env[i]?.map (Option.map sh) else env[i]? := by
  unfold frz
  induction z generalizing env with
  | nil => simp
  | cons j z ih =>
    rw [List.foldl_cons, ih, List.getElem?_modify]
    by_cases h1 : j = i
    · subst h1
      rw [if_pos List.mem_cons_self]
      by_cases h2 : j ∈ z
      · rw [if_pos h2]
        cases env[j]? with
        | none => simp
        | some o => cases o <;> simp [sh_sh]
      · rw [if_neg h2]; simp
    · have : i ∈ j :: z ↔ i ∈ z := by simp [Ne.symm h1]
      simp only [this]
      simp [h1]
theorem frz_len {z : List Nat} {env : Env} : (frz z env).length = env.length := by
  unfold frz
  induction z generalizing env with
  | nil => rfl
  | cons j z ih => rw [List.foldl_cons, ih, List.length_modify]
theorem UO_off {z : List Nat} {a : Addr} : UO U (offL Lf z) allN a ↔ UO U Lf (fun i => !z.contains i) a := by
  refine or_congr Iff.rfl ⟨fun ⟨i, _, m⟩ => ?_, fun ⟨i, q, m⟩ => ⟨i, rfl, ?_⟩⟩
  · obtain ⟨h1, h2⟩ := offL_mem m
    exact ⟨i, by simpa using h2, h1⟩
  · unfold offL
    rw [if_neg (by simpa using q)]; exact m
theorem SE.frz (h : SE G U Lf H σ env) (z : List Nat) : SE G U (offL Lf z) H σ (frz z env) := by
  refine ⟨frz_len.trans h.len, h.dom, fun i d e => ?_, fun i b m => h.fro i b (offL_mem m).1, fun i j b m m' => h.dis i j b (offL_mem m).1 (offL_mem m').1, fun i => ?_, fun i b m => h.muta i b (offL_mem m).1, fun i hm => ?_, h.cold⟩
  · rw [frz_get] at e
    by_cases hz : i ∈ z
    · rw [if_pos hz] at e
      cases e1 : env[i]? with
      | none => rw [e1] at e; cases e
      | some o =>
        rw [e1] at e
        cases o with
        | none => cases e
        | some d0 =>
          cases e
          obtain ⟨v, h1, h2⟩ := h.val i d0 e1
          refine ⟨v, h1, ?_⟩
          have e3 : offL Lf z i = [] := if_pos hz
          rw [e3]
          refine rep_sh d0 v (Lf i) (fun a ha u => ?_) (rep_set (fun a u => .inl (UO_off.mp u).all) h2)
          rcases u with u | ⟨j, _, m⟩
          · exact h.fro i a ha u
          · obtain ⟨m1, m2⟩ := offL_mem m
            have : i = j := h.dis i j a ha m1
            subst this
            exact m2 hz
    · rw [if_neg hz] at e
      obtain ⟨v, h1, h2⟩ := h.val i d e
      have e3 : offL Lf z i = Lf i := if_neg hz
      refine ⟨v, h1, ?_⟩
      rw [e3]
      exact rep_set (fun a u => .inl (UO_off.mp u).all) h2
  · unfold offL; split
    · exact .nil
    · exact h.nod i
  · unfold offL; split
    · rfl
    · exact h.imm i hm
theorem FrR.off {z : List Nat} : FrR Lf H (offL Lf z) H := ⟨fun _ _ e _ => e, fun i b m => .inl ⟨i, (offL_mem m).1⟩⟩
/-- behind an expression that read the names of z -/
theorem SE.after {z : List Nat} {d : D} {v : V} {L : List Addr} (h : SE G U Lf H σ env) (r : rep G.K H' (Or2 (UO U Lf fun i => !z.contains i) L) d v L) :
    ∃ z', SE G U (offL Lf z') H σ (if (z.isEmpty || noSh d) = true then env else _root_.Q.frz z env) ∧ rep G.K H' (Or2 (UO U (offL Lf z') allN) L) d v L := by
  by_cases hz : (z.isEmpty || noSh d) = true
  · rw [if_pos hz]
    refine ⟨[], by rw [offL_nil]; exact h, ?_⟩
    rw [offL_nil]
    rcases Bool.or_eq_true_iff.mp hz with e | e
    · have : z = [] := List.isEmpty_iff.mp e
      subst this
      have e2 : (fun i => !([] : List Nat).contains i) = allN := rfl
      rw [e2] at r
      exact r
    · exact rep_noSh d v L e r
  · rw [if_neg hz]
    refine ⟨z, h.frz z, ?_⟩
    have e2 : UO U (offL Lf z) allN = UO U Lf fun i => !z.contains i := funext fun a => propext UO_off
    rw [e2]; exact r
/-- a name's new owned nodes -/
def putL (Lf : Own) (i : Nat) (L : List Addr) : Own := fun j => if j = i then L else Lf j
theorem SE.put {i : Nat} {d : D} {v : V} {L : List Addr} (h : SE G U Lf H σ env) (s : Same H H') (f : Fresh H L) (r : rep G.K H' (Or2 (UO U Lf allN) L) d v L) (hq : ∀ q v, G.hot = some (q, v) → q ≠ i) (hm : G.M i = false → L = []) :
    SE G U (putL Lf i L) H' (σ.set i (some v)) (env.set i (some d)) := by
  have sub : ∀ a, UO U (putL Lf i L) allN a → Or2 (UO U Lf allN) L a := fun a u => by
    rcases u with u | ⟨j, _, m⟩
    · exact .inl (.inl u)
    · unfold putL at m
      split at m
      · exact .inr m
      · exact .inl (.inr ⟨j, rfl, m⟩)
  have old : ∀ j b, b ∈ Lf j → b ∉ L := fun j b m m' => (h.muta j b m).ne (f.2 b m')
  have pick : ∀ j b, b ∈ putL Lf i L j → (j = i ∧ b ∈ L) ∨ (j ≠ i ∧ b ∈ Lf j) := fun j b m => by
    unfold putL at m
    split at m
    · rename_i e; exact .inl ⟨e, m⟩
    · rename_i e; exact .inr ⟨e, m⟩
  refine ⟨by rw [List.length_set, List.length_set]; exact h.len, h.dom.same s, fun j d' e => ?_, fun j b m => ?_, fun j k b m m' => ?_, fun j => ?_, fun j b m => ?_, fun j hj => ?_, fun q w e => by rw [List.getElem?_set_ne (Ne.symm (hq q w e))]; exact h.cold q w e⟩
  · by_cases hj : i = j
    · subst hj
      rw [List.getElem?_set, if_pos rfl] at e
      split at e
      · rename_i hl
        cases e
        refine ⟨v, by rw [List.getElem?_set, if_pos rfl, if_pos (by rw [← h.len]; exact hl)], ?_⟩
        have e3 : putL Lf i L i = L := if_pos rfl
        rw [e3]
        exact rep_set (fun a u => .inl (sub a u)) r
      · cases e
    · rw [List.getElem?_set_ne hj] at e
      obtain ⟨w, h1, h2⟩ := h.val j d' e
      refine ⟨w, by rw [List.getElem?_set_ne hj]; exact h1, ?_⟩
      have e3 : putL Lf i L j = Lf j := if_neg (Ne.symm hj)
      rw [e3]
      exact rep_same s (rep_set (fun a u => (sub a u).imp id (f.2 a)) h2)
  · rcases pick j b m with ⟨_, m⟩ | ⟨_, m⟩
    · exact fun u => h.dom b u (f.2 b m)
    · exact h.fro j b m
  · rcases pick j b m with ⟨e1, m⟩ | ⟨e1, m⟩ <;> rcases pick k b m' with ⟨e2, m'⟩ | ⟨e2, m'⟩
    · rw [e1, e2]
    · exact absurd m (old k b m')
    · exact absurd m' (old j b m)
    · exact h.dis j k b m m'
  · unfold putL; split
    · exact f.1
    · exact h.nod j
  · rcases pick j b m with ⟨_, m⟩ | ⟨_, m⟩
    · exact rep_mut _ _ _ r b m
    · exact (h.muta j b m).same' s
  · unfold putL; split
    · rename_i e; subst e; exact hm hj
    · exact h.imm j hj
theorem FrR.put {i : Nat} {L : List Addr} (s : Same H H') (f : Fresh H L) : FrR Lf H (putL Lf i L) H' := ⟨fun b o e _ => s b o e, fun j b m => by
  unfold putL at m
  split at m
  · exact .inr (f.2 b m)
  · exact .inl ⟨j, m⟩⟩
end
end Q

set_option maxHeartbeats 1000000
namespace Q
open PySem PySem.Spec L2
open PyProof.Rows hiding St

/-! ## statements -/
def rtOk (K : PySem.W.Frag) (U : Addr → Prop) (Lf : Own) (H : Hp) (d : D) (Q : VK) : Prop := ∀ v H' L, (∀ b o, H b = some o → (∀ j, b ∉ Lf j) → H' b = some o) → (∀ b ∈ L, (∃ j, b ∈ Lf j) ∨ H b = none) → L.Nodup → rep K H' (Or2 U L) d v L → Q v H'
def nxOk (G : Gx) (U : Addr → Prop) (Lf : Own) (H : Hp) (env : Env) (Q : St → Hp → Prop) : Prop := ∀ σ' H' Lf', FrR Lf H Lf' H' → SE G U Lf' H' σ' env → Q σ' H'
def RSok (G : Gx) (U : Addr → Prop) (Lf : Own) (H : Hp) (r : RS) (D : Ends) : Prop := match r with
  | .ok env .nx => nxOk G U Lf H env D.nx
  | .ok env .bk => nxOk G U Lf H env D.bk
  | .ok env .ct => nxOk G U Lf H env D.ct
  | .ok _ (.rt d) => rtOk G.K U Lf H d D.rt
  | .exc x env => nxOk G U Lf H env fun σ' H' => Exs G σ' H' x
  | .bad => False
def tS (G : Gx) (N : Nat) (m : S) : TS := fun D σ H => ∃ U Lf env, SE G U Lf H σ env ∧ RSok G U Lf H (evS G.C N m env) D
def tSs (G : Gx) (N : Nat) (m : List S) : TS := fun D σ H => ∃ U Lf env, SE G U Lf H σ env ∧ RSok G U Lf H (evSs G.C N m env) D
section
variable {G : Gx} {N : Nat} {H H' H2 : Hp} {U : Addr → Prop} {Lf Lf' Lf2 : Own} {σ : St} {env : Env} {De : Ends}
theorem nxOk.mono {Q : St → Hp → Prop} (f : FrR Lf H Lf' H') (h : nxOk G U Lf H env Q) : nxOk G U Lf' H' env Q := fun σ' H2 Lf2 g s => h σ' H2 Lf2 (f.trans g) s
theorem FrR.out (a : FrR Lf H Lf' H') {c : Addr} {o : HO} (e : H c = some o) (n : ∀ j, c ∉ Lf j) (j : Nat) : c ∉ Lf' j := fun m => (a.from_ j c m).elim (fun ⟨i, q⟩ => n i q) fun q => by rw [e] at q; cases q
theorem FrR.none (a : FrR Lf H Lf' H') {c : Addr} (e : H' c = none) : (∃ j, c ∈ Lf j) ∨ H c = none := by
  by_cases h : ∃ j, c ∈ Lf j
  · exact .inl h
  · refine .inr ?_
    cases q : H c with
    | none => rfl
    | some o => rw [a.keep c o q fun j m => h ⟨j, m⟩] at e; cases e
theorem rtOk.mono {d : D} {Q : VK} (f : FrR Lf H Lf' H') (h : rtOk G.K U Lf H d Q) : rtOk G.K U Lf' H' d Q := fun v H2 L k l n r =>
  h v H2 L (fun b o e m => k b o (f.keep b o e m) (f.out e m)) (fun b hb => (l b hb).elim (fun ⟨j, m⟩ => f.from_ j b m) f.none) n r
theorem RSok.mono {r : RS} (f : FrR Lf H Lf' H') (h : RSok G U Lf H r De) : RSok G U Lf' H' r De := by
  cases r with
  | bad => exact h
  | exc x env => exact nxOk.mono f h
  | ok env fl =>
    cases fl with
    | nx => exact nxOk.mono f h
    | bk => exact nxOk.mono f h
    | ct => exact nxOk.mono f h
    | rt d => exact rtOk.mono f h
theorem RSok.s {α : Type} {r : R α} {k : α → RS} (z : Nat → Bool) (h : SE G U Lf H σ env) (q : RSok G U Lf H (r.s env k) De) : Res (G.z z) σ H r fun d => RSok G U Lf H (k d) De := by
  cases r with
  | ok d => exact q
  | exc x => exact q σ H Lf .refl h
  | bad => exact q
/-- one statement, then what follows -/
theorem RSok.seq {r : RS} {f : Env → RS} {Q : St → Hp → Prop} (h : RSok G U Lf H (r.b f) De) (k : ∀ env' σ' H' Lf', SE G U Lf' H' σ' env' → RSok G U Lf' H' (f env') De → Q σ' H') : RSok G U Lf H r { De with nx := Q } := by
  cases r with
  | bad => exact h
  | exc x env => exact h
  | ok env fl =>
    cases fl with
    | nx => exact fun σ' H' Lf' g s => k env σ' H' Lf' s (RSok.mono g h)
    | bk => exact h
    | ct => exact h
    | rt d => exact h
end
section
variable {X : Cx} {G : Gx} {N : Nat} {pos : Pos} {s : Stmt} {rest : List Stmt} {m : S} {ms : List S}
theorem sims_nilS : PSs X [] (tSs G N []) := PSs.imp pss_nil fun D σ H ⟨U, Lf, env, h, r⟩ => (show nxOk G U Lf H env D.nx from r) σ H Lf .refl h
theorem sims_consS (h1 : PS X s (tS G N m)) (h2 : PSs X rest (tSs G N ms)) : PSs X (s :: rest) (tSs G N (m :: ms)) := PSs.imp (pss_cons h1 h2) fun D σ H ⟨U, Lf, env, h, r⟩ =>
  ⟨U, Lf, env, h, RSok.seq (show RSok G U Lf H ((evS G.C N m env).b fun env' => evSs G.C N ms env') D from r) fun env' σ' H' Lf' s q => ⟨U, Lf', env', s, q⟩⟩
theorem sims_pass : PS X (.Pass pos) (tS G N .pass) := PS.imp ps_pass fun D σ H ⟨U, Lf, env, h, r⟩ => (show nxOk G U Lf H env D.nx from r) σ H Lf .refl h
theorem sims_break : PS X (.Break pos) (tS G N .brk) := PS.imp ps_break fun D σ H ⟨U, Lf, env, h, r⟩ => (show nxOk G U Lf H env D.bk from r) σ H Lf .refl h
theorem sims_cont : PS X (.Continue pos) (tS G N .cont) := PS.imp ps_continue fun D σ H ⟨U, Lf, env, h, r⟩ => (show nxOk G U Lf H env D.ct from r) σ H Lf .refl h
theorem sims_doc {x j p2} : PS X (.Expr (.Constant (.str x) j pos) p2) (tS G N .pass) := PS.imp ps_doc fun D σ H ⟨U, Lf, env, h, r⟩ => (show nxOk G U Lf H env D.nx from r) σ H Lf .refl h
/-- the names of z -/
def inz (z : List Nat) : Nat → Bool := fun i => z.contains i
theorem sims_exp {e : Expr} {me : E} (he : PE X e (tM (G.z allN) me)) (hs : swapsWith e none pos.line X.env = pure false) : PS X (.Expr e pos) (tS G N (.exp me)) := PS.imp (ps_expr he hs) fun D σ H ⟨U, Lf, env, h, r⟩ => by
  refine tM_then (h.dom' _) (h.read _) (RSok.s allN h r) fun d v H1 L q s f rr => ?_
  exact (show nxOk G U Lf H env D.nx from q) σ H1 Lf (.of_same s) (h.same s)
theorem sims_if {c : Expr} {mc : E} {a b : List Stmt} {ma mb : List S} (hc : PT X c (tMt (G.z allN) mc)) (ha : PSs X a (tSs G N ma)) (hb : PSs X b (tSs G N mb)) : PS X (.If c a b pos) (tS G N (.ifs mc ma mb)) := PS.imp (ps_if hc ha hb) fun D σ H ⟨U, Lf, env, h, r⟩ => by
  refine ⟨_, env, h.dom' _, h.read _, (RSok.s allN h r).mono fun t _ q H1 s => ?_⟩
  cases t with
  | true => exact ⟨U, Lf, env, h.same s, RSok.mono (.of_same s) q⟩
  | false => exact ⟨U, Lf, env, h.same s, RSok.mono (.of_same s) q⟩
theorem putFr {Lf Lf1 : Own} {H H' : Hp} {i : Nat} {L : List Addr} (a : FrR Lf H Lf1 H) (s : Same H H') (f : Fresh H L) : FrR Lf H (putL Lf1 i L) H' := a.trans (.put s f)
theorem set_run {i : Nat} {z : List Nat} {me : E} {D : Ends} {σ : St} {H : Hp} (hq : ∀ q v, G.hot = some (q, v) → q ≠ i) (r : tS G N (.set i z me) D σ H) : tAsg (tM (G.z (inz z)) me) (gName i) D σ H := by
  obtain ⟨U, Lf, env, h, r⟩ := r
  refine tM_then (h.dom' _) (h.read _) (RSok.s (inz z) h r) fun d v H1 L q s f rr => ?_
  obtain ⟨z', h1, r1⟩ := h.after (z := z) rr
  have r2 : rep G.K H1 (Or2 (UO U (offL Lf z') allN) []) (sh d) v [] := rep_set (fun a u => .inl u.nil) (rep_sh d v L (fun a ha u => h1.dom' allN a u (f.2 a ha)) (rep_set (fun a u => .inl (.inl u)) r1))
  exact (show nxOk G U Lf H _ D.nx from q) _ H1 _ (putFr .off s .nil) (h1.put (i := i) s .nil r2 hq fun _ => rfl)
theorem setm_run {i : Nat} {z : List Nat} {me : E} {D : Ends} {σ : St} {H : Hp} (hq : ∀ q v, G.hot = some (q, v) → q ≠ i) (hm : G.M i = true) (r : tS G N (.setm i z me) D σ H) : tAsg (tM (G.z (inz z)) me) (gName i) D σ H := by
  obtain ⟨U, Lf, env, h, r⟩ := r
  refine tM_then (h.dom' _) (h.read _) (RSok.s (inz z) h r) fun d v H1 L q s f rr => ?_
  obtain ⟨z', h1, r1⟩ := h.after (z := z) rr
  exact (show nxOk G U Lf H _ D.nx from q) _ H1 _ (putFr .off s f) (h1.put (i := i) s f r1 hq fun z => by rw [hm] at z; cases z)
/-- several names -/
theorem SE.setV {U : Addr → Prop} {Lf : Own} {H : Hp} : ∀ {is : List Nat} {ds : List D} {vs : List V} {σ : St} {env : Env}, SE G U Lf H σ env → (∀ i ∈ is, ∀ q v, G.hot = some (q, v) → q ≠ i) → (∀ i ∈ is, G.M i = false) → reps G.K H (UO U Lf allN) (shs ds) vs [] →
    SE G U Lf H (setV is vs σ) ((is.zip ds).foldl (fun env q => env.set q.1 (some (sh q.2))) env)
  | [], ds, vs, σ, env, h, hq, hm, r => h
  | i :: is, [], vs, σ, env, h, hq, hm, r => by
    obtain ⟨rfl, _⟩ := (show vs = [] ∧ _ from r)
    exact h
  | i :: is, d :: ds, vs, σ, env, h, hq, hm, r => by
    obtain ⟨v, vr, L1, L2, rfl, e2, h1, h2⟩ := (show ∃ v vr L1 L2, vs = v :: vr ∧ [] = L1 ++ L2 ∧ rep G.K H _ (sh d) v L1 ∧ reps G.K H _ (shs ds) vr L2 from r)
    obtain ⟨rfl, rfl⟩ := List.append_eq_nil_iff.mp e2.symm
    have hmi := hm i List.mem_cons_self
    have h3 := h.put (i := i) (Same.refl H) Fresh.nil (rep_set (fun a u => .inl u.nil) h1) (hq i List.mem_cons_self) fun _ => rfl
    have e4 : putL Lf i [] = Lf := funext fun j => by
      unfold putL
      split
      · rename_i e; subst e; exact (h.imm j hmi).symm
      · rfl
    rw [e4] at h3
    have := SE.setV (is := is) (ds := ds) (vs := vr) h3 (fun j hj => hq j (List.mem_cons_of_mem _ hj)) (fun j hj => hm j (List.mem_cons_of_mem _ hj)) h2
    exact this
theorem sims_unp {is z : List Nat} {e tg : Expr} {me : E} (hK : G.K = X.K) (hq : ∀ i ∈ is, ∀ q v, G.hot = some (q, v) → q ≠ i) (hM : ∀ i ∈ is, G.M i = false) (hg : PG X tg (tG X.K (.t is))) (he : PE X e (tM (G.z (inz z)) me)) (hs : swapsWithSole [tg] e pos.line X.env = pure false) (hw : swappedStores [tg] e X.env = pure none)
    (h1 : (assignEach [tg] X.env).map (·.2) = [assign tg X.env]) : PS X (.Assign [tg] e pos) (tS G N (.unp is z me)) := PS.imp (ps_asg he hg hs hw h1) fun D σ H ⟨U, Lf, env, h, r⟩ => by
  refine tM_then (h.dom' _) (h.read _) (RSok.s (inz z) h r) fun d v H1 L q s f rr => ?_
  obtain ⟨z', h1, r1⟩ := h.after (z := z) rr
  have r2 : rep G.K H1 (UO U (offL Lf z') allN) (sh d) v [] := rep_sh d v L (fun a ha u => h1.dom' allN a u (f.2 a ha)) (rep_set (fun a u => .inl (.inl u)) r1)
  refine ⟨_, d, by rw [← hK]; exact r2, ?_⟩
  rw [bindP_unpk] at q
  cases eu : unpk (.t is) d with
  | none => rw [eu] at q; exact q.elim
  | some us =>
    rw [eu] at q
    exact fun vs rv => (show nxOk G U Lf H _ D.nx from q) _ H1 _ (FrR.off.trans (.of_same s)) ((h1.same s).setV hq hM (by rw [hK]; exact rv))
theorem sims_ret {e : Expr} {me : E} (he : PE X e (tM (G.z allN) me)) : PS X (.Return (some e) pos) (tS G N (.ret me)) := PS.imp (ps_ret he) fun D σ H ⟨U, Lf, env, h, r⟩ => by
  refine tM_then (h.dom' _) (h.read _) (RSok.s allN h r) fun d v H1 L q s f rr => ?_
  exact (show rtOk G.K U Lf H d D.rt from q) v H1 L (fun b o e _ => s b o e) (fun b hb => .inr (f.2 b hb)) f.1 (rep_set (fun a u => .inl (u.imp .inl id)) rr)
theorem sims_retN : PS X (.Return none pos) (tS G N (.ret (.lit .non))) := PS.imp ps_retN fun D σ H ⟨U, Lf, env, h, r⟩ =>
  (show rtOk G.K U Lf H .non D.rt from r) .non H [] (fun b o e _ => e) (fun b hb => nomatch hb) .nil ⟨rfl, rfl⟩
theorem sims_retm {i : Nat} {x : Str} {p2 : Pos} (hN : X.N[i]? = some x) (hv : Vis X.env.scope x) (hd : (x == ("__debug__" : Str)) = false) (hcd : (x == ("__classdict__" : Str)) = false) : PS X (.Return (some (.Name x p2)) pos) (tS G N (.retm i)) := PS.imp (ps_ret (pe_var hN hv hd hcd)) fun D σ H ⟨U, Lf, env, h, r⟩ => by
  have q := RSok.s allN h (show RSok G U Lf H ((look env i).s env fun d => .ok env (.rt d)) D from r)
  unfold look at q
  cases e : env[i]? with
  | none => rw [e] at q; exact q.elim
  | some o =>
    cases o with
    | none => rw [e] at q; exact q.elim
    | some d =>
      rw [e] at q
      obtain ⟨v, h1, h2⟩ := h.val i d e
      exact ⟨v, h1, (show rtOk G.K U Lf H d D.rt from q) v H (Lf i) (fun b o e _ => e) (fun b hb => .inl ⟨i, hb⟩) (h.nod i) (rep_set (fun a u => .inl (u.imp id fun m => ⟨i, rfl, m⟩)) h2)⟩

/-! ### loops -/
theorem sims_while {c : Expr} {mc : E} {b : List Stmt} {mb : List S} (hp : PassesOwn (model X.prog X.w) X.A X.env X.xe) (hc : PT X c (tMt (G.z allN) mc)) (hb : PSs X b (tSs G N mb)) : PS X (.While c b [] pos) (tS G N (.whl mc mb)) := PS.imp (ps_while hp hc hb) fun D σ H ⟨U, Lf, env, h, r⟩ => by
  have r : RSok G U Lf H (loopW (fun env => asB (ev G.C mc env)) (fun env => evSs G.C N mb env) N env) D := r
  refine ⟨fun n σ' H' => ∃ Lf' env', SE G U Lf' H' σ' env' ∧ RSok G U Lf' H' (loopW (fun env => asB (ev G.C mc env)) (fun env => evSs G.C N mb env) n env') D, ⟨N, Lf, env, h, r⟩, ?_⟩
  rintro n σ1 H1 ⟨Lf1, env1, h1, r1⟩
  cases n with
  | zero => exact r1.elim
  | succ n =>
    refine ⟨_, env1, h1.dom' _, h1.read _, (RSok.s allN h1 r1).mono fun t _ q H2 s => ?_⟩
    cases t with
    | false => exact (show nxOk G U Lf1 H1 env1 D.nx from q) σ1 H2 Lf1 (.of_same s) (h1.same s)
    | true =>
      rw [if_pos rfl]
      refine ⟨fun σ' H' => ∃ Lf' env', SE G U Lf' H' σ' env' ∧ RSok G U Lf' H' (loopW (fun env => asB (ev G.C mc env)) (fun env => evSs G.C N mb env) n env') D, fun σ' H' z => ⟨n, Nat.lt_succ_self n, z⟩, U, Lf1, env1, h1.same s, ?_⟩
      have q := RSok.mono (FrR.of_same s) q
      rw [if_pos rfl] at q
      dsimp only at q
      generalize evSs G.C N mb env1 = r2 at q
      cases r2 with
      | bad => exact q
      | exc x env2 => exact q
      | ok env2 fl =>
        cases fl with
        | nx => exact fun σ' H' Lf' g s' => ⟨Lf', env2, s', RSok.mono g q⟩
        | ct => exact fun σ' H' Lf' g s' => ⟨Lf', env2, s', RSok.mono g q⟩
        | bk => exact q
        | rt d => exact q
theorem sims_for {tg iter : Expr} {b : List Stmt} {mb : List S} {p : P} {it : It} {z : List Nat} (hK : G.K = X.K) (hq : ∀ i ∈ slots p, ∀ q v, G.hot = some (q, v) → q ≠ i) (hM : ∀ i ∈ slots p, G.M i = false) (hp : PassesOwn (model X.prog X.w) X.A X.env X.xe) (hc : X.calm = true) (hi : PI X tg iter (tI (G.z (inz z)) it)) (hg : PG X tg (tG X.K p)) (hb : PSs X b (tSs G N mb))
    (hs : ∀ x, foldedSetIterable iter X.env x = pure x) : PS X (.For tg iter b [] pos) (tS G N (.for_ p it z mb)) := PS.imp (ps_for hp hc hi hg hb hs) fun D σ H ⟨U, Lf, env, h, r⟩ => by
  refine ⟨_, env, h.dom' _, h.read _, (RSok.s (inz z) h r).mono fun ds _ q => ?_⟩
  intro J H1 s hz tells
  have h0 := h.frz z
  have q := RSok.mono (FrR.off (z := z)) q
  have hU : ∀ a, UO U (offL Lf z) allN a ↔ UO U Lf (fun i => !inz z i) a := fun a => UO_off
  generalize hLf : offL Lf z = Lf0 at h0 q hU
  generalize hf : (fun d env => (bindP p d env).s env fun env' => evSs G.C N mb env') = f at q
  refine ⟨fun i m σ' H' => m = ds.length - i ∧ i ≤ ds.length ∧ ∃ Lf' env', SE G U Lf' H' σ' env' ∧ FrR Lf0 H1 Lf' H' ∧ RSok G U Lf' H' (loopL f (ds.drop i) env') D,
    ⟨ds.length, rfl, Nat.zero_le _, Lf0, _, h0.same s, .refl, RSok.mono (.of_same s) q⟩, ?_⟩
  rintro i mm σ2 H2 ⟨rfl, hi, Lf2, env2, h2, fr, q2⟩
  have mut1 := (h0.same s).muta
  obtain ⟨tl1, tl2⟩ := tells (fun a => UO U Lf2 allN a ∨ ∃ j, a ∈ Lf0 j) (fun a => ∃ j, a ∈ Lf0 j) (fun a u => by
      rcases u with (u | ⟨j, _, m⟩) | ⟨k, w⟩
      · exact .inl (.inl u)
      · exact (fr.from_ j a m).imp (fun ⟨k, w⟩ => (hU a).mp (.inr ⟨k, rfl, w⟩)) id
      · exact .inl ((hU a).mp (.inr ⟨k, rfl, w⟩))) (fun a ⟨j, m⟩ => (hU a).mp (.inr ⟨j, rfl, m⟩)) (fun a z => .inr z) (fun a ⟨j, m⟩ => h0.muta j a m) H2 (fun b o e n => fr.keep b o e fun j m => n ⟨j, m⟩) i
  by_cases hlt : i < ds.length
  · have ei : (shs ds)[i]? = some (sh ds[i]) := by rw [shs_map, List.getElem?_map, List.getElem?_eq_getElem hlt]; rfl
    obtain ⟨go, yl⟩ := tl1 _ ei
    rw [List.drop_eq_getElem_cons hlt] at q2
    refine .inr ⟨go, fun σ' H' => i + 1 ≤ ds.length ∧ ∃ Lf' env', SE G U Lf' H' σ' env' ∧ FrR Lf0 H1 Lf' H' ∧ RSok G U Lf' H' (loopL f (ds.drop (i + 1)) env') D, fun σ' H' z => ⟨_, by omega, rfl, z⟩, fun v H3 y => ?_⟩
    obtain ⟨s3, rv⟩ := yl v H3 y
    refine ⟨UO U Lf2 allN, ds[i], by rw [← hK]; exact rep_set (fun a u => .inl (.inl u)) rv, ?_⟩
    subst hf
    have q3 : RSok G U Lf2 H3 (match (bindP p ds[i] env2).s env2 (fun env' => evSs G.C N mb env') with
      | .ok env' .nx => loopL (fun d env => (bindP p d env).s env fun env' => evSs G.C N mb env') (ds.drop (i + 1)) env'
      | .ok env' .ct => loopL (fun d env => (bindP p d env).s env fun env' => evSs G.C N mb env') (ds.drop (i + 1)) env'
      | .ok env' .bk => .ok env' .nx
      | x => x) D := RSok.mono (.of_same s3) q2
    rw [bindP_unpk] at q3
    cases eu : unpk p ds[i] with
    | none => rw [eu] at q3; exact q3.elim
    | some us =>
    rw [eu] at q3
    intro vs rvs
    have h3 := (h2.same s3).setV hq hM (by rw [hK]; exact rvs)
    refine ⟨U, Lf2, _, h3, ?_⟩
    have fr3 := fr.trans (.of_same s3)
    dsimp only [R.s] at q3
    generalize evSs G.C N mb _ = r2 at q3
    cases r2 with
    | bad => exact q3
    | exc x env2 => exact q3
    | ok env2 fl =>
      cases fl with
      | nx => exact fun σ' H' Lf' g s' => ⟨hlt, Lf', env2, s', fr3.trans g, RSok.mono g q3⟩
      | ct => exact fun σ' H' Lf' g s' => ⟨hlt, Lf', env2, s', fr3.trans g, RSok.mono g q3⟩
      | bk => exact q3
      | rt d => exact q3
  · have e : i = ds.length := by omega
    subst e
    rw [List.drop_length] at q2
    exact .inl ⟨tl2 (by rw [shs_length]), (show nxOk G U Lf2 H2 env2 D.nx from q2) σ2 H2 Lf2 .refl h2⟩
end
end Q

set_option maxHeartbeats 1000000
namespace Q
open PySem PySem.Spec L2
open PyProof.Rows hiding St

/-! ## changes within a name's value -/
def StepV (K : PySem.W.Frag) (H : Hp) (k : D) (v u : V) : Prop := ∃ i, k = .int i ∧ ∀ H' Q, Same H H' → Q u H' → rIx K v (.int i) H' Q
def PathV (K : PySem.W.Frag) (H : Hp) : List D → V → V → Prop
  | [], v, w => v = w
  | k :: r, v, w => ∃ u, StepV K H k v u ∧ PathV K H r u w
theorem PathV.snoc {K : PySem.W.Frag} {H : Hp} {k : D} : ∀ {ks : List D} {v w : V}, PathV K H (ks ++ [k]) v w → ∃ u, PathV K H ks v u ∧ StepV K H k u w
  | [], v, w, ⟨u, h, e⟩ => ⟨v, rfl, by cases e; exact h⟩
  | k' :: ks, v, w, ⟨u, h, e⟩ => let ⟨u', h1, h2⟩ := PathV.snoc (ks := ks) e; ⟨u', ⟨u, h, h1⟩, h2⟩
section
variable {K : PySem.W.Frag} {H : Hp} {U : Addr → Prop}
theorem Go.keepM {H2 : Hp} {U2 : Addr → Prop} {B M : List Addr} (m : ∀ a ∈ M, MutA H a) (hu : ∀ a ∈ M, U a) (hb : ∀ a ∈ M, a ∉ B) (keep : ∀ b o, H b = some o → b ∉ M → H2 b = some o) (set : ∀ b, U2 b → U b ∨ H b = none) : Go K H H2 U U2 B := by
  have ntup : ∀ {c xs}, H c = some (.tup xs) → c ∉ M := fun e z => by
    rcases m _ z with ⟨_, q⟩ | ⟨_, q⟩ | ⟨_, q⟩ <;> rw [q] at e <;> cases e
  have nfrz : ∀ {c o u}, H c = some (.frz o u) → c ∉ M := fun e z => by
    rcases m _ z with ⟨_, q⟩ | ⟨_, q⟩ | ⟨_, q⟩ <;> rw [q] at e <;> cases e
  have nU : ∀ {c}, ¬ U c → c ∉ M := fun n z => n (hu _ z)
  have nU2 : ∀ {c o}, H c = some o → ¬ U c → ¬ U2 c := fun e n z => (set _ z).elim n fun q => by rw [e] at q; cases q
  refine ⟨fun c xs q => ?_, fun c hc o e => keep c o e fun z => hb c z hc, fun c xs q => ?_, fun c xs e n => ⟨keep _ _ e (nU n), nU2 e n⟩, fun c xs e n => ⟨keep _ _ e (nU n), nU2 e n⟩, fun c xs e n => ⟨keep _ _ e (nU n), nU2 e n⟩, fun c xs ⟨o, q, z⟩ => ⟨o, keep _ _ q (nfrz q), z⟩⟩
  · rcases q with (q | ⟨o, q⟩) | q
    · exact .inl (.inl (keep _ _ q (ntup q)))
    · exact .inl (.inr ⟨o, keep _ _ q (nfrz q)⟩)
    · exact .inr q
  · rcases q with ⟨o, q⟩ | q
    · exact .inl ⟨o, keep _ _ q (nfrz q)⟩
    · exact .inr q
theorem Go.keep {H2 : Hp} {U2 : Addr → Prop} {B : List Addr} {a : Addr} (m : MutA H a) (hu : U a) (hb : a ∉ B) (keep : ∀ b o, H b = some o → b ≠ a → H2 b = some o) (set : ∀ b, U2 b → U b ∨ H b = none) : Go K H H2 U U2 B := by
  have ntup : ∀ {c xs}, H c = some (.tup xs) → c ≠ a := fun e z => by
    subst z
    rcases m with ⟨_, q⟩ | ⟨_, q⟩ | ⟨_, q⟩ <;> rw [q] at e <;> cases e
  have nfrz : ∀ {c o u}, H c = some (.frz o u) → c ≠ a := fun e z => by
    subst z
    rcases m with ⟨_, q⟩ | ⟨_, q⟩ | ⟨_, q⟩ <;> rw [q] at e <;> cases e
  have nU : ∀ {c}, ¬ U c → c ≠ a := fun n z => n (z ▸ hu)
  have nU2 : ∀ {c o}, H c = some o → ¬ U c → ¬ U2 c := fun e n z => (set _ z).elim n fun q => by rw [e] at q; cases q
  refine ⟨fun c xs q => ?_, fun c hc o e => keep c o e fun z => hb (z ▸ hc), fun c xs q => ?_, fun c xs e n => ⟨keep _ _ e (nU n), nU2 e n⟩, fun c xs e n => ⟨keep _ _ e (nU n), nU2 e n⟩, fun c xs e n => ⟨keep _ _ e (nU n), nU2 e n⟩, fun c xs ⟨o, q, z⟩ => ⟨o, keep _ _ q (nfrz q), z⟩⟩
  · rcases q with (q | ⟨o, q⟩) | q
    · exact .inl (.inl (keep _ _ q (ntup q)))
    · exact .inl (.inr ⟨o, keep _ _ q (nfrz q)⟩)
    · exact .inr q
  · rcases q with ⟨o, q⟩ | q
    · exact .inl ⟨o, keep _ _ q (nfrz q)⟩
    · exact .inr q
theorem reps_upd : ∀ {ds : List D} {vs : List V} {L : List Addr} {j : Nat} {x : D}, reps K H U ds vs L → ds[j]? = some x → ∃ v La Lx Lb, vs[j]? = some v ∧ rep K H U x v Lx ∧ L = La ++ (Lx ++ Lb) ∧
    ∀ H2 U2 x2 L2, Go K H H2 U U2 (La ++ Lb) → rep K H2 U2 x2 v L2 → reps K H2 U2 (ds.set j x2) vs (La ++ (L2 ++ Lb))
  | [], vs, L, j, x, h, e => by simp at e
  | d :: r, vs, L, 0, x, h, e => by
    obtain ⟨v, vr, L1, L2, e1, e2, h1, h2⟩ := h
    cases e
    subst e1 e2
    exact ⟨v, [], L1, L2, rfl, h1, rfl, fun H2 U2 x2 M g q => ⟨v, vr, M, L2, rfl, rfl, q, reps_go _ _ _ g h2⟩⟩
  | d :: r, vs, L, j + 1, x, h, e => by
    obtain ⟨v, vr, L1, L2, e1, e2, h1, h2⟩ := h
    subst e1 e2
    obtain ⟨w, La, Lx, Lb, f1, f2, f3, f4⟩ := reps_upd (j := j) h2 e
    subst f3
    refine ⟨w, L1 ++ La, Lx, Lb, f1, f2, by rw [List.append_assoc], fun H2 U2 x2 M g q => ?_⟩
    refine ⟨v, vr, L1, La ++ (M ++ Lb), rfl, by rw [List.append_assoc], rep_go _ _ _ (g.sub fun b hb => List.mem_append_left _ (List.mem_append_left _ hb)) h1, f4 H2 U2 x2 M (g.sub fun b hb => ?_) q⟩
    rw [List.append_assoc]
    exact List.mem_append_right _ hb
/-- what is changed stands at an address of its holder's alone -/
def Top : D → Prop
  | .lst .w _ => True
  | .dic .w _ => True
  | .dct .w _ => True
  | _ => False
theorem top_at {d : D} {v : V} {L : List Addr} (t : Top d) (h : rep K H U d v L) : ∃ a, v = .ref a ∧ a ∈ L := by
  cases d with
  | lst o ds =>
    cases o with
    | w =>
      obtain ⟨a, vs, L', ⟨e, _⟩, r, z⟩ := h
      rcases z with ⟨_, _, e2⟩ | ⟨e1, _⟩ | ⟨e1, _⟩
      · exact ⟨a, e, by rw [e2]; exact List.mem_cons_self⟩
      · cases e1
      · cases e1
    | _ => exact t.elim
  | dic o ds =>
    cases o with
    | w =>
      obtain ⟨a, vs, L', e, r, q, z⟩ := h
      rcases z with ⟨_, e2⟩ | ⟨e1, _⟩
      · exact ⟨a, e, by rw [e2]; exact List.mem_cons_self⟩
      · cases e1
    | _ => exact t.elim
  | dct o ds =>
    cases o with
    | w =>
      obtain ⟨a, vs, e, r, q, z⟩ := h
      rcases z with ⟨_, e2⟩ | ⟨e1, _⟩
      · exact ⟨a, e, by rw [e2]; exact List.mem_cons_self⟩
      · cases e1
    | _ => exact t.elim
  | _ => exact t.elim
theorem ix_step {i : Int} {vs : List V} {v u : V} (sq : ∀ H', Same H H' → (∃ p, v = .ref p ∧ (SqL K H' p vs ∨ SqT K H' p vs))) (e : atI vs i = some u) : StepV K H (.int i) v u := ⟨i, rfl, fun H' Q s q => by
  obtain ⟨p, e1, h | h⟩ := sq H' s
  · exact .inl ⟨p, vs, i, u, e1, rfl, h, e, q⟩
  · exact .inr (.inl ⟨p, vs, i, u, e1, rfl, h, e, q⟩)⟩
theorem mid_nodup {La Lx Lb L2 M : List Addr} (n : (La ++ (Lx ++ Lb)).Nodup) (n2 : L2.Nodup) (h : ∀ b ∈ L2, b ∈ Lx ∨ b ∈ M) (o : ∀ b ∈ La ++ Lb, b ∉ M) : (La ++ (L2 ++ Lb)).Nodup := by
  obtain ⟨n1, n3, n4⟩ := List.nodup_append.mp n
  obtain ⟨n5, n6, n7⟩ := List.nodup_append.mp n3
  refine List.nodup_append.mpr ⟨n1, List.nodup_append.mpr ⟨n2, n6, fun a ha b hb e => ?_⟩, fun a ha b hb e => ?_⟩
  · subst e
    rcases h a ha with q | q
    · exact n7 a q a hb rfl
    · exact o a (List.mem_append_right _ hb) q
  · subst e
    rcases List.mem_append.mp hb with hb | hb
    · rcases h a hb with q | q
      · exact n4 a ha a (List.mem_append_left _ q) rfl
      · exact o a (List.mem_append_left _ ha) q
    · exact n4 a ha a (List.mem_append_right _ hb) rfl
theorem path_go {f : D → Option D} (hf : ∀ x x', f x = some x' → Top x) : ∀ (ks : List D) {d d' : D} {v : V} {L : List Addr}, rep K H U d v L → (∀ b ∈ L, U b) → L.Nodup → updP f ks d = some d' →
    ∃ x x' a M, PathV K H ks v (.ref a) ∧ f x = some x' ∧ rep K H U x (.ref a) M ∧ a ∈ M ∧ (∀ b ∈ M, b ∈ L) ∧ M.Nodup ∧ ∀ H2 U2 M', (∀ b o, H b = some o → b ∉ M → H2 b = some o) → (∀ b, U2 b → U b ∨ H b = none) → rep K H2 U2 x' (.ref a) M' → (∀ b ∈ M', b ∈ M ∨ H b = none) → M'.Nodup →
      ∃ L', rep K H2 U2 d' v L' ∧ (∀ b ∈ L', b ∈ L ∨ b ∈ M') ∧ L'.Nodup
  | [], d, d', v, L, h, hL, n, e => by
    have e : f d = some d' := e
    obtain ⟨a, rfl, ha⟩ := top_at (hf d d' e) h
    exact ⟨d, d', a, L, rfl, e, h, ha, fun b hb => hb, n, fun H2 U2 M' k s r i n' => ⟨M', r, fun b hb => .inr hb, n'⟩⟩
  | k :: ks, d, d', v, L, h, hL, n, e => by
    cases d with
    | lst o ds =>
      cases o with
      | w =>
        cases k with
        | int i =>
          have e : ((ixN ds.length i).bind fun j => (ds[j]?).bind fun x => (updP f ks x).map fun y => D.lst .w (ds.set j y)) = some d' := e
          obtain ⟨j, e1, e⟩ := Option.bind_eq_some_iff.mp e
          obtain ⟨x, e2, e⟩ := Option.bind_eq_some_iff.mp e
          obtain ⟨y, e3, e⟩ := Option.map_eq_some_iff.mp e
          subst e
          obtain ⟨b, vs, L', ⟨rfl, hl⟩, r, z⟩ := h
          rcases z with ⟨_, hb, e4⟩ | ⟨e4, _⟩ | ⟨e4, _⟩
          · subst e4
            obtain ⟨u, La, Lx, Lb, g1, g2, g3, g4⟩ := reps_upd r e2
            subst g3
            obtain ⟨nb, nL⟩ := List.nodup_cons.mp n
            obtain ⟨x0, x1, a, M, p1, p2, p3, p4, p5, p6, p7⟩ := path_go hf ks g2 (fun c hc => hL c (List.mem_cons_of_mem _ (List.mem_append_right _ (List.mem_append_left _ hc)))) (List.nodup_append.mp (List.nodup_append.mp nL).2.1).1 e3
            have inx : ∀ c ∈ Lx, c ∈ La ++ (Lx ++ Lb) := fun c hc => List.mem_append_right _ (List.mem_append_left _ hc)
            refine ⟨x0, x1, a, M, ⟨u, ix_step (fun H' s => ⟨b, rfl, .inl (.of (s _ _ hb))⟩) (by unfold atI; rw [reps_length r, e1]; exact g1), p1⟩, p2, p3, p4, fun c hc => List.mem_cons_of_mem _ (inx c (p5 c hc)), p6, fun H2 U2 M' kp st rr im n' => ?_⟩
            obtain ⟨L2, q1, q2, q3⟩ := p7 H2 U2 M' kp st rr im n'
            have ma : MutA H a := rep_mut _ _ _ p3 a p4
            have hba : b ∉ M := fun z => nb (inx b (p5 b z))
            have off : ∀ c ∈ La ++ Lb, c ∉ M' := fun c hc hm => by
              rcases im c hm with q | q
              · have h1 := p5 c q
                rcases List.mem_append.mp hc with hc | hc
                · exact (List.nodup_append.mp nL).2.2 c hc c (List.mem_append_left _ h1) rfl
                · exact (List.nodup_append.mp (List.nodup_append.mp nL).2.1).2.2 c h1 c hc rfl
              · refine reps_in _ _ _ r c ?_ q
                rcases List.mem_append.mp hc with hc | hc
                · exact List.mem_append_left _ hc
                · exact List.mem_append_right _ (List.mem_append_right _ hc)
            have aoff : ∀ a ∈ M, a ∉ La ++ Lb := fun a ha hc => by
              have h1 := p5 a ha
              rcases List.mem_append.mp hc with hc | hc
              · exact (List.nodup_append.mp nL).2.2 a hc a (List.mem_append_left _ h1) rfl
              · exact (List.nodup_append.mp (List.nodup_append.mp nL).2.1).2.2 a h1 a hc rfl
            refine ⟨b :: (La ++ (L2 ++ Lb)), ⟨b, vs, _, ⟨rfl, by rw [List.length_set]; exact hl⟩, g4 H2 U2 y L2 (Go.keepM (rep_mut _ _ _ p3) (fun a ha => hL a (List.mem_cons_of_mem _ (inx a (p5 a ha)))) aoff kp st) q1, .inl ⟨rfl, kp b _ hb hba, rfl⟩⟩, fun c hc => ?_, List.nodup_cons.mpr ⟨fun hc => ?_, mid_nodup nL q3 q2 off⟩⟩
            · rcases List.mem_cons.mp hc with rfl | hc
              · exact .inl List.mem_cons_self
              · rcases List.mem_append.mp hc with hc | hc
                · exact .inl (List.mem_cons_of_mem _ (List.mem_append_left _ hc))
                · rcases List.mem_append.mp hc with hc | hc
                  · exact (q2 c hc).imp (fun z => List.mem_cons_of_mem _ (inx c z)) id
                  · exact .inl (List.mem_cons_of_mem _ (List.mem_append_right _ (List.mem_append_right _ hc)))
            · rcases List.mem_append.mp hc with hc | hc
              · exact nb (List.mem_append_left _ hc)
              · rcases List.mem_append.mp hc with hc | hc
                · rcases q2 b hc with z | z
                  · exact nb (inx b z)
                  · rcases im b z with z | z
                    · exact nb (inx b (p5 b z))
                    · rw [hb] at z; cases z
                · exact nb (List.mem_append_right _ (List.mem_append_right _ hc))
          · cases e4
          · cases e4
        | _ => exact nomatch (show (none : Option D) = some d' from e)
      | _ => cases k <;> exact nomatch (show (none : Option D) = some d' from e)
    | tup ds =>
      cases k with
      | int i =>
        have e : ((ixN ds.length i).bind fun j => (ds[j]?).bind fun x => (updP f ks x).map fun y => D.tup (ds.set j y)) = some d' := e
        obtain ⟨j, e1, e⟩ := Option.bind_eq_some_iff.mp e
        obtain ⟨x, e2, e⟩ := Option.bind_eq_some_iff.mp e
        obtain ⟨y, e3, e⟩ := Option.map_eq_some_iff.mp e
        subst e
        obtain ⟨b, vs, ⟨rfl, hl⟩, hb, r⟩ := h
        obtain ⟨u, La, Lx, Lb, g1, g2, g3, g4⟩ := reps_upd r e2
        subst g3
        obtain ⟨x0, x1, a, M, p1, p2, p3, p4, p5, p6, p7⟩ := path_go hf ks g2 (fun c hc => hL c (List.mem_append_right _ (List.mem_append_left _ hc))) (List.nodup_append.mp (List.nodup_append.mp n).2.1).1 e3
        have inx : ∀ c ∈ Lx, c ∈ La ++ (Lx ++ Lb) := fun c hc => List.mem_append_right _ (List.mem_append_left _ hc)
        refine ⟨x0, x1, a, M, ⟨u, ix_step (fun H' s => ⟨b, rfl, .inr (SqT.same s hb)⟩) (by unfold atI; rw [reps_length r, e1]; exact g1), p1⟩, p2, p3, p4, fun c hc => inx c (p5 c hc), p6, fun H2 U2 M' kp st rr im n' => ?_⟩
        obtain ⟨L2, q1, q2, q3⟩ := p7 H2 U2 M' kp st rr im n'
        have ma : MutA H a := rep_mut _ _ _ p3 a p4
        have off : ∀ c ∈ La ++ Lb, c ∉ M' := fun c hc hm => by
          rcases im c hm with q | q
          · have h1 := p5 c q
            rcases List.mem_append.mp hc with hc | hc
            · exact (List.nodup_append.mp n).2.2 c hc c (List.mem_append_left _ h1) rfl
            · exact (List.nodup_append.mp (List.nodup_append.mp n).2.1).2.2 c h1 c hc rfl
          · refine reps_in _ _ _ r c ?_ q
            rcases List.mem_append.mp hc with hc | hc
            · exact List.mem_append_left _ hc
            · exact List.mem_append_right _ (List.mem_append_right _ hc)
        have aoff : ∀ a ∈ M, a ∉ La ++ Lb := fun a ha hc => by
          have h1 := p5 a ha
          rcases List.mem_append.mp hc with hc | hc
          · exact (List.nodup_append.mp n).2.2 a hc a (List.mem_append_left _ h1) rfl
          · exact (List.nodup_append.mp (List.nodup_append.mp n).2.1).2.2 a h1 a hc rfl
        have go : Go K H H2 U U2 (La ++ Lb) := Go.keepM (rep_mut _ _ _ p3) (fun a ha => hL a (inx a (p5 a ha))) aoff kp st
        refine ⟨La ++ (L2 ++ Lb), ⟨b, vs, ⟨rfl, by rw [List.length_set]; exact hl⟩, go.tup _ _ hb, g4 H2 U2 y L2 go q1⟩, fun c hc => ?_, mid_nodup n q3 q2 off⟩
        rcases List.mem_append.mp hc with hc | hc
        · exact .inl (List.mem_append_left _ hc)
        · rcases List.mem_append.mp hc with hc | hc
          · exact (q2 c hc).imp (inx c) id
          · exact .inl (List.mem_append_right _ (List.mem_append_right _ hc))
      | _ => exact nomatch (show (none : Option D) = some d' from e)
    | _ => exact nomatch (show (none : Option D) = some d' from e)
end
/-- the heap in which a node of a name's value is about to be changed -/
theorem SE.updM {G : Gx} {U : Addr → Prop} {Lf : Own} {H : Hp} {σ : St} {env : Env} {i : Nat} {d d' : D} {ks : List D} {f : D → Option D} (hf : ∀ x x', f x = some x' → Top x) (h : SE G U Lf H σ env) (e : env[i]? = some (some d)) (eu : updP f ks d = some d') :
    ∃ v0 a x x' M, σ[i]? = some (some v0) ∧ PathV G.K H ks v0 (.ref a) ∧ f x = some x' ∧ rep G.K H (UO U Lf allN) x (.ref a) M ∧ a ∈ M ∧ (∀ b ∈ M, UO U Lf allN b) ∧ M.Nodup ∧ ∀ H3 L H4 M', Same H H3 → Fresh H L → (∀ b o, H3 b = some o → b ∉ M → H4 b = some o) → (∀ b ∈ M', b ∈ M ∨ b ∈ L) → M'.Nodup →
      rep G.K H4 (Or2 (UO U Lf allN) L) x' (.ref a) M' → ∃ Lf', FrR Lf H Lf' H4 ∧ SE G U Lf' H4 σ (env.set i (some d')) := by
  obtain ⟨v0, h1, h2⟩ := h.val i d e
  obtain ⟨x, x', a, M, p1, p2, p3, p4, p5, p6, p7⟩ := path_go hf ks h2 (fun b hb => .inr ⟨i, rfl, hb⟩) (h.nod i) eu
  have aU : UO U Lf allN a := .inr ⟨i, rfl, p5 a p4⟩
  refine ⟨v0, a, x, x', M, h1, p1, p2, p3, p4, fun b hb => .inr ⟨i, rfl, p5 b hb⟩, p6, fun H3 L H4 M' s f kp im n' r => ?_⟩
  have kp' : ∀ b o, H b = some o → b ∉ M → H4 b = some o := fun b o q z => kp b o (s b o q) z
  have im' : ∀ b ∈ M', b ∈ M ∨ H b = none := fun b hb => (im b hb).imp id (f.2 b)
  obtain ⟨L0, q1, q2, q3⟩ := p7 H4 (Or2 (UO U Lf allN) L) M' kp' (fun b u => u.imp id (f.2 b)) r im' n'
  have q2' : ∀ b ∈ L0, b ∈ Lf i ∨ b ∈ L := fun b hb => (q2 b hb).elim .inl fun m => (im b m).imp (p5 b) id
  have sub : ∀ b, UO U (putL Lf i L0) allN b → Or2 (UO U Lf allN) L b := fun b u => by
    rcases u with u | ⟨j, _, m⟩
    · exact .inl (.inl u)
    · unfold putL at m
      split at m
      · exact (q2' b m).imp (fun z => .inr ⟨i, rfl, z⟩) id
      · exact .inl (.inr ⟨j, rfl, m⟩)
  have ma : MutA H a := rep_mut _ _ _ p3 a p4
  have pick : ∀ j b, b ∈ putL Lf i L0 j → (j = i ∧ b ∈ L0) ∨ (j ≠ i ∧ b ∈ Lf j) := fun j b m => by
    unfold putL at m
    split at m
    · rename_i e; exact .inl ⟨e, m⟩
    · rename_i e; exact .inr ⟨e, m⟩
  have notL : ∀ b, b ∈ L → ∀ j, b ∉ Lf j := fun b hb j m => (h.muta j b m).ne (f.2 b hb)
  have keepM : ∀ j b, j ≠ i → b ∈ Lf j → b ∉ M := fun j b hj m z => hj (h.dis j i b m (p5 b z))
  refine ⟨putL Lf i L0, ⟨fun b o q z => kp' b o q fun w => z i (p5 b w), fun j b m => ?_⟩, ⟨by rw [List.length_set]; exact h.len, fun b u q => ?_, fun j d2 ej => ?_, fun j b m => ?_, fun j k b m m' => ?_, fun j => ?_, fun j b m => ?_, fun j hj => ?_, h.cold⟩⟩
  · rcases pick j b m with ⟨_, m⟩ | ⟨_, m⟩
    · exact (q2' b m).imp (fun z => ⟨i, z⟩) (f.2 b)
    · exact .inl ⟨j, m⟩
  · have z : b ∉ M := fun z => h.fro i b (p5 b z) u
    cases e2 : H b with
    | none => exact h.dom b u e2
    | some o => rw [kp' b o e2 z] at q; cases q
  · by_cases hj : i = j
    · subst hj
      rw [List.getElem?_set, if_pos rfl] at ej
      split at ej
      · cases ej
        refine ⟨v0, h1, ?_⟩
        have e3 : putL Lf i L0 i = L0 := if_pos rfl
        rw [e3]
        exact rep_set (fun b u => .inl (sub b u)) q1
      · cases ej
    · rw [List.getElem?_set_ne hj] at ej
      obtain ⟨w, g1, g2⟩ := h.val j d2 ej
      refine ⟨w, g1, ?_⟩
      have e3 : putL Lf i L0 j = Lf j := if_neg (Ne.symm hj)
      rw [e3]
      exact rep_go _ _ _ (Go.keepM (rep_mut _ _ _ p3) (fun a ha => .inr ⟨i, rfl, p5 a ha⟩) (fun a ha m => keepM j a (Ne.symm hj) m ha) kp' fun b u => (sub b u).imp id (f.2 b)) g2
  · rcases pick j b m with ⟨_, m⟩ | ⟨_, m⟩
    · rcases q2' b m with z | z
      · exact h.fro i b z
      · exact fun u => h.dom b u (f.2 b z)
    · exact h.fro j b m
  · rcases pick j b m with ⟨e1, m⟩ | ⟨e1, m⟩ <;> rcases pick k b m' with ⟨e2, m'⟩ | ⟨e2, m'⟩
    · rw [e1, e2]
    · rcases q2' b m with z | z
      · rw [e1]; exact h.dis i k b z m'
      · exact absurd m' (notL b z k)
    · rcases q2' b m' with z | z
      · rw [e2]; exact h.dis j i b m z
      · exact absurd m (notL b z j)
    · exact h.dis j k b m m'
  · unfold putL; split
    · exact q3
    · exact h.nod j
  · rcases pick j b m with ⟨_, m⟩ | ⟨e1, m⟩
    · exact rep_mut _ _ _ q1 b m
    · rcases h.muta j b m with ⟨xs, z⟩ | ⟨xs, z⟩ | ⟨xs, z⟩
      · exact .inl ⟨xs, kp' _ _ z (keepM j b e1 m)⟩
      · exact .inr (.inl ⟨xs, kp' _ _ z (keepM j b e1 m)⟩)
      · exact .inr (.inr ⟨xs, kp' _ _ z (keepM j b e1 m)⟩)
  · unfold putL; split
    · rename_i e1; subst e1
      refine List.eq_nil_iff_forall_not_mem.mpr fun b hb => ?_
      have := p5 a p4
      rw [h.imm j hj] at this
      cases this
    · exact h.imm j hj
/-- the heap in which a node of a name's value is about to be changed -/
theorem SE.upd {G : Gx} {U : Addr → Prop} {Lf : Own} {H : Hp} {σ : St} {env : Env} {i : Nat} {d d' : D} {ks : List D} {f : D → Option D} (hf : ∀ x x', f x = some x' → Top x) (h : SE G U Lf H σ env) (e : env[i]? = some (some d)) (eu : updP f ks d = some d') :
    ∃ v0 a x x' M, σ[i]? = some (some v0) ∧ PathV G.K H ks v0 (.ref a) ∧ f x = some x' ∧ rep G.K H (UO U Lf allN) x (.ref a) M ∧ a ∈ M ∧ (UO U Lf allN a) ∧ M.Nodup ∧ ∀ H3 L H4 M', Same H H3 → Fresh H L → (∀ b o, H3 b = some o → b ≠ a → H4 b = some o) → (∀ b ∈ M', b ∈ M ∨ b ∈ L) → M'.Nodup →
      rep G.K H4 (Or2 (UO U Lf allN) L) x' (.ref a) M' → ∃ Lf', FrR Lf H Lf' H4 ∧ SE G U Lf' H4 σ (env.set i (some d')) := by
  obtain ⟨v0, a, x, x', M, g1, g2, g3, g4, g5, g6, g7, g8⟩ := h.updM hf e eu
  exact ⟨v0, a, x, x', M, g1, g2, g3, g4, g5, g6 a g5, g7, fun H3 L H4 M' s f kp => g8 H3 L H4 M' s f fun b o q n => kp b o q fun z => n (z ▸ g5)⟩
end Q

set_option maxHeartbeats 1000000
namespace Q
open PySem PySem.Spec L2
open PyProof.Rows hiding St

/-- the reading of what is to be changed: a name, or a place within its value -/
def tPa (G : Gx) (i : Nat) (p : List E) : TE := fun σ H Q => ∃ U env ks v0 w, Dom H U ∧ RepE (G.z allN) H U σ env ∧ evs G.C p env = .ok ks ∧ σ[i]? = some (some v0) ∧ PathV G.K H ks v0 w ∧ ∀ H', Same H H' → Q w H'
theorem evs_snoc {C : Nat → List D → R D} {m : E} {env : Env} {xs : List D} : ∀ {p : List E}, evs C (p ++ [m]) env = .ok xs → ∃ ks k, evs C p env = .ok ks ∧ ev C m env = .ok k ∧ xs = ks ++ [k]
  | [], h => by
    obtain ⟨x, h1, h2⟩ := b_ok (show ((ev C m env).b fun x => (evs C [] env).b fun xs => .ok (x :: xs)) = .ok xs from h)
    cases h2
    exact ⟨[], x, rfl, h1, rfl⟩
  | e :: p, h => by
    obtain ⟨x, h1, h2⟩ := b_ok (show ((ev C e env).b fun x => (evs C (p ++ [m]) env).b fun xs => .ok (x :: xs)) = .ok xs from h)
    obtain ⟨ys, h3, h4⟩ := b_ok h2
    cases h4
    obtain ⟨ks, k, g1, g2, g3⟩ := evs_snoc h3
    refine ⟨x :: ks, k, ?_, g2, by rw [g3]; rfl⟩
    show ((ev C e env).b fun x => (evs C p env).b fun xs => .ok (x :: xs)) = _
    rw [h1, R.b_ok, g1]; rfl
section
variable {X : Cx} {G : Gx} {N : Nat} {pos apos cpos : Pos} {o e : Expr} {i : Nat} {p : List E} {me mb : E}
theorem simp_nil {x : Str} (hN : X.N[i]? = some x) (hv : Vis X.env.scope x) (hd : (x == ("__debug__" : Str)) = false) (hcd : (x == ("__classdict__" : Str)) = false) : PE X (.Name x pos) (tPa G i []) := (pe_var hN hv hd hcd).imp fun σ H Q ⟨U, env, ks, v0, w, h1, h2, h3, h4, h5, h6⟩ => by
  have e3 : R.ok [] = .ok ks := h3
  cases e3
  have e5 : v0 = w := h5
  subst e5
  exact ⟨v0, h4, h6 H (Same.refl H)⟩
theorem simp_snoc {b : Expr} (hK : G.K = X.K) (ho : PE X o (tPa G i p)) (hb : PE X b (tM (G.z allN) mb)) (hs : PlainIx b) : PE X (.Subscript o b pos) (tPa G i (p ++ [mb])) := (pe_ix ix_seq ho hb hs).imp fun σ H Q ⟨U, env, ks, v0, w, h1, h2, h3, h4, h5, h6⟩ => by
  obtain ⟨ks', k, g1, g2, g3⟩ := evs_snoc h3
  subst g3
  obtain ⟨u, g4, g5⟩ := h5.snoc
  refine ⟨U, env, ks', v0, u, h1, h2, g1, h4, g4, fun H1 s => ?_⟩
  refine ⟨U, env, h1.same s, h2.same s, ?_⟩
  show Res _ σ H1 (ev G.C mb env) _
  rw [g2]
  obtain ⟨j, e, st⟩ := g5
  intro y H2 L s2 f r
  subst e
  obtain ⟨rfl, _⟩ := r
  rw [← hK]
  exact st H2 Q (s.trans s2) (h6 H2 (s.trans s2))
/-- a value that is read for a change -/
def zOf (z : Bool) : Nat → Bool := if z = true then allN else inz []
theorem rep_zOf {K : PySem.W.Frag} {H : Hp} {U : Addr → Prop} {Lf : Own} {z : Bool} {L : List Addr} {d : D} {v : V} (hz : (!z || noSh d) = true) (r : rep K H (Or2 (UO U Lf fun i => !zOf z i) L) d v L) : rep K H (Or2 (UO U Lf allN) L) d v L := by
  cases z with
  | true => exact rep_noSh d v L hz r
  | false => exact r
theorem updP_can : ∀ {ks : List D} {d : D}, True := trivial
theorem pathOk_some {ks : List D} {env : Env} (h : pathOk i ks env = true) : ∃ d d', env[i]? = some (some d) ∧ updP canL ks d = some d' := by
  unfold pathOk at h
  split at h
  · rename_i d e
    obtain ⟨d', h⟩ := Option.isSome_iff_exists.mp h
    exact ⟨d, d', e, h⟩
  · cases h
theorem canL_some {x x' : D} (h : canL x = some x') : ∃ ds, x = .lst .w ds := by
  unfold canL at h
  split at h
  · exact ⟨_, rfl⟩
  · cases h
theorem canL_top (x x' : D) (h : canL x = some x') : Top x := by
  obtain ⟨ds, rfl⟩ := canL_some h
  trivial
theorem rep_lstw {K : PySem.W.Frag} {H : Hp} {U : Addr → Prop} {ds : List D} {a : Addr} {M : List Addr} (h : rep K H U (.lst .w ds) (.ref a) M) : ∃ vs L', ds.length ≤ lim ∧ H a = some (.lst vs) ∧ reps K H U ds vs L' ∧ M = a :: L' := by
  obtain ⟨b, vs, L', ⟨e, hl⟩, r, z⟩ := h
  cases e
  rcases z with ⟨_, q, e2⟩ | ⟨e1, _⟩ | ⟨e1, _⟩
  · exact ⟨vs, L', hl, q, r, e2⟩
  · cases e1
  · cases e1
theorem appD_some {d x x' : D} (h : appD d x = some x') : ∃ ds, x = .lst .w ds ∧ ds.length < lim ∧ x' = .lst .w (ds ++ [d]) := by
  unfold appD at h
  split at h
  · split at h
    · cases h
      exact ⟨_, rfl, by assumption, rfl⟩
    · cases h
  · cases h
theorem extD_some {xs : List D} {x x' : D} (h : extD xs x = some x') : ∃ ds, x = .lst .w ds ∧ ds.length + xs.length ≤ lim ∧ x' = .lst .w (ds ++ xs) := by
  unfold extD at h
  split at h
  · split at h
    · cases h
      exact ⟨_, rfl, by assumption, rfl⟩
    · cases h
  · cases h
theorem clrD_some {x x' : D} (h : clrD x = some x') : ∃ ds, x = .lst .w ds ∧ x' = .lst .w [] := by
  unfold clrD at h
  split at h
  · cases h
    exact ⟨_, rfl, rfl⟩
  · cases h
theorem pop0D_some {x x' : D} (h : pop0D x = some x') : ∃ d ds, x = .lst .w (d :: ds) ∧ x' = .lst .w ds := by
  unfold pop0D at h
  split at h
  · cases h
    exact ⟨_, _, rfl, rfl⟩
  · cases h
/-- from the heap ahead to the heap in which the node a is changed -/
theorem rep_chg {K : PySem.W.Frag} {H H3 : Hp} {U : Addr → Prop} {L B : List Addr} {a : Addr} {o : HO} {ds : List D} {vs : List V} (s : Same H H3) (f : ∀ b ∈ L, H b = none) (ma : MutA H a) (hu : U a) (hb : a ∉ B) (r : reps K H U ds vs B) : reps K (upd H3 a o) (Or2 U L) ds vs B :=
  reps_go _ _ _ (Go.keep ma hu hb (fun b u e n => by rw [upd_ne n]; exact s b u e) fun b u => u.imp id (f b)) r
/-- a list, written anew -/
theorem rep_wlst {K : PySem.W.Frag} {H : Hp} {U : Addr → Prop} {ds : List D} {vs : List V} {a : Addr} {L : List Addr} (hl : ds.length ≤ lim) (e : H a = some (.lst vs)) (r : reps K H U ds vs L) : rep K H U (.lst .w ds) (.ref a) (a :: L) := ⟨a, vs, L, ⟨rfl, hl⟩, r, .inl ⟨rfl, e, rfl⟩⟩
theorem upd1_ok {f : D → Option D} {G : Gx} {U : Addr → Prop} {Lf : Own} {H : Hp} {ks : List D} {env : Env} {De : Ends} (h : RSok G U Lf H (upd1 f i ks env) De) : ∃ d d', env[i]? = some (some d) ∧ updP f ks d = some d' ∧ nxOk G U Lf H (env.set i (some d')) De.nx := by
  unfold upd1 at h
  split at h
  · rename_i d e
    split at h
    · rename_i d' e'
      exact ⟨d, d', e, e', h⟩
    · exact h.elim
  · exact h.elim
theorem quiet_s {α : Type} {r : R α} {env : Env} {k : α → RS} {G : Gx} {U : Addr → Prop} {Lf : Own} {H : Hp} {De : Ends} (h : RSok G U Lf H (r.quiet.s env k) De) : ∃ a, r = .ok a ∧ RSok G U Lf H (k a) De := by
  cases r with
  | ok a => exact ⟨a, rfl, h⟩
  | exc x => exact h.elim
  | bad => exact h.elim
theorem sims_app {z : Bool} (hK : G.K = X.K) (ho : PE X o (tPa G i p)) (he : PE X e (tM (G.z (zOf z)) me)) (hs : swapsWith (.Call (.Attribute o "append" apos) [e] [] cpos) none pos.line X.env = pure false)
    (hbase : attributeBase o "append" X.env (eval o X.env) = eval o X.env)
    (hfew : ((backTo cpos (starEach [e] X.env)).all (fun x => !x.1) && (backToKw cpos (keywordEach [] X.env)).all (fun x => x.1.isSome)
      && decide ([e].length + ([] : List Keyword).length + (if ([] : List Keyword).isEmpty then 0 else 1) < 30)) = true)
    (hline : (apos.endLine == cpos.line) = true) (hst : starEach [e] X.env = (false, eval e X.env) :: starEach [] X.env) (hpl : (backTo cpos (starEach [] X.env)).any (·.1) = false) :
    PS X (.Expr (.Call (.Attribute o "append" apos) [e] [] cpos) pos) (tS G N (.app i p z me)) :=
  PS.imp (ps_expr (pe_bm PySem.F.plainAttrs_list PySem.F.slot_list_append PySem.F.type_list_append mt_append ho (pa_cons he pa_nil hst) hbase hfew hline hst hpl) hs) fun De σ H ⟨U, Lf, env, h, r⟩ => by
  obtain ⟨ks, ek, r⟩ := quiet_s r
  split at r
  · rename_i hp
    have r2 := RSok.s (zOf z) h r
    cases ee : ev G.C me env with
    | bad => rw [ee] at r2; exact r2.elim
    | exc x =>
      rw [ee] at r2
      have r2 : Exs G σ H x := r2
      obtain ⟨d, d', e1, e2⟩ := pathOk_some hp
      obtain ⟨v0, a, y, y', M, g1, g2, g3, g4, g5, g6, _, _⟩ := h.upd canL_top e1 e2
      obtain ⟨ds, rfl⟩ := canL_some g3
      obtain ⟨vs, L', _, g7, _, _⟩ := rep_lstw g4
      refine ⟨_, env, ks, v0, .ref a, h.dom' _, h.read allN, ek, g1, g2, fun H1 s => ⟨.inl ⟨rfl, vs, .of (s _ _ g7)⟩, ?_⟩⟩
      refine ⟨_, env, (h.same s).dom' _, (h.same s).read (zOf z), ?_⟩
      show Res _ σ H1 (ev G.C me env) _
      rw [ee]
      exact Exs.same s r2
    | ok d =>
      rw [ee] at r2
      have r3 : RSok G U Lf H (if (!z || noSh d) = true then upd1 (appD d) i ks env else .bad) De := r2
      by_cases hz : (!z || noSh d) = true
      · rw [if_pos hz] at r3
        obtain ⟨d0, d', e1, e2, r4⟩ := upd1_ok r3
        obtain ⟨v0, a, y, y', M, g1, g2, g3, g4, g5, g6, gn, g8⟩ := h.upd (fun x x' q => by obtain ⟨ds, rfl, _⟩ := appD_some q; trivial) e1 e2
        obtain ⟨ds, rfl, hl, rfl⟩ := appD_some g3
        obtain ⟨vs, L', _, g7, g9, rfl⟩ := rep_lstw g4
        refine ⟨_, env, ks, v0, .ref a, h.dom' _, h.read allN, ek, g1, g2, fun H1 s => ⟨.inl ⟨rfl, vs, .of (s _ _ g7)⟩, ?_⟩⟩
        refine ⟨_, env, (h.same s).dom' _, (h.same s).read (zOf z), ?_⟩
        show Res _ σ H1 (ev G.C me env) _
        rw [ee]
        intro w H2 L s2 f rr
        have s3 := s.trans s2
        have fr : Fresh H L := ⟨f.1, fun b hb => s.free (f.2 b hb)⟩
        have rv := rep_zOf hz rr
        have ha2 : H2 a = some (.lst vs) := s3 _ _ g7
        have anL' : a ∉ L' := (List.nodup_cons.mp gn).1
        have anL : a ∉ L := fun m => by have := fr.2 a m; rw [g7] at this; cases this
        refine ⟨a, vs, w, rfl, rfl, ha2, by rw [reps_length g9, ← lim_eq]; exact hl, ?_⟩
        have disj : ∀ b ∈ L', ∀ c ∈ L, b ≠ c := fun b hb c hc e => by
          subst e
          exact reps_in _ _ _ g9 b hb (fr.2 b hc)
        obtain ⟨Lf', q1, q2⟩ := g8 H2 L (upd H2 a (.lst (vs ++ [w]))) (a :: (L' ++ L)) s3 fr (fun b u e n => by rw [upd_ne n]; exact e) (fun b hb => by
            rcases List.mem_cons.mp hb with rfl | hb
            · exact .inl List.mem_cons_self
            · exact (List.mem_append.mp hb).imp (List.mem_cons_of_mem _) id)
          (List.nodup_cons.mpr ⟨fun m => (List.mem_append.mp m).elim anL' anL, List.nodup_append.mpr ⟨(List.nodup_cons.mp gn).2, fr.1, disj⟩⟩)
          (rep_wlst (by rw [List.length_append]; exact hl) upd_same (reps_append (rep_chg s3 fr.2 (.inl ⟨_, g7⟩) g6 anL' g9) (reps_one (rep_go _ _ _ (Go.upd (.inl ⟨_, ha2⟩) (.inl g6) anL) rv))))
        exact r4 σ _ Lf' q1 q2
      · rw [if_neg hz] at r3; exact r3.elim
  · exact r.elim
theorem sims_apz {z : List Nat} (hK : G.K = X.K) (ho : PE X o (tPa G i p)) (he : PE X e (tM (G.z (inz z)) me)) (hs : swapsWith (.Call (.Attribute o "append" apos) [e] [] cpos) none pos.line X.env = pure false)
    (hbase : attributeBase o "append" X.env (eval o X.env) = eval o X.env)
    (hfew : ((backTo cpos (starEach [e] X.env)).all (fun x => !x.1) && (backToKw cpos (keywordEach [] X.env)).all (fun x => x.1.isSome)
      && decide ([e].length + ([] : List Keyword).length + (if ([] : List Keyword).isEmpty then 0 else 1) < 30)) = true)
    (hline : (apos.endLine == cpos.line) = true) (hst : starEach [e] X.env = (false, eval e X.env) :: starEach [] X.env) (hpl : (backTo cpos (starEach [] X.env)).any (·.1) = false) :
    PS X (.Expr (.Call (.Attribute o "append" apos) [e] [] cpos) pos) (tS G N (.apz i p z me)) :=
  PS.imp (ps_expr (pe_bm PySem.F.plainAttrs_list PySem.F.slot_list_append PySem.F.type_list_append mt_append ho (pa_cons he pa_nil hst) hbase hfew hline hst hpl) hs) fun De σ H ⟨U, Lf, env, h, r⟩ => by
  obtain ⟨ks, ek, r⟩ := quiet_s r
  split at r
  · rename_i hp
    have r2 := RSok.s (inz z) h r
    cases ee : ev G.C me env with
    | bad => rw [ee] at r2; exact r2.elim
    | exc x =>
      rw [ee] at r2
      have r2 : Exs G σ H x := r2
      obtain ⟨d, d', e1, e2⟩ := pathOk_some hp
      obtain ⟨v0, a, y, y', M, g1, g2, g3, g4, g5, g6, _, _⟩ := h.upd canL_top e1 e2
      obtain ⟨ds, rfl⟩ := canL_some g3
      obtain ⟨vs, L', _, g7, _, _⟩ := rep_lstw g4
      refine ⟨_, env, ks, v0, .ref a, h.dom' _, h.read allN, ek, g1, g2, fun H1 s => ⟨.inl ⟨rfl, vs, .of (s _ _ g7)⟩, ?_⟩⟩
      refine ⟨_, env, (h.same s).dom' _, (h.same s).read (inz z), ?_⟩
      show Res _ σ H1 (ev G.C me env) _
      rw [ee]
      exact Exs.same s r2
    | ok d =>
      rw [ee] at r2
      have r3 : RSok G U Lf H (upd1 (appD d) i ks (if (z.isEmpty || noSh d) = true then env else _root_.Q.frz z env)) De := r2
      obtain ⟨z', hA, hB⟩ : ∃ z', SE G U (offL Lf z') H σ (if (z.isEmpty || noSh d) = true then env else _root_.Q.frz z env) ∧ ∀ {H2 v L}, rep G.K H2 (Or2 (UO U Lf fun i => !z.contains i) L) d v L → rep G.K H2 (Or2 (UO U (offL Lf z') allN) L) d v L := by
        by_cases hz : (z.isEmpty || noSh d) = true
        · rw [if_pos hz]
          refine ⟨[], by rw [offL_nil]; exact h, fun {H2 v L} r => ?_⟩
          rw [offL_nil]
          rcases Bool.or_eq_true_iff.mp hz with e | e
          · have : z = [] := List.isEmpty_iff.mp e
            subst this
            have e2 : (fun i => !([] : List Nat).contains i) = allN := rfl
            rw [e2] at r
            exact r
          · exact rep_noSh d v L e r
        · rw [if_neg hz]
          refine ⟨z, h.frz z, fun {H2 v L} r => ?_⟩
          have e2 : UO U (offL Lf z) allN = UO U Lf fun i => !z.contains i := funext fun a => propext UO_off
          rw [e2]; exact r
      obtain ⟨d0, d', e1, e2, r4⟩ := upd1_ok (RSok.mono (FrR.off (z := z')) r3)
      obtain ⟨v0, a, y, y', M, g1, g2, g3, g4, g5, g6, gn, g8⟩ := hA.upd (fun x x' q => by obtain ⟨ds, rfl, _⟩ := appD_some q; trivial) e1 e2
      obtain ⟨ds, rfl, hl, rfl⟩ := appD_some g3
      obtain ⟨vs, L', _, g7, g9, rfl⟩ := rep_lstw g4
      refine ⟨_, env, ks, v0, .ref a, h.dom' _, h.read allN, ek, g1, g2, fun H1 s => ⟨.inl ⟨rfl, vs, .of (s _ _ g7)⟩, ?_⟩⟩
      refine ⟨_, env, (h.same s).dom' _, (h.same s).read (inz z), ?_⟩
      show Res _ σ H1 (ev G.C me env) _
      rw [ee]
      intro w H2 L s2 f rr
      have s3 := s.trans s2
      have fr : Fresh H L := ⟨f.1, fun b hb => s.free (f.2 b hb)⟩
      have rv := hB rr
      have ha2 : H2 a = some (.lst vs) := s3 _ _ g7
      have anL' : a ∉ L' := (List.nodup_cons.mp gn).1
      have anL : a ∉ L := fun m => by have := fr.2 a m; rw [g7] at this; cases this
      refine ⟨a, vs, w, rfl, rfl, ha2, by rw [reps_length g9, ← lim_eq]; exact hl, ?_⟩
      have disj : ∀ b ∈ L', ∀ c ∈ L, b ≠ c := fun b hb c hc e => by
        subst e
        exact reps_in _ _ _ g9 b hb (fr.2 b hc)
      obtain ⟨Lf', q1, q2⟩ := g8 H2 L (upd H2 a (.lst (vs ++ [w]))) (a :: (L' ++ L)) s3 fr (fun b u e n => by rw [upd_ne n]; exact e) (fun b hb => by
          rcases List.mem_cons.mp hb with rfl | hb
          · exact .inl List.mem_cons_self
          · exact (List.mem_append.mp hb).imp (List.mem_cons_of_mem _) id)
        (List.nodup_cons.mpr ⟨fun m => (List.mem_append.mp m).elim anL' anL, List.nodup_append.mpr ⟨(List.nodup_cons.mp gn).2, fr.1, disj⟩⟩)
        (rep_wlst (by rw [List.length_append]; exact hl) upd_same (reps_append (rep_chg s3 fr.2 (.inl ⟨_, g7⟩) g6 anL' g9) (reps_one (rep_go _ _ _ (Go.upd (.inl ⟨_, ha2⟩) (.inl g6) anL) rv))))
      exact r4 σ _ Lf' q1 q2
  · exact r.elim
theorem ext_tup (l : Addr) (items : Array Value) (n : Nat) (b : Addr) (dct : Option Addr) (sl) (items2 : Array Value) (n2 : Nat) (hs0 : ¬(!items.isEmpty && Builtin.List.listTooLong (items.size + items2.size)) = true) (hs1 : items.size ≤ sizeLine) (hs2 : items.size + items2.size ≤ sizeLine + 1) :
    Meets (Builtin.«list.extend» ⟨[.ref l, .ref b], []⟩) (fun _ R s => s.heap.get? l = some { cls := .type "list", dict := none, data := .seq items n, slots := #[] } ∧ s.heap.get? b = some { cls := .type "tuple", dict := dct, data := .seq items2 n2, slots := sl } ∧ R (.ok (.ret Value.none)) { s with heap := s.heap.update l (Obj.mapSeq fun x => x ++ items2), toks := s.toks }) :=
  .of_wp fun prog w A R s h => by
    obtain ⟨hp, g, d, tk, os⟩ := s; obtain ⟨hl, hb, h⟩ := h; have f1 := AutoSeq1.idx_int; have f2 := AutoSeq1.sub_tuple_tuple; have f3 := AutoSeq1.sub_list_list; have f4 := AutoSeq1.sub_tuple_list; have f5 := AutoSeq1.sub_list_tuple;
    have hz' : (items ++ items2).size ≤ sizeLine + 1 := by rw [Array.size_append]; exact hs2
    wp_walk using (wpAny_updateSeq hl rfl (hz := hs1) (_hz' := hz')), AutoSeq1.wpAny_loadPart' hl, AutoSeq1.wpAny_loadPart' hb; exact ⟨_, rfl, h⟩
def rExtB : V → List V → Hp → VK → Prop := fun x vs H Q => rExtend x vs H Q ∨ ∃ l b xs zs, x = .ref l ∧ vs = [.ref b] ∧ H l = some (.lst xs) ∧ SqT X.K H b zs ∧ xs.length + zs.length ≤ lim ∧ Q .non (upd H l (.lst (xs ++ zs)))
theorem mt_extB : MtM X "list.extend" (rExtB (X := X)) := by
  intro pins s σ H x vs v us Q I rx rv h
  rcases h with h | h
  · exact mt_extend pins s σ H x vs v us Q I rx rv h
  obtain ⟨l, b, xs, zs, rfl, rfl, hH, hB, hz, q⟩ := h
  cases rx
  obtain ⟨u, rfl, ru⟩ := rv.one
  cases ru
  obtain ⟨z, its, n, r, hl, e⟩ := I.lstM hH
  obtain ⟨its2, r2, ⟨o2, e2, hc, n2, hd⟩, z2⟩ := I.tuple hB
  have hl2 := r2.length
  obtain ⟨oc, od, oa, os⟩ := o2
  cases hc
  cases hd
  have hz : xs.length + zs.length ≤ sizeLine := by rw [← lim_eq]; exact hz
  have hsz : its.toArray.size + its2.toArray.size ≤ sizeLine := by rw [List.size_toArray, List.size_toArray]; omega
  have hlong : ¬ (!its.toArray.isEmpty && Builtin.List.listTooLong (its.toArray.size + its2.toArray.size)) = true := by
    rw [notLongL hsz, Bool.and_false]
    exact Bool.false_ne_true
  refine call_meets F.slot_list_extend ⟨_, e, rfl⟩ F.entry_list_extend (F.args_list_extend_2 _ _)
    (ext_tup l its.toArray n b _ _ its2.toArray n2 hlong (by rw [List.size_toArray]; omega) (by omega)) ⟨e, e2, ?_⟩
  refine ⟨.non, _, I.lset (its' := its ++ its2) hH e (by simp) (r.append r2) ?_, rfl, q⟩
  rw [List.length_append]
  omega
theorem sims_ext {z : Bool} (hK : G.K = X.K) (ho : PE X o (tPa G i p)) (he : PE X e (tM (G.z (zOf z)) me)) (hs : swapsWith (.Call (.Attribute o "extend" apos) [e] [] cpos) none pos.line X.env = pure false)
    (hbase : attributeBase o "extend" X.env (eval o X.env) = eval o X.env)
    (hfew : ((backTo cpos (starEach [e] X.env)).all (fun x => !x.1) && (backToKw cpos (keywordEach [] X.env)).all (fun x => x.1.isSome)
      && decide ([e].length + ([] : List Keyword).length + (if ([] : List Keyword).isEmpty then 0 else 1) < 30)) = true)
    (hline : (apos.endLine == cpos.line) = true) (hst : starEach [e] X.env = (false, eval e X.env) :: starEach [] X.env) (hpl : (backTo cpos (starEach [] X.env)).any (·.1) = false) :
    PS X (.Expr (.Call (.Attribute o "extend" apos) [e] [] cpos) pos) (tS G N (.ext i p z me)) :=
  PS.imp (ps_expr (pe_bm PySem.F.plainAttrs_list PySem.F.slot_list_extend PySem.F.type_list_extend mt_extB ho (pa_cons he pa_nil hst) hbase hfew hline hst hpl) hs) fun De σ H ⟨U, Lf, env, h, r⟩ => by
  obtain ⟨ks, ek, r⟩ := quiet_s r
  split at r
  · rename_i hp
    have r2 := RSok.s (zOf z) h r
    cases ee : ev G.C me env with
    | bad => rw [ee] at r2; exact r2.elim
    | exc x =>
      rw [ee] at r2
      have r2 : Exs G σ H x := r2
      obtain ⟨d, d', e1, e2⟩ := pathOk_some hp
      obtain ⟨v0, a, y, y', M, g1, g2, g3, g4, g5, g6, _, _⟩ := h.upd canL_top e1 e2
      obtain ⟨ds, rfl⟩ := canL_some g3
      obtain ⟨vs, L', _, g7, _, _⟩ := rep_lstw g4
      refine ⟨_, env, ks, v0, .ref a, h.dom' _, h.read allN, ek, g1, g2, fun H1 s => ⟨.inl ⟨rfl, vs, .of (s _ _ g7)⟩, ?_⟩⟩
      refine ⟨_, env, (h.same s).dom' _, (h.same s).read (zOf z), ?_⟩
      show Res _ σ H1 (ev G.C me env) _
      rw [ee]
      exact Exs.same s r2
    | ok d =>
      rw [ee] at r2
      cases d with
      | lst oo xs =>
      have r3 : RSok G U Lf H (if (decide (oo ≠ .f) && (!z || noShs xs)) = true then upd1 (extD (shs xs)) i ks env else .bad) De := r2
      by_cases hz : (decide (oo ≠ .f) && (!z || noShs xs)) = true
      · rw [if_pos hz] at r3
        obtain ⟨hz1, hz2⟩ := Bool.and_eq_true_iff.mp hz
        obtain ⟨d0, d', e1, e2, r4⟩ := upd1_ok r3
        obtain ⟨v0, a, y, y', M, g1, g2, g3, g4, g5, g6, gn, g8⟩ := h.upd (fun x x' q => by obtain ⟨ds, rfl, _⟩ := extD_some q; trivial) e1 e2
        obtain ⟨ds, rfl, hl, rfl⟩ := extD_some g3
        obtain ⟨vs, L', _, g7, g9, rfl⟩ := rep_lstw g4
        refine ⟨_, env, ks, v0, .ref a, h.dom' _, h.read allN, ek, g1, g2, fun H1 s => ⟨.inl ⟨rfl, vs, .of (s _ _ g7)⟩, ?_⟩⟩
        refine ⟨_, env, (h.same s).dom' _, (h.same s).read (zOf z), ?_⟩
        show Res _ σ H1 (ev G.C me env) _
        rw [ee]
        intro w H2 L s2 f rr
        have s3 := s.trans s2
        have fr : Fresh H L := ⟨f.1, fun b hb => s.free (f.2 b hb)⟩
        obtain ⟨b, ws, Lw, ⟨rfl, hlw⟩, rw_, zz⟩ := rr
        have hb2 : H2 b = some (.lst ws) := by
          rcases zz with ⟨_, q, _⟩ | ⟨_, q, _⟩ | ⟨q, _⟩
          · exact q
          · exact q
          · subst q; exact absurd rfl (of_decide_eq_true hz1)
        have hLw : ∀ c ∈ Lw, c ∈ L := by
          rcases zz with ⟨_, _, q⟩ | ⟨_, _, _, q, _⟩ | ⟨q, _⟩
          · intro c hc; rw [q]; exact List.mem_cons_of_mem _ hc
          · intro c hc; rw [q] at hc; cases hc
          · subst q; exact absurd rfl (of_decide_eq_true hz1)
        have notU : ∀ c ∈ L, ¬ UO U Lf allN c := fun c hc u => h.dom' allN c u (fr.2 c hc)
        have rv : reps G.K H2 (UO U Lf allN) (shs xs) ws [] := by
          cases z with
          | true => exact reps_sh _ _ _ (fun c hc => notU c (hLw c hc)) (reps_noSh xs ws Lw hz2 rw_)
          | false => exact reps_sh _ _ _ (fun c hc => notU c (hLw c hc)) (reps_set (fun c u => .inl (.inl u)) rw_)
        have ha2 : H2 a = some (.lst vs) := s3 _ _ g7
        have anL' : a ∉ L' := (List.nodup_cons.mp gn).1
        refine .inl ⟨a, b, vs, ws, rfl, rfl, ha2, hb2, by rw [reps_length g9, reps_length rv, ← lim_eq]; exact hl, ?_⟩
        obtain ⟨Lf', q1, q2⟩ := g8 H2 [] (upd H2 a (.lst (vs ++ ws))) (a :: L') s3 .nil (fun b u e n => by rw [upd_ne n]; exact e) (fun b hb => .inl hb) gn
          (rep_wlst (by rw [List.length_append]; exact hl) upd_same (by
            have := reps_append (rep_chg (o := .lst (vs ++ ws)) (L := []) s3 (fun _ z => nomatch z) (.inl ⟨_, g7⟩) g6 anL' g9) (reps_go _ _ _ (Go.upd (B := []) (.inl ⟨_, ha2⟩) (.inl g6) (by simp)) (reps_set (fun c u => .inl u.nil) rv))
            rw [List.append_nil] at this
            exact this))
        exact r4 σ _ Lf' q1 q2
      · rw [if_neg hz] at r3; exact r3.elim
      | tup xs =>
      have r3 : RSok G U Lf H (if (!z || noShs xs) = true then upd1 (extD (shs xs)) i ks env else .bad) De := r2
      by_cases hz : (!z || noShs xs) = true
      · rw [if_pos hz] at r3
        have hz2 := hz
        obtain ⟨d0, d', e1, e2, r4⟩ := upd1_ok r3
        obtain ⟨v0, a, y, y', M, g1, g2, g3, g4, g5, g6, gn, g8⟩ := h.upd (fun x x' q => by obtain ⟨ds, rfl, _⟩ := extD_some q; trivial) e1 e2
        obtain ⟨ds, rfl, hl, rfl⟩ := extD_some g3
        obtain ⟨vs, L', _, g7, g9, rfl⟩ := rep_lstw g4
        refine ⟨_, env, ks, v0, .ref a, h.dom' _, h.read allN, ek, g1, g2, fun H1 s => ⟨.inl ⟨rfl, vs, .of (s _ _ g7)⟩, ?_⟩⟩
        refine ⟨_, env, (h.same s).dom' _, (h.same s).read (zOf z), ?_⟩
        show Res _ σ H1 (ev G.C me env) _
        rw [ee]
        intro w H2 L s2 f rr
        have s3 := s.trans s2
        have fr : Fresh H L := ⟨f.1, fun b hb => s.free (f.2 b hb)⟩
        obtain ⟨b, ws, ⟨rfl, hlw⟩, hb2, rw_⟩ := rr
        have hLw : ∀ c ∈ L, c ∈ L := fun c hc => hc
        have notU : ∀ c ∈ L, ¬ UO U Lf allN c := fun c hc u => h.dom' allN c u (fr.2 c hc)
        have rv : reps G.K H2 (UO U Lf allN) (shs xs) ws [] := by
          cases z with
          | true => exact reps_sh _ _ _ (fun c hc => notU c (hLw c hc)) (reps_noSh xs ws L hz2 rw_)
          | false => exact reps_sh _ _ _ (fun c hc => notU c (hLw c hc)) (reps_set (fun c u => .inl (.inl u)) rw_)
        have ha2 : H2 a = some (.lst vs) := s3 _ _ g7
        have anL' : a ∉ L' := (List.nodup_cons.mp gn).1
        refine .inr ⟨a, b, vs, ws, rfl, rfl, ha2, hK ▸ hb2, by rw [reps_length g9, reps_length rv]; exact hl, ?_⟩
        obtain ⟨Lf', q1, q2⟩ := g8 H2 [] (upd H2 a (.lst (vs ++ ws))) (a :: L') s3 .nil (fun b u e n => by rw [upd_ne n]; exact e) (fun b hb => .inl hb) gn
          (rep_wlst (by rw [List.length_append]; exact hl) upd_same (by
            have := reps_append (rep_chg (o := .lst (vs ++ ws)) (L := []) s3 (fun _ z => nomatch z) (.inl ⟨_, g7⟩) g6 anL' g9) (reps_go _ _ _ (Go.upd (B := []) (.inl ⟨_, ha2⟩) (.inl g6) (by simp)) (reps_set (fun c u => .inl u.nil) rv))
            rw [List.append_nil] at this
            exact this))
        exact r4 σ _ Lf' q1 q2
      · rw [if_neg hz] at r3; exact r3.elim
      | _ => exact (show False from r2).elim
  · exact r.elim
theorem sims_clr (hK : G.K = X.K) (ho : PE X o (tPa G i p)) (hs : swapsWith (.Call (.Attribute o "clear" apos) [] [] cpos) none pos.line X.env = pure false)
    (hbase : attributeBase o "clear" X.env (eval o X.env) = eval o X.env) (hline : (apos.endLine == cpos.line) = true) :
    PS X (.Expr (.Call (.Attribute o "clear" apos) [] [] cpos) pos) (tS G N (.clr i p)) :=
  PS.imp (ps_expr (pe_bm0 PySem.F.plainAttrs_list PySem.F.slot_list_clear PySem.F.type_list_clear mt_clear ho hbase hline) hs) fun De σ H ⟨U, Lf, env, h, r⟩ => by
  obtain ⟨ks, ek, r⟩ := quiet_s r
  obtain ⟨d0, d', e1, e2, r4⟩ := upd1_ok r
  obtain ⟨v0, a, y, y', M, g1, g2, g3, g4, g5, g6, gn, g8⟩ := h.upd (fun x x' q => by obtain ⟨ds, rfl, _⟩ := clrD_some q; trivial) e1 e2
  obtain ⟨ds, rfl, rfl⟩ := clrD_some g3
  obtain ⟨vs, L', hl, g7, g9, rfl⟩ := rep_lstw g4
  refine ⟨_, env, ks, v0, .ref a, h.dom' _, h.read allN, ek, g1, g2, fun H1 s => ⟨.inl ⟨rfl, vs, .of (s _ _ g7)⟩, ?_⟩⟩
  refine ⟨a, vs, rfl, rfl, s _ _ g7, ?_⟩
  obtain ⟨Lf', q1, q2⟩ := g8 H1 [] (upd H1 a (.lst [])) [a] s .nil (fun b u e n => by rw [upd_ne n]; exact e) (fun b hb => .inl (by rw [List.mem_singleton.mp hb]; exact List.mem_cons_self)) (by simp)
    (rep_wlst (Nat.zero_le _) upd_same ⟨rfl, rfl⟩)
  exact r4 σ _ Lf' q1 q2
theorem sims_pop0 {jj : Nat} {c0 : Pos} (hK : G.K = X.K) (ho : PE X o (tPa G i p)) (hs : swapsWith (.Call (.Attribute o "pop" apos) [.Constant (.int 0) jj c0] [] cpos) none pos.line X.env = pure false)
    (hbase : attributeBase o "pop" X.env (eval o X.env) = eval o X.env)
    (hfew : ((backTo cpos (starEach [Expr.Constant (.int 0) jj c0] X.env)).all (fun x => !x.1) && (backToKw cpos (keywordEach [] X.env)).all (fun x => x.1.isSome)
      && decide ([Expr.Constant (.int 0) jj c0].length + ([] : List Keyword).length + (if ([] : List Keyword).isEmpty then 0 else 1) < 30)) = true)
    (hline : (apos.endLine == cpos.line) = true) (hst : starEach [Expr.Constant (.int 0) jj c0] X.env = (false, eval (Expr.Constant (.int 0) jj c0) X.env) :: starEach [] X.env) (hpl : (backTo cpos (starEach [] X.env)).any (·.1) = false) :
    PS X (.Expr (.Call (.Attribute o "pop" apos) [.Constant (.int 0) jj c0] [] cpos) pos) (tS G N (.pop0 i p)) :=
  PS.imp (ps_expr (pe_bm PySem.F.plainAttrs_list PySem.F.slot_list_pop PySem.F.type_list_pop mt_popAt ho (pa_cons pe_int pa_nil hst) hbase hfew hline hst hpl) hs) fun De σ H ⟨U, Lf, env, h, r⟩ => by
  obtain ⟨ks, ek, r⟩ := quiet_s r
  obtain ⟨d0, d', e1, e2, r4⟩ := upd1_ok r
  obtain ⟨v0, a, y, y', M, g1, g2, g3, g4, g5, g6, gn, g8⟩ := h.upd (fun x x' q => by obtain ⟨d, ds, rfl, _⟩ := pop0D_some q; trivial) e1 e2
  obtain ⟨d, ds, rfl, rfl⟩ := pop0D_some g3
  obtain ⟨vs, L', hl, g7, g9, rfl⟩ := rep_lstw g4
  obtain ⟨v, vr, L1, L2, rfl, rfl, _, h2⟩ := (show ∃ v vr L1 L2, vs = v :: vr ∧ L' = L1 ++ L2 ∧ rep G.K H _ d v L1 ∧ reps G.K H _ ds vr L2 from g9)
  refine ⟨_, env, ks, v0, .ref a, h.dom' _, h.read allN, ek, g1, g2, fun H1 s => ⟨.inl ⟨rfl, v :: vr, .of (s _ _ g7)⟩, ?_⟩⟩
  have anL : a ∉ L1 ++ L2 := (List.nodup_cons.mp gn).1
  have sk : seqIndex? 0 (v :: vr).length = some 0 := by
    show (if (decide ((0 : Int) ≤ 0) && decide ((0 : Int) < ((vr.length + 1 : Nat) : Int))) = true then some ((0 : Int).toNat) else none) = some 0
    rw [decide_eq_true (by omega), decide_eq_true (by omega)]; rfl
  refine ⟨a, v :: vr, 0, 0, v, rfl, rfl, s _ _ g7, by decide, by decide, sk, rfl, ?_⟩
  have hl2 : ds.length ≤ lim := Nat.le_trans (Nat.le_succ _) hl
  obtain ⟨Lf', q1, q2⟩ := g8 H1 [] (upd H1 a (.lst vr)) (a :: L2) s .nil (fun b u e n => by rw [upd_ne n]; exact e)
    (fun b hb => .inl (by
      rcases List.mem_cons.mp hb with rfl | hb
      · exact List.mem_cons_self
      · exact List.mem_cons_of_mem _ (List.mem_append_right _ hb)))
    (List.nodup_cons.mpr ⟨fun m => anL (List.mem_append_right _ m), (List.nodup_append.mp (List.nodup_cons.mp gn).2).2.1⟩)
    (rep_wlst hl2 upd_same (rep_chg (o := .lst vr) (L := []) s (fun _ z => nomatch z) (.inl ⟨_, g7⟩) g6 (fun m => anL (List.mem_append_right _ m)) h2))
  exact r4 σ _ Lf' q1 q2
end
section
variable {X : Cx} {G : Gx} {N : Nat} {pos pos' : Pos} {o b value : Expr} {i : Nat} {p : List E} {mk mv : E}
def sSto (to ty tv : TE) : TS := fun De σ H => tv σ H fun v H1 => to σ H1 fun x H2 => ty σ H2 fun y H3 => rSetL x y v H3 (fun H4 => De.nx σ H4) ∨ ∃ a H4, x = .ref a ∧ DPut H3 a y v H4 ∧ De.nx σ H4
theorem ps_sto {to ty tv : TE} (hu : X.A.units + 1 < cLine) (ho : PE X o to) (hi : PE X b ty) (hv : PE X value tv) (hs : swapsWith value (some (.Subscript o b pos')) pos.line X.env = pure false) :
    PS X (.Assign [.Subscript o b pos'] value pos) (sSto to ty tv) := by
  refine ⟨fun pins s σ H De I h => ?_⟩
  refine wpAny_Assign_Subscript (thn (hv.run pins s σ H _ I h) fun r s1 ⟨v, H1, I1, rv, q1⟩ => thn (ho.run pins s1 σ H1 _ I1 q1) fun u s2 ⟨x, H2, I2, rx, q2⟩ => thn (hi.run pins s2 σ H2 _ I2 q2) fun iv s3 ⟨y, H3, I3, ry, q3⟩ => ?_) hs
  rcases q3 with q3 | ⟨a, H4, ex, g, q3⟩
  · exact thn (set_list pins s3 σ H3 x y v u iv r _ I3 rx ry rv q3) fun _ s4 ⟨H4, I4, q4⟩ => ⟨σ, H4, I4, q4⟩
  · subst ex
    obtain rfl : u = Value.ref a := rx
    exact d_setItem hu I3 g ry rv fun s4 I4 => ⟨σ, H4, I4, q3⟩
theorem StepV.same {K : PySem.W.Frag} {H H' : Hp} {k : D} {v u : V} (s : Same H H') (h : StepV K H k v u) : StepV K H' k v u := let ⟨i, e, f⟩ := h; ⟨i, e, fun H2 Q s2 q => f H2 Q (s.trans s2) q⟩
theorem PathV.same {K : PySem.W.Frag} {H H' : Hp} (s : Same H H') : ∀ {ks : List D} {v w : V}, PathV K H ks v w → PathV K H' ks v w
  | [], _, _, e => e
  | _ :: _, _, _, ⟨u, h1, h2⟩ => ⟨u, h1.same s, h2.same s⟩
theorem reps_sto {K : PySem.W.Frag} {H : Hp} {U : Addr → Prop} : ∀ {ds : List D} {vs : List V} {L : List Addr} {j : Nat}, reps K H U ds vs L → j < ds.length → ∃ La Lx Lb, L = La ++ (Lx ++ Lb) ∧
    ∀ H2 U2 x2 w L2, Go K H H2 U U2 (La ++ Lb) → rep K H2 U2 x2 w L2 → reps K H2 U2 (ds.set j x2) (vs.set j w) (La ++ (L2 ++ Lb))
  | [], vs, L, j, h, e => by simp at e
  | d :: r, vs, L, 0, h, e => by
    obtain ⟨v, vr, L1, L2, e1, e2, h1, h2⟩ := h
    subst e1 e2
    exact ⟨[], L1, L2, rfl, fun H2 U2 x2 w M g q => ⟨w, vr, M, L2, rfl, rfl, q, reps_go _ _ _ g h2⟩⟩
  | d :: r, vs, L, j + 1, h, e => by
    obtain ⟨v, vr, L1, L2, e1, e2, h1, h2⟩ := h
    subst e1 e2
    obtain ⟨La, Lx, Lb, f3, f4⟩ := reps_sto (j := j) h2 (by simpa using e)
    subst f3
    refine ⟨L1 ++ La, Lx, Lb, by rw [List.append_assoc], fun H2 U2 x2 w M g q => ?_⟩
    refine ⟨v, vr.set j w, L1, La ++ (M ++ Lb), rfl, by rw [List.append_assoc], rep_go _ _ _ (g.sub fun b hb => List.mem_append_left _ (List.mem_append_left _ hb)) h1, f4 H2 U2 x2 w M (g.sub fun b hb => ?_) q⟩
    rw [List.append_assoc]
    exact List.mem_append_right _ hb
theorem stoD_some {q d x x' : D} (h : stoD q d x = some x') : (∃ ds ii j, x = .lst .w ds ∧ q = .int ii ∧ ixN ds.length ii = some j ∧ x' = .lst .w (ds.set j d)) ∨ ∃ kvs k, x = .dic .w kvs ∧ keyD q = some k ∧ kvs.length < lim ∧ x' = .dic .w (putD kvs k d) := by
  unfold stoD at h
  split at h
  · split at h
    · obtain ⟨j, e, e2⟩ := Option.map_eq_some_iff.mp h
      subst e2
      exact .inl ⟨_, _, j, rfl, rfl, e, rfl⟩
    · cases h
  · split at h
    · rename_i k e
      split at h
      · cases h
        exact .inr ⟨_, k, rfl, e, by assumption, rfl⟩
      · cases h
    · cases h
  · cases h
theorem stoD_top {q d x x' : D} (h : stoD q d x = some x') : Top x := by
  rcases stoD_some h with ⟨ds, ii, j, rfl, _⟩ | ⟨kvs, k, rfl, _⟩ <;> trivial
theorem keyD_rep' {K : PySem.W.Frag} {H : Hp} {U : Addr → Prop} {q : D} {k : Ky} {v : V} {L : List Addr} (e : keyD q = some k) (r : rep K H U q v L) : v = kV (kyK k) := by
  cases q with
  | int i => cases e; exact r.1
  | str s => cases e; exact r.1
  | _ => cases e
theorem sims_sto {z : Bool} (hK : G.K = X.K) (hu : X.A.units + 1 < cLine) (ho : PE X o (tPa G i p)) (hb : PE X b (tM (G.z allN) mk)) (hv : PE X value (tM (G.z (zOf z)) mv)) (hs : swapsWith value (some (.Subscript o b pos')) pos.line X.env = pure false) :
    PS X (.Assign [.Subscript o b pos'] value pos) (tS G N (.sto i p mk z mv)) :=
  PS.imp (ps_sto hu ho hb hv hs) fun De σ H ⟨U, Lf, env, h, r⟩ => by
  refine tM_then (h.dom' _) (h.read _) (RSok.s (zOf z) h r) fun d w H1 L q s f rr => ?_
  obtain ⟨ks, ek, q⟩ := quiet_s q
  obtain ⟨qk, eq, q⟩ := quiet_s q
  by_cases hz : (!z || noSh d) = true
  · rw [if_pos hz] at q
    have rv := rep_zOf hz rr
    obtain ⟨d0, d', e1, e2, r4⟩ := upd1_ok q
    obtain ⟨v0, a, y, y', M, g1, g2, g3, g4, g5, g6, gn, g8⟩ := h.upd (fun x x' q => stoD_top q) e1 e2
    refine ⟨_, env, ks, v0, .ref a, (h.same s).dom' _, (h.same s).read allN, ek, g1, g2.same s, fun H2 s2 => ?_⟩
    refine ⟨_, env, ((h.same s).same s2).dom' _, ((h.same s).same s2).read allN, ?_⟩
    show Res _ σ H2 (ev G.C mk env) _
    rw [eq]
    intro yk H3 Lk s3 f3 rk
    have s13 := s2.trans s3
    have s03 := s.trans s13
    have anL : a ∉ L := fun m => (rep_mut _ _ _ g4 a g5).ne (f.2 a m)
    have keepA : ∀ (o' : HO) b u, H3 b = some u → b ≠ a → upd H3 a o' b = some u := fun o' b u e n => by rw [upd_ne n]; exact e
    have rvA : ∀ o', rep G.K (upd H3 a o') (Or2 (UO U Lf allN) L) d w L := fun o' => rep_go _ _ _ (Go.upd ((rep_mut _ _ _ g4 a g5).same' s03) (.inl g6) anL) (rep_same s13 rv)
    rcases stoD_some g3 with ⟨ds, ii, j, rfl, rfl, e3, rfl⟩ | ⟨kvs, k, rfl, e3, hl, rfl⟩
    · obtain ⟨vs, L', hl, g7, g9, rfl⟩ := rep_lstw g4
      obtain ⟨rfl, _⟩ := rk
      have hj : j < ds.length := (ixN_seq e3).2.1
      obtain ⟨La, Lx, Lb, e5, g10⟩ := reps_sto g9 hj
      subst e5
      have anL' : a ∉ La ++ (Lx ++ Lb) := (List.nodup_cons.mp gn).1
      have nL' := (List.nodup_cons.mp gn).2
      refine .inl ⟨a, vs, ii, j, rfl, rfl, s03 _ _ g7, by rw [reps_length g9]; exact e3, ?_⟩
      have sub : ∀ c, c ∈ La ++ Lb → c ∈ La ++ (Lx ++ Lb) := fun c hc => (List.mem_append.mp hc).elim (List.mem_append_left _) fun hc => List.mem_append_right _ (List.mem_append_right _ hc)
      obtain ⟨Lf', q1, q2⟩ := g8 H3 L (upd H3 a (.lst (vs.set j w))) (a :: (La ++ (L ++ Lb))) s03 f (keepA _) (fun c hc => by
          rcases List.mem_cons.mp hc with rfl | hc
          · exact .inl List.mem_cons_self
          · rcases List.mem_append.mp hc with hc | hc
            · exact .inl (List.mem_cons_of_mem _ (List.mem_append_left _ hc))
            · exact (List.mem_append.mp hc).elim .inr fun hc => .inl (List.mem_cons_of_mem _ (List.mem_append_right _ (List.mem_append_right _ hc))))
        (List.nodup_cons.mpr ⟨fun m => by
            rcases List.mem_append.mp m with m | m
            · exact anL' (List.mem_append_left _ m)
            · exact (List.mem_append.mp m).elim anL fun m => anL' (List.mem_append_right _ (List.mem_append_right _ m)),
          mid_nodup (M := L) nL' f.1 (fun c hc => .inr hc) fun c hc m => reps_in _ _ _ g9 c (sub c hc) (f.2 c m)⟩)
        (rep_wlst (by rw [List.length_set]; exact hl) upd_same (g10 _ _ _ _ _ (Go.keep (.inl ⟨_, g7⟩) g6 (fun m => anL' (sub a m)) (fun c u e n => by rw [upd_ne n]; exact s03 c u e) fun c u => u.imp id (f.2 c)) (rvA _)))
      exact r4 σ _ Lf' q1 q2
    · obtain ⟨a', vs, L', ea, ⟨g7, gk⟩, g9, z9⟩ := g4
      cases ea
      have eM : M = a :: L' := by
        rcases z9 with ⟨_, e⟩ | ⟨e, _⟩
        · exact e
        · cases e
      subst eM
      have anL' : a ∉ L' := (List.nodup_cons.mp gn).1
      have nL' := (List.nodup_cons.mp gn).2
      have ey := keyD_rep' e3 rk
      have rk2 : repk G.K (upd H3 a (.dK (putK vs (kyK k) w))) (Or2 (UO U Lf allN) L) kvs vs L' := repk_go _ _ _ (Go.keep (.inr (.inl ⟨_, g9⟩)) g6 anL' (fun c u e n => by rw [upd_ne n]; exact s03 c u e) fun c u => u.imp id (f.2 c)) g7
      obtain ⟨N', n1, n2, n3⟩ := repk_put gk rk2 (rvA _) (List.nodup_append.mpr ⟨nL', f.1, fun c hc c' hc' e => by subst e; exact repk_in _ _ _ g7 c hc (f.2 c hc')⟩)
      refine .inr ⟨a, _, rfl, ey ▸ DPut.k (s03 _ _ g9) (by rw [repk_length g7, ← lim_eq]; exact hl), ?_⟩
      obtain ⟨Lf', q1, q2⟩ := g8 H3 L (upd H3 a (.dK (putK vs (kyK k) w))) (a :: N') s03 f (keepA _) (fun c hc => by
          rcases List.mem_cons.mp hc with rfl | hc
          · exact .inl List.mem_cons_self
          · exact (List.mem_append.mp (n2 c hc)).imp (List.mem_cons_of_mem _) id)
        (List.nodup_cons.mpr ⟨fun m => (List.mem_append.mp (n2 a m)).elim anL' anL, n3⟩)
        ⟨a, _, N', rfl, ⟨n1, putD_keys gk⟩, upd_same, .inl ⟨rfl, rfl⟩⟩
      exact r4 σ _ Lf' q1 q2
  · rw [if_neg hz] at q; exact q.elim
theorem flatN {K : PySem.W.Frag} {H : Hp} {U : Addr → Prop} {d : D} {v : V} {L : List Addr} (f : flatD d = true) (r : rep K H U d v L) : L = [] := by
  cases d with
  | non => exact r.2
  | bl _ => exact r.2
  | int _ => exact r.2
  | str _ => exact r.2.2
  | _ => cases f
theorem stoT_some {ks : List D} {x x' : D} (h : stoT ks x = some x') : ∃ kvs k, x = .dct .w kvs ∧ tkeyD ks = some k ∧ kvs.length < lim ∧ x' = .dct .w (putT kvs k .non) := by
  unfold stoT at h
  split at h
  · obtain ⟨k, e, h⟩ := Option.bind_eq_some_iff.mp h
    split at h
    · cases h
      exact ⟨_, k, rfl, e, by assumption, rfl⟩
    · cases h
  · cases h
theorem tkeys_rep {K : PySem.W.Frag} {H : Hp} {U : Addr → Prop} : ∀ {ds : List D} {k : List Ky} {vs : List V} {L : List Addr}, tkeyD ds = some k → reps K H U ds vs L → vs = (k.map kyK).map kV ∧ ds.length = k.length
  | [], k, vs, L, e, r => by
    cases e
    obtain ⟨rfl, _⟩ := r
    exact ⟨rfl, rfl⟩
  | d :: ds, k, vs, L, e, r => by
    obtain ⟨k1, e1, e⟩ := Option.bind_eq_some_iff.mp (show ((keyD d).bind fun k => (tkeyD ds).map (k :: ·)) = some k from e)
    obtain ⟨k2, e2, e⟩ := Option.map_eq_some_iff.mp e
    subst e
    obtain ⟨v, vr, L1, L2, rfl, _, h1, h2⟩ := r
    obtain ⟨h3, h4⟩ := tkeys_rep e2 h2
    exact ⟨by rw [keyD_rep' e1 h1, h3]; rfl, by rw [List.length_cons, List.length_cons, h4]⟩
theorem map_kyK {a b : List Ky} (h : a.map kyK = b.map kyK) : a = b := by
  induction a generalizing b with
  | nil => cases b with
    | nil => rfl
    | cons _ _ => cases h
  | cons x r ih => cases b with
    | nil => cases h
    | cons y t =>
      rw [List.map_cons, List.map_cons, List.cons.injEq] at h
      rw [kyK_inj h.1, ih h.2]
theorem putT_keys {k : List Ky} {w : V} {x : D} : ∀ {kvs : List (List Ky × D)} {vs : List (List L2.Key × V)}, vs.map (·.1) = kvs.map (fun p => p.1.map kyK) → (L2.putK vs (k.map kyK) w).map (·.1) = (putT kvs k x).map (fun p => p.1.map kyK) := by
  intro kvs vs h
  have e1 : (vs.any fun kv => decide (kv.1 = k.map kyK)) = kvs.any fun kv => decide (kv.1 = k) := by
    have a1 : (vs.any fun kv => decide (kv.1 = k.map kyK)) = (vs.map (·.1)).any fun q => decide (q = k.map kyK) := by rw [List.any_map]; rfl
    have a2 : (kvs.any fun kv => decide (kv.1 = k)) = (kvs.map (fun p => p.1.map kyK)).any fun q => decide (q = k.map kyK) := by
      rw [List.any_map]
      congr 1
      funext p
      show _ = decide (p.1.map kyK = k.map kyK)
      rw [decide_eq_decide]
      exact ⟨fun e => by rw [e], map_kyK⟩
    rw [a1, a2, h]
  unfold L2.putK putT
  rw [e1]
  split
  · have b1 : (vs.map fun kv => if kv.1 = k.map kyK then (kv.1, w) else kv).map (·.1) = vs.map (·.1) := by
      rw [List.map_map]
      refine List.map_congr_left fun p _ => ?_
      show (if p.1 = k.map kyK then (p.1, w) else p).1 = p.1
      split <;> rfl
    have b2 : (kvs.map fun kv => if kv.1 = k then (kv.1, x) else kv).map (fun p => p.1.map kyK) = kvs.map (fun p => p.1.map kyK) := by
      rw [List.map_map]
      refine List.map_congr_left fun p _ => ?_
      show (if p.1 = k then (p.1, x) else p).1.map kyK = p.1.map kyK
      split <;> rfl
    rw [b1, b2, h]
  · rw [List.map_append, List.map_append, h]; rfl
theorem sims_stot {es : List Expr} {ms : List E} {kk : Nat} {tp : Pos} (hK : G.K = X.K) (hu : X.A.units + 1 < cLine) (ho : PE X o (tPa G i [])) (hb : PA X es (tMs (G.z allN) ms)) (hl : ms.length ≤ 1000) (hv : PE X value (tM (G.z allN) mv)) (hs : swapsWith value (some (.Subscript o (.Tuple es kk tp) pos')) pos.line X.env = pure false) :
    PS X (.Assign [.Subscript o (.Tuple es kk tp) pos'] value pos) (tS G N (.stot i ms mv)) :=
  PS.imp (ps_sto hu ho (pe_tup hb) hv hs) fun De σ H ⟨U, Lf, env, h, r⟩ => by
  refine tM_then (h.dom' _) (h.read _) (RSok.s allN h r) fun d w H1 L q s f rr => ?_
  obtain ⟨ks, ek, q⟩ := quiet_s q
  by_cases hz : flatD d = true
  · rw [if_pos hz] at q
    have eL := flatN hz rr
    subst eL
    obtain ⟨d0, d', e1, e2, r4⟩ := upd1_ok q
    obtain ⟨v0, a, y, y', M, g1, g2, g3, g4, g5, g6, gn, g8⟩ := h.upd (ks := []) (f := stoT ks) (fun x x' q => by obtain ⟨kvs, k, rfl, _⟩ := stoT_some q; trivial) e1 e2
    refine ⟨_, env, [], v0, .ref a, (h.same s).dom' _, (h.same s).read allN, rfl, g1, g2.same s, fun H2 s2 => ?_⟩
    refine tMs_then (((h.same s).same s2).dom' _) (((h.same s).same s2).read allN) (k := fun ds' => ds' = ks) (by rw [show evs (G.z allN).C ms env = .ok ks from ek]; rfl) fun ds' vs H3 Lk ek' s3 f3 rk => ?_
    subst ek'
    obtain ⟨kvs, k, rfl, e3, hlt, rfl⟩ := stoT_some g3
    obtain ⟨ev, en⟩ := tkeys_rep e3 rk
    refine ⟨by rw [reps_length rk, evs_length ek]; exact small_line hl, fun pt hpt => ?_⟩
    obtain ⟨a', vs0, ea, g9, gk, z9⟩ := g4
    cases ea
    have eM : M = [a] := by
      rcases z9 with ⟨_, e⟩ | ⟨e, _⟩
      · exact e
      · cases e
    subst eM
    have s03 : Same H H3 := s.trans (s2.trans s3)
    have ha3 : H3 a = some (.dT vs0) := s03 _ _ g9
    have hap : a ≠ pt := fun e => by rw [e] at ha3; rw [hpt] at ha3; cases ha3
    have s4 : Same H (upd H3 pt (.tup vs)) := s03.trans (same_upd hpt)
    refine .inr ⟨a, _, rfl, DPut.t (k := k.map kyK) (by rw [upd_ne hap]; exact ha3) (by rw [upd_same, ev]) (by rw [show vs0.length = kvs.length from by have := congrArg List.length gk; rwa [List.length_map, List.length_map] at this, ← lim_eq]; exact hlt), ?_⟩
    obtain ⟨Lf', q1, q2⟩ := g8 (upd H3 pt (.tup vs)) [] (upd (upd H3 pt (.tup vs)) a (.dT (L2.putK vs0 (k.map kyK) w))) [a] s4 .nil (fun b o e n => by rw [upd_ne n]; exact e) (fun c hc => .inl hc) gn
      ⟨a, _, rfl, upd_same, putT_keys gk, .inl ⟨rfl, rfl⟩⟩
    exact r4 σ _ Lf' q1 q2
  · rw [if_neg hz] at q; exact q.elim
end
end Q

set_option maxHeartbeats 1000000
namespace Q
open PySem PySem.Spec L2
open PyProof.Rows hiding St

/-! ## d.update(x) -/
def rDUpd (K : PySem.W.Frag) : V → List V → Hp → VK → Prop := fun x vs H Q => ∃ (a b : Addr) (kvs more : List (Key × V)), x = .ref a ∧ vs = [.ref b] ∧ a ≠ b ∧ H a = some (.dK kvs) ∧ H b = some (.dK more) ∧ kvs.length + more.length ≤ sizeLine ∧ Q .non (upd H a (.dK (mergeK kvs more)))
theorem mtd_update {X : Cx} : MtR X "dict.update" (rDUpd X.K) := by
  intro pins s σ H x vs v us Q I rx rv h
  obtain ⟨a, b, kvs, more, ex, ev, hne, ea, eb, hz, q⟩ := h
  subst ex
  subst ev
  obtain rfl : v = Value.ref a := rx
  obtain ⟨u, rfl, ru⟩ := rv.one
  obtain rfl : u = Value.ref b := ru
  obtain ⟨z1, hd1, vs1, rel1, dd1⟩ := dk_of I.hok ea
  obtain ⟨z2, hd2, vs2, rel2, dd2⟩ := dk_of I.hok eb
  refine call_meetsIn PySem.F.slot_dict_update dd1.typeIs PySem.F.entry_dict_update (PySem.F.args_dict_update_2 _ _) (meets_dict_update (mixKind X.prog X.w) a b hne hd2) ⟨vs1, vs2, dd1, dd2, by rw [← rel1.length, ← rel2.length]; exact hz, fun h' dd' _ hs => ?_⟩
  have he : ∃ q, h'.get? a = some q := let ⟨q, _, _, hq, _⟩ := dd'; ⟨q, hq⟩
  exact ⟨.non, _, d_write (t' := s.toks) I (by rw [ea]; exact True.intro) hs he (dk_new (Nat.le_trans (length_mergeK more kvs) hz) hd1 (rel2.merge rel1) dd'), rfl, q⟩
end Q
namespace Q
open PySem PySem.Spec L2
open PyProof.Rows hiding St
theorem updD_some {xs : List (Ky × D)} {x x' : D} (h : updD xs x = some x') : ∃ kvs, x = .dic .w kvs ∧ kvs.length + xs.length ≤ lim ∧ x' = .dic .w (mergeD kvs xs) := by
  unfold updD at h
  split at h
  · split at h
    · cases h
      exact ⟨_, rfl, by assumption, rfl⟩
    · cases h
  · cases h
theorem repk_set {K : PySem.W.Frag} {H : Hp} {U U' : Addr → Prop} {d : List (Ky × D)} {v : List (Key × V)} {L : List Addr} (e : ∀ a, U' a → U a ∨ H a = none) (h : repk K H U d v L) : repk K H U' d v L := repk_go d v L (.set e) h
/-- what is put in is shared -/
theorem merge_rep2 {K : PySem.W.Frag} {H : Hp} {U : Addr → Prop} : ∀ {more : List (Ky × D)} {mv : List (Key × V)} {acc : List (Ky × D)} {av : List (Key × V)} {La : List Addr}, repk K H U acc av La → (acc.map (·.1)).Nodup → repk K H U more mv [] → La.Nodup →
    ∃ N, repk K H U (mergeD acc more) (mergeK av mv) N ∧ ((mergeD acc more).map (·.1)).Nodup ∧ (∀ a ∈ N, a ∈ La) ∧ N.Nodup
  | [], mv, acc, av, La, h, nk, r, nd => by
    obtain ⟨rfl, _⟩ := (show mv = [] ∧ _ from r)
    exact ⟨La, h, nk, fun a ha => ha, nd⟩
  | (k, d) :: more, mv, acc, av, La, h, nk, r, nd => by
    obtain ⟨v, vr, L1, L2, e1, e2, h1, h2⟩ := r
    obtain ⟨rfl, rfl⟩ := List.append_eq_nil_iff.mp e2.symm
    subst e1
    obtain ⟨hk, h1⟩ := (show v.1 = kyK k ∧ rep K H U d v.2 [] from h1)
    obtain ⟨N1, p1, p2, p3⟩ := repk_put (k := k) nk h h1 (by rw [List.append_nil]; exact nd)
    obtain ⟨N, g1, g2, g3, g4⟩ := merge_rep2 (more := more) p1 (putD_keys nk) h2 p3
    refine ⟨N, ?_, g2, fun a ha => ?_, g4⟩
    · show repk K H U (mergeD (putD acc k d) more) (mergeK (putK av v.1 v.2) vr) N
      rw [hk]
      exact g1
    · have := p2 a (g3 a ha)
      rw [List.append_nil] at this
      exact this
section
/-- a statement of which nothing is said -/
theorem sims_bad {X : Cx} {G : Gx} {N : Nat} {s : Stmt} : PS X s (tS G N (.exp (.bf .sorted []))) := ⟨fun pins s σ H De I ⟨U, Lf, env, _, r⟩ => (show False from r).elim⟩
end
section
variable {X : Cx} {G : Gx} {N : Nat} {pos apos cpos : Pos} {o e : Expr} {i : Nat} {p : List E} {me : E}
theorem sims_upd {z : Bool} (hK : G.K = X.K) (ho : PE X o (tPa G i p)) (he : PE X e (tM (G.z (zOf z)) me)) (hs : swapsWith (.Call (.Attribute o "update" apos) [e] [] cpos) none pos.line X.env = pure false)
    (hbase : attributeBase o "update" X.env (eval o X.env) = eval o X.env)
    (hfew : ((backTo cpos (starEach [e] X.env)).all (fun x => !x.1) && (backToKw cpos (keywordEach [] X.env)).all (fun x => x.1.isSome)
      && decide ([e].length + ([] : List Keyword).length + (if ([] : List Keyword).isEmpty then 0 else 1) < 30)) = true)
    (hline : (apos.endLine == cpos.line) = true) (hst : starEach [e] X.env = (false, eval e X.env) :: starEach [] X.env) (hpl : (backTo cpos (starEach [] X.env)).any (·.1) = false) :
    PS X (.Expr (.Call (.Attribute o "update" apos) [e] [] cpos) pos) (tS G N (.upd i p z me)) :=
  PS.imp (ps_expr (pe_bm PySem.F.plainAttrs_dict PySem.F.slot_dict_update PySem.F.type_dict_update mtd_update ho (pa_cons he pa_nil hst) hbase hfew hline hst hpl) hs) fun De σ H ⟨U, Lf, env, h, r⟩ => by
  obtain ⟨ks, ek, r⟩ := quiet_s r
  obtain ⟨d, ee, r⟩ := quiet_s r
  cases d with
  | dic oo xs =>
    have r3 : RSok G U Lf H (if (!z || (oo.no && noShk xs)) = true then upd1 (updD (shk xs)) i ks env else .bad) De := r
    by_cases hz : (!z || (oo.no && noShk xs)) = true
    · rw [if_pos hz] at r3
      obtain ⟨d0, d', e1, e2, r4⟩ := upd1_ok r3
      obtain ⟨v0, a, y, y', M, g1, g2, g3, g4, g5, g6, gn, g8⟩ := h.upd (fun x x' q => by obtain ⟨ds, rfl, _⟩ := updD_some q; trivial) e1 e2
      obtain ⟨kvs, rfl, hl, rfl⟩ := updD_some g3
      obtain ⟨a', vs, L', ea, ⟨g7, gk⟩, g9, z9⟩ := g4
      cases ea
      have eM : M = a :: L' := by
        rcases z9 with ⟨_, e⟩ | ⟨e, _⟩
        · exact e
        · cases e
      subst eM
      have anL' : a ∉ L' := (List.nodup_cons.mp gn).1
      have nL' := (List.nodup_cons.mp gn).2
      refine ⟨_, env, ks, v0, .ref a, h.dom' _, h.read allN, ek, g1, g2, fun H1 s => ⟨.inr (.inr (.inl ⟨rfl, .inl ⟨vs, s _ _ g9⟩⟩)), ?_⟩⟩
      refine ⟨_, env, (h.same s).dom' _, (h.same s).read (zOf z), ?_⟩
      show Res _ σ H1 (ev G.C me env) _
      rw [ee]
      intro w H2 L s2 f rr
      have s3 := s.trans s2
      have fr : Fresh H L := ⟨f.1, fun b hb => s.free (f.2 b hb)⟩
      obtain ⟨b, ws, Lw, rfl, ⟨rw_, rk⟩, hb2, zz⟩ := rr
      have hLw : ∀ c ∈ Lw, c ∈ L := by
        rcases zz with ⟨_, q⟩ | ⟨_, _, q, _⟩
        · intro c hc; rw [q]; exact List.mem_cons_of_mem _ hc
        · intro c hc; rw [q] at hc; cases hc
      have notU : ∀ c ∈ L, ¬ UO U Lf allN c := fun c hc u => h.dom' allN c u (fr.2 c hc)
      have rv : repk G.K H2 (UO U Lf allN) (shk xs) ws [] := by
        cases z with
        | true => exact repk_sh _ _ _ (fun c hc => notU c (hLw c hc)) (repk_noSh xs ws Lw (Bool.and_eq_true_iff.mp (show (oo.no && noShk xs) = true by simpa using hz)).2 rw_)
        | false => exact repk_sh _ _ _ (fun c hc => notU c (hLw c hc)) (repk_set (fun c u => .inl (.inl u)) rw_)
      have ha2 : H2 a = some (.dK vs) := s3 _ _ g9
      have hab : a ≠ b := by
        intro e
        subst e
        rcases zz with ⟨_, q⟩ | ⟨q, nu, _⟩
        · exact notU a (by rw [q]; exact List.mem_cons_self) g6
        · cases z with
          | true => subst q; simp [O.no] at hz
          | false => exact nu (.inl g6)
      refine ⟨a, b, vs, ws, rfl, rfl, hab, ha2, hb2, by rw [repk_length g7, repk_length rv, ← lim_eq]; exact hl, ?_⟩
      have rk2 : repk G.K (upd H2 a (.dK (mergeK vs ws))) (UO U Lf allN) kvs vs L' := repk_go _ _ _ (Go.keep (.inr (.inl ⟨_, g9⟩)) g6 anL' (fun c u e n => by rw [upd_ne n]; exact s3 c u e) fun c u => .inl u) g7
      have rv2 : repk G.K (upd H2 a (.dK (mergeK vs ws))) (UO U Lf allN) (shk xs) ws [] := repk_go _ _ _ (Go.upd (B := []) (.inr (.inl ⟨_, ha2⟩)) g6 (by simp)) rv
      obtain ⟨N', n1, n2, n3, n4⟩ := merge_rep2 rk2 gk rv2 nL'
      obtain ⟨Lf', q1, q2⟩ := g8 H2 [] (upd H2 a (.dK (mergeK vs ws))) (a :: N') s3 .nil (fun c u e n => by rw [upd_ne n]; exact e) (fun c hc => by
          rcases List.mem_cons.mp hc with rfl | hc
          · exact .inl List.mem_cons_self
          · exact .inl (List.mem_cons_of_mem _ (n3 c hc)))
        (List.nodup_cons.mpr ⟨fun m => anL' (n3 a m), n4⟩)
        ⟨a, _, N', rfl, ⟨repk_set (fun c u => .inl u.nil) n1, n2⟩, upd_same, .inl ⟨rfl, rfl⟩⟩
      exact r4 σ _ Lf' q1 q2
    · rw [if_neg hz] at r3; exact r3.elim
  | _ => exact (show False from r).elim
end
end Q

set_option maxHeartbeats 1000000
namespace Q
open PySem PySem.Spec L2
open PyProof.Rows hiding St

/-! ## x, y = d.pop() -/
section
variable {G : Gx} {U : Addr → Prop} {Lf : Own} {H : Hp} {σ : St} {env : Env} {i : Nat}
theorem SE.shin {ds : List D} (h : SE G U Lf H σ env) (e : env[i]? = some (some (.lst .w ds))) :
    ∃ a vs, σ[i]? = some (some (.ref a)) ∧ H a = some (.lst vs) ∧ ds.length ≤ lim ∧ SE G U (putL Lf i [a]) H σ (env.set i (some (.lst .w (shs ds)))) ∧ reps G.K H (UO U (putL Lf i [a]) allN) (shs ds) vs [] ∧ FrR Lf H (putL Lf i [a]) H := by
  obtain ⟨v, h1, h2⟩ := h.val i _ e
  obtain ⟨a, vs, L', ⟨rfl, hl⟩, r, z⟩ := h2
  rcases z with ⟨_, q, e2⟩ | ⟨e1, _⟩ | ⟨e1, _⟩
  rotate_left
  · cases e1
  · cases e1
  have am : a ∈ Lf i := by rw [e2]; exact List.mem_cons_self
  have hnd := h.nod i
  rw [e2] at hnd
  have pick : ∀ j b, b ∈ putL Lf i [a] j → (j = i ∧ b = a) ∨ (j ≠ i ∧ b ∈ Lf j) := fun j b m => by
    unfold putL at m
    split at m
    · rename_i e; exact .inl ⟨e, List.mem_singleton.mp m⟩
    · rename_i e; exact .inr ⟨e, m⟩
  have old : ∀ j b, b ∈ putL Lf i [a] j → b ∈ Lf j := fun j b m => by
    rcases pick j b m with ⟨rfl, rfl⟩ | ⟨_, m⟩
    · exact am
    · exact m
  have sub : ∀ b, UO U (putL Lf i [a]) allN b → UO U Lf allN b := fun b u => by
    rcases u with u | ⟨j, _, m⟩
    · exact .inl u
    · exact .inr ⟨j, rfl, old j b m⟩
  have notU : ∀ b ∈ L', ¬ UO U (putL Lf i [a]) allN b := fun b hb u => by
    have hbi : b ∈ Lf i := by rw [e2]; exact List.mem_cons_of_mem _ hb
    rcases u with u | ⟨j, _, m⟩
    · exact h.fro i b hbi u
    · rcases pick j b m with ⟨_, rfl⟩ | ⟨hj, m⟩
      · exact (List.nodup_cons.mp hnd).1 hb
      · exact hj (h.dis i j b hbi m).symm
  have rs : reps G.K H (UO U (putL Lf i [a]) allN) (shs ds) vs [] := reps_sh ds vs L' notU (reps_set (fun b u => .inl (sub b u)) r)
  refine ⟨a, vs, h1, q, hl, ⟨by rw [List.length_set]; exact h.len, h.dom, fun j d ej => ?_, fun j b m => h.fro j b (old j b m), fun j k b m m' => h.dis j k b (old j b m) (old k b m'), fun j => ?_, fun j b m => h.muta j b (old j b m), fun j hj => ?_, h.cold⟩, rs, ⟨fun b o e _ => e, fun j b m => .inl ⟨j, old j b m⟩⟩⟩
  · by_cases hj : i = j
    · subst hj
      rw [List.getElem?_set, if_pos rfl] at ej
      split at ej
      · cases ej
        refine ⟨.ref a, h1, ?_⟩
        have e3 : putL Lf i [a] i = [a] := if_pos rfl
        rw [e3]
        exact rep_wlst (by rw [shs_length]; exact hl) q rs
      · cases ej
    · rw [List.getElem?_set_ne hj] at ej
      obtain ⟨w, g1, g2⟩ := h.val j d ej
      have e3 : putL Lf i [a] j = Lf j := if_neg (Ne.symm hj)
      rw [e3]
      exact ⟨w, g1, rep_set (fun b u => .inl (sub b u)) g2⟩
  · unfold putL
    split
    · exact List.nodup_cons.mpr ⟨by simp, .nil⟩
    · exact h.nod j
  · unfold putL
    split
    · rename_i e; subst e
      have := h.imm _ hj
      rw [this] at am; cases am
    · exact h.imm j hj
end
def popD : D → Option D
  | .lst .w ds => some (.lst .w ds.dropLast)
  | _ => none
theorem popD_some {x x' : D} (h : popD x = some x') : ∃ ds, x = .lst .w ds ∧ x' = .lst .w ds.dropLast := by
  unfold popD at h
  split at h
  · cases h; exact ⟨_, rfl, rfl⟩
  · cases h
theorem popS_ok {G : Gx} {U : Addr → Prop} {Lf : Own} {H : Hp} {is : List Nat} {i : Nat} {env : Env} {De : Ends} (h : RSok G U Lf H (popS is i env) De) : ∃ ds x, env[i]? = some (some (.lst .w ds)) ∧ ds.getLast? = some x ∧ RSok G U Lf H ((bindP (.t is) (sh x) (env.set i (some (.lst .w (shs ds.dropLast))))).s env fun env' => .ok env' .nx) De := by
  unfold popS at h
  split at h
  · rename_i ds e
    split at h
    · rename_i x ex
      exact ⟨ds, x, e, ex, h⟩
    · exact h.elim
  · exact h.elim
theorem shs_drop (ds : List D) : shs ds.dropLast = (shs ds).dropLast := by rw [shs_map, shs_map, List.map_dropLast]
theorem reps_dropL {K : PySem.W.Frag} {H : Hp} {U : Addr → Prop} : ∀ {ds : List D} {vs : List V} {L : List Addr}, reps K H U ds vs L → L.Nodup → ∃ L1, reps K H U ds.dropLast vs.dropLast L1 ∧ (∀ a ∈ L1, a ∈ L) ∧ L1.Nodup
  | [], vs, L, h, n => by
    obtain ⟨rfl, rfl⟩ := h
    exact ⟨[], ⟨rfl, rfl⟩, fun a ha => ha, .nil⟩
  | [d], vs, L, h, n => by
    obtain ⟨v, vr, L1, L2, rfl, rfl, h1, h2⟩ := h
    obtain ⟨rfl, rfl⟩ := h2
    exact ⟨[], ⟨rfl, rfl⟩, fun a ha => (by cases ha), .nil⟩
  | d :: d2 :: r, vs, L, h, n => by
    obtain ⟨v, vr, L1, L2, rfl, rfl, h1, h2⟩ := h
    obtain ⟨n1, n2, n3⟩ := List.nodup_append.mp n
    obtain ⟨L3, g1, g2, g3⟩ := reps_dropL h2 n2
    have hne : vr ≠ [] := by
      obtain ⟨v', vr', _, _, rfl, _⟩ := h2
      simp
    refine ⟨L1 ++ L3, ?_, fun a ha => ?_, List.nodup_append.mpr ⟨n1, g3, fun a ha b hb => n3 a ha b (g2 b hb)⟩⟩
    · rw [List.dropLast_cons_of_ne_nil hne]
      exact ⟨v, _, L1, L3, rfl, rfl, h1, g1⟩
    · exact List.mem_append.mpr ((List.mem_append.mp ha).imp id (g2 a))
section
variable {X : Cx} {G : Gx} {N : Nat} {pos apos cpos : Pos} {o tg : Expr} {i : Nat} {is : List Nat}
theorem sims_popu (hK : G.K = X.K) (hq : ∀ i ∈ is, ∀ q v, G.hot = some (q, v) → q ≠ i) (hM : ∀ i ∈ is, G.M i = false) (ho : PE X o (tPa G i [])) (hg : PG X tg (tG X.K (.t is)))
    (hs : swapsWithSole [tg] (.Call (.Attribute o "pop" apos) [] [] cpos) pos.line X.env = pure false) (hw : swappedStores [tg] (.Call (.Attribute o "pop" apos) [] [] cpos) X.env = pure none) (h1 : (assignEach [tg] X.env).map (·.2) = [assign tg X.env])
    (hbase : attributeBase o "pop" X.env (eval o X.env) = eval o X.env) (hline : (apos.endLine == cpos.line) = true) :
    PS X (.Assign [tg] (.Call (.Attribute o "pop" apos) [] [] cpos) pos) (tS G N (.popu is i)) :=
  PS.imp (ps_asg (pe_bm0 PySem.F.plainAttrs_list PySem.F.slot_list_pop PySem.F.type_list_pop mt_pop ho hbase hline) hg hs hw h1) fun De σ H ⟨U, Lf, env, h, r⟩ => by
  obtain ⟨ds, x, e, ex, r⟩ := popS_ok r
  obtain ⟨a, vs, k1, k2, k3, k4, k5, k6⟩ := h.shin e
  have hi : i < env.length := (List.getElem?_eq_some_iff.mp e).1
  have e' : (env.set i (some (.lst .w (shs ds))))[i]? = some (some (.lst .w (shs ds))) := by rw [List.getElem?_set, if_pos rfl, if_pos hi]
  obtain ⟨v0, a', y, y', M, g1, g2, g3, g4, g5, g6, gn, g8⟩ := k4.upd (ks := []) (f := popD) (fun x x' q => by obtain ⟨ds, rfl, _⟩ := popD_some q; trivial) e' (show updP popD [] (.lst .w (shs ds)) = some (.lst .w (shs ds).dropLast) from rfl)
  rw [k1] at g1
  cases g1
  have ga : V.ref a = V.ref a' := g2
  cases ga
  obtain ⟨ds0, rfl, rfl⟩ := popD_some g3
  obtain ⟨vs0, L0, hl0, g7, g9, rfl⟩ := rep_lstw g4
  rw [k2] at g7
  cases g7
  have hx : (shs ds)[ds.length - 1]? = some (sh x) := by
    rw [List.getLast?_eq_getElem?] at ex
    rw [shs_map, List.getElem?_map, ex]; rfl
  obtain ⟨w, hw1, hw2⟩ := reps_get0 k5 hx
  have hlen : vs.length = ds.length := (reps_length k5).trans (shs_length ds)
  have e0 : evs G.C [] env = .ok [] := rfl
  refine ⟨_, env, [], .ref a, .ref a, h.dom' _, h.read allN, e0, k1, rfl, fun H1 s => ⟨.inl ⟨rfl, vs, .of (s _ _ k2)⟩, ?_⟩⟩
  refine ⟨a, vs, w, rfl, rfl, s _ _ k2, by rw [hlen]; exact hw1, ?_⟩
  obtain ⟨L1, d1, d2, d3⟩ := reps_dropL g9 (List.nodup_cons.mp gn).2
  have anL : a ∉ L1 := fun m => (List.nodup_cons.mp gn).1 (d2 a m)
  obtain ⟨Lf', q1, q2⟩ := g8 H1 [] (upd H1 a (.lst vs.dropLast)) (a :: L1) s .nil (fun b u e n => by rw [upd_ne n]; exact e) (fun b hb => by
      rcases List.mem_cons.mp hb with rfl | hb
      · exact .inl List.mem_cons_self
      · exact .inl (List.mem_cons_of_mem _ (d2 b hb))) (List.nodup_cons.mpr ⟨anL, d3⟩)
    (rep_wlst (by rw [List.length_dropLast]; omega) upd_same (rep_chg (L := []) s (fun _ z => nomatch z) (.inl ⟨_, k2⟩) g6 anL d1))
  have hv : rep G.K (upd H1 a (.lst vs.dropLast)) (UO U Lf' allN) (sh x) w [] := rep_go _ _ _ (Go.keep (.inl ⟨_, k2⟩) g6 (fun z => nomatch z) (fun b u eb n => by rw [upd_ne n]; exact s b u eb) fun b u => by
    rcases u with u | ⟨j, _, m⟩
    · exact .inl (.inl u)
    · exact (q1.from_ j b m).imp (fun ⟨j', m'⟩ => .inr ⟨j', rfl, m'⟩) id) hw2
  rw [List.set_set, ← shs_drop] at q2
  show ∃ U d, rep X.K _ U (sh d) w [] ∧ _
  refine ⟨UO U Lf' allN, sh x, by rw [← hK, sh_sh]; exact hv, ?_⟩
  rw [bindP_unpk] at r
  cases eu : unpk (.t is) (sh x) with
  | none => rw [eu] at r; exact r.elim
  | some us =>
    rw [eu] at r
    exact fun ws rv => (show nxOk G U Lf H _ De.nx from r) _ _ Lf' (k6.trans q1) (q2.setV hq hM (by rw [hK]; exact rv))
end
end Q

set_option maxHeartbeats 1000000
namespace Q
open PySem PySem.Spec L2
open PyProof.Rows hiding St

/-! ## for v in the place: v[..].append(e) -/
/-- a list's items on the way -/
structure NS (K : PySem.W.Frag) (H0 : Hp) (U0 : Addr → Prop) (M0 : List Addr) (la : Addr) (vs : List V) (H : Hp) (items : List D) (La Lr : List Addr) : Prop where
  fr : Fresh H0 La
  keep : ∀ b o, H0 b = some o → b ∉ M0 → H b = some o
  gr : ∀ b, H0 b ≠ none → H b ≠ none
  node : H la = some (.lst vs)
  r : reps K H (Or2 U0 La) items vs Lr
  nd : (la :: Lr).Nodup
  im : ∀ b ∈ Lr, b ∈ M0 ∨ b ∈ La
  ex : ∀ b ∈ La, H b ≠ none
section
variable {K : PySem.W.Frag} {H0 H H2 : Hp} {U0 : Addr → Prop} {M0 : List Addr} {la : Addr} {vs : List V} {items : List D} {La Lr : List Addr}
theorem NS.dom (n : NS K H0 U0 M0 la vs H items La Lr) (hd : Dom H0 U0) : Dom H (Or2 U0 La) := fun a u => u.elim (fun z => n.gr a (hd a z)) (n.ex a)
theorem NS.same (n : NS K H0 U0 M0 la vs H items La Lr) (s : Same H H2) : NS K H0 U0 M0 la vs H2 items La Lr :=
  ⟨n.fr, fun b o e h => s _ _ (n.keep b o e h), fun b h q => n.gr b h (s.free q), s _ _ n.node, reps_same s n.r, n.nd, n.im, fun b hb q => n.ex b hb (s.free q)⟩
theorem upd_nn {a b : Addr} {o : HO} (h : H b ≠ none) : upd H a o b ≠ none := by
  by_cases e : b = a
  · subst e; rw [upd_same]; exact Option.some_ne_none _
  · rw [upd_ne e]; exact h
theorem NS.step (n : NS K H0 U0 M0 la vs H items La Lr) (hd : Dom H0 U0) (hM : ∀ b ∈ M0, U0 b) {j : Nat} {it it' d : D} {q : List D} (ej : items[j]? = some it) (eq : updP (appD d) q it = some it') :
    ∃ v a ws, vs[j]? = some v ∧ PathV K H q v (.ref a) ∧ H a = some (.lst ws) ∧ ws.length < sizeLine ∧ ∀ H2 w L2, Same H H2 → Fresh H L2 → rep K H2 (Or2 (Or2 U0 La) L2) d w L2 → ∃ La' Lr', NS K H0 U0 M0 la vs (upd H2 a (.lst (ws ++ [w]))) (items.set j it') La' Lr' := by
  obtain ⟨v, A, Lx, B, g1, g2, g3, g4⟩ := reps_upd n.r ej
  subst g3
  have nL := (List.nodup_cons.mp n.nd).2
  have inx : ∀ b ∈ Lx, b ∈ A ++ (Lx ++ B) := fun b hb => List.mem_append_right _ (List.mem_append_left _ hb)
  have inU : ∀ b ∈ Lx, Or2 U0 La b := fun b hb => (n.im b (inx b hb)).imp (hM b) id
  obtain ⟨x, x', a, M, p1, p2, p3, p4, p5, p6, p7⟩ := path_go (f := appD d) (fun x x' q => by obtain ⟨ds, rfl, _⟩ := appD_some q; trivial) q g2 inU (List.nodup_append.mp (List.nodup_append.mp nL).2.1).1 eq
  obtain ⟨ds, rfl, hl, rfl⟩ := appD_some p2
  obtain ⟨ws, L', _, g7, g9, rfl⟩ := rep_lstw p3
  refine ⟨v, a, ws, g1, p1, g7, by rw [reps_length g9, ← lim_eq]; exact hl, fun H2 w L2 s f rv => ?_⟩
  have ma : MutA H a := .inl ⟨_, g7⟩
  have aU : Or2 U0 La a := inU a (p5 a p4)
  have ha2 : H2 a = some (.lst ws) := s _ _ g7
  have anL' : a ∉ L' := (List.nodup_cons.mp p6).1
  have anL : a ∉ L2 := fun m => by have := f.2 a m; rw [g7] at this; cases this
  have keep4 : ∀ b o, H b = some o → b ≠ a → upd H2 a (.lst (ws ++ [w])) b = some o := fun b o e ne => by rw [upd_ne ne]; exact s b o e
  have set4 : ∀ b, Or2 (Or2 U0 La) L2 b → Or2 U0 La b ∨ H b = none := fun b u => u.imp id (f.2 b)
  have disj : ∀ b ∈ L', ∀ c ∈ L2, b ≠ c := fun b hb c hc e => by
    subst e
    exact reps_in _ _ _ g9 b hb (f.2 b hc)
  have rx : rep K (upd H2 a (.lst (ws ++ [w]))) (Or2 (Or2 U0 La) L2) (.lst .w (ds ++ [d])) (.ref a) (a :: (L' ++ L2)) :=
    rep_wlst (by rw [List.length_append]; exact hl) upd_same (reps_append (rep_chg s f.2 ma aU anL' g9) (reps_one (rep_go _ _ _ (Go.upd (.inl ⟨_, ha2⟩) (.inl aU) anL) rv)))
  obtain ⟨Lx2, q1, q2, q3⟩ := p7 _ (Or2 (Or2 U0 La) L2) (a :: (L' ++ L2)) (fun b o e nm => keep4 b o e fun z => nm (z ▸ p4)) set4 rx (fun b hb => by
      rcases List.mem_cons.mp hb with rfl | hb
      · exact .inl List.mem_cons_self
      · exact (List.mem_append.mp hb).imp (List.mem_cons_of_mem _) (f.2 b))
    (List.nodup_cons.mpr ⟨fun m => (List.mem_append.mp m).elim anL' anL, List.nodup_append.mpr ⟨(List.nodup_cons.mp p6).2, f.1, disj⟩⟩)
  have inL : a ∈ A ++ (Lx ++ B) := inx a (p5 a p4)
  have aoff : a ∉ A ++ B := fun hc => by
    have h1 := p5 a p4
    rcases List.mem_append.mp hc with hc | hc
    · exact (List.nodup_append.mp nL).2.2 a hc a (List.mem_append_left _ h1) rfl
    · exact (List.nodup_append.mp (List.nodup_append.mp nL).2.1).2.2 a h1 a hc rfl
  have rr := g4 _ (Or2 (Or2 U0 La) L2) it' Lx2 (Go.keep ma aU aoff keep4 set4) q1
  rw [or_app'] at rr
  have inLr : ∀ b, H b = none → b ∉ A ++ (Lx ++ B) := fun b e m => reps_in _ _ _ n.r b m e
  have q2' : ∀ b ∈ Lx2, b ∈ Lx ∨ b ∈ L2 := fun b hb => by
    rcases q2 b hb with z | z
    · exact .inl z
    · rcases List.mem_cons.mp z with rfl | z
      · exact .inl (p5 _ p4)
      · rcases List.mem_append.mp z with z | z
        · exact .inl (p5 b (List.mem_cons_of_mem _ z))
        · exact .inr z
  have off2 : ∀ b ∈ A ++ B, b ∉ L2 := fun b hb m => inLr b (f.2 b m) (by
    rcases List.mem_append.mp hb with hb | hb
    · exact List.mem_append_left _ hb
    · exact List.mem_append_right _ (List.mem_append_right _ hb))
  refine ⟨La ++ L2, A ++ (Lx2 ++ B), ⟨⟨List.nodup_append.mpr ⟨n.fr.1, f.1, fun b hb c hc e => ?_⟩, fun b hb => ?_⟩, fun b o e nm => keep4 b o (n.keep b o e nm) fun z => ?_, fun b hb => upd_nn fun q => n.gr b hb (s.free q), ?_, rr, List.nodup_cons.mpr ⟨fun hm => ?_, mid_nodup nL q3 q2' off2⟩, fun b hb => ?_, fun b hb => ?_⟩⟩
  · subst e
    exact n.ex b hb (f.2 b hc)
  · rcases List.mem_append.mp hb with hb | hb
    · exact n.fr.2 b hb
    · cases e : H0 b with
      | none => rfl
      | some o => exact absurd (f.2 b hb) (n.gr b (by rw [e]; exact Option.some_ne_none _))
  · subst z
    rcases n.im b inL with z | z
    · exact nm z
    · have := n.fr.2 b z
      rw [e] at this; cases this
  · refine keep4 la _ n.node fun z => ?_
    rw [z] at n
    exact (List.nodup_cons.mp n.nd).1 inL
  · have nla := (List.nodup_cons.mp n.nd).1
    rcases List.mem_append.mp hm with hm | hm
    · exact nla (List.mem_append_left _ hm)
    · rcases List.mem_append.mp hm with hm | hm
      · rcases q2' la hm with z | z
        · exact nla (inx la z)
        · have := f.2 la z
          rw [n.node] at this; cases this
      · exact nla (List.mem_append_right _ (List.mem_append_right _ hm))
  · rcases List.mem_append.mp hb with hb | hb
    · exact (n.im b (List.mem_append_left _ hb)).imp id (List.mem_append_left _)
    · rcases List.mem_append.mp hb with hb | hb
      · rcases q2' b hb with z | z
        · exact (n.im b (inx b z)).imp id (List.mem_append_left _)
        · exact .inr (List.mem_append_right _ z)
      · exact (n.im b (List.mem_append_right _ (List.mem_append_right _ hb))).imp id (List.mem_append_left _)
  · rcases List.mem_append.mp hb with hb | hb
    · exact upd_nn fun q => n.ex b hb (s.free q)
    · exact upd_nn (rep_in _ _ _ rv b hb)
end
/-! the body -/
def tA1 (G : Gx) (v : Nat) (q : List Int) (me : E) : TS := fun De σ H => ∃ x a ws U d, σ[v]? = some (some x) ∧ PathV G.K H (q.map D.int) x (.ref a) ∧ H a = some (.lst ws) ∧ ws.length < sizeLine ∧ Dom H U ∧ ev G.C me (List.replicate σ.length none) = .ok d ∧
  ∀ H2 w L2, Same H H2 → Fresh H L2 → rep G.K H2 (Or2 U L2) d w L2 → De.nx σ (upd H2 a (.lst (ws ++ [w])))
def tAs (G : Gx) (v : Nat) : List (List Int × E) → TS
  | [] => fun De σ H => De.nx σ H
  | a :: r => fun De σ H => tA1 G v a.1 a.2 { De with nx := fun σ' H' => tAs G v r De σ' H' } σ H
theorem repE_none {G : Gx} {H : Hp} {U : Addr → Prop} {σ : St} (hc : G.hot = none) : RepE G H U σ (List.replicate σ.length none) := by
  refine ⟨by simp, fun i d e => ?_, fun q v e => by rw [hc] at e; cases e⟩
  rw [List.getElem?_replicate] at e
  split at e <;> cases e
theorem evs_lits {C : Nat → List D → R D} {env : Env} : ∀ q : List Int, evs C (q.map fun k => E.lit (.int k)) env = .ok (q.map D.int)
  | [] => rfl
  | k :: q => by
    show ((ev C (.lit (.int k)) env).b fun x => (evs C (q.map fun k => E.lit (.int k)) env).b fun xs => .ok (x :: xs)) = _
    rw [evs_lits q]; rfl
section
variable {X : Cx} {G : Gx} {N : Nat} {pos apos cpos : Pos} {o e : Expr} {i v : Nat} {p : List E} {me : E}
theorem sims_app1 {q : List Int} (hc : G.hot = none) (ho : PE X o (tPa G v (q.map fun k => .lit (.int k)))) (he : PE X e (tM (G.z noN) me)) (hs : swapsWith (.Call (.Attribute o "append" apos) [e] [] cpos) none pos.line X.env = pure false)
    (hbase : attributeBase o "append" X.env (eval o X.env) = eval o X.env)
    (hfew : ((backTo cpos (starEach [e] X.env)).all (fun x => !x.1) && (backToKw cpos (keywordEach [] X.env)).all (fun x => x.1.isSome)
      && decide ([e].length + ([] : List Keyword).length + (if ([] : List Keyword).isEmpty then 0 else 1) < 30)) = true)
    (hline : (apos.endLine == cpos.line) = true) (hst : starEach [e] X.env = (false, eval e X.env) :: starEach [] X.env) (hpl : (backTo cpos (starEach [] X.env)).any (·.1) = false) :
    PS X (.Expr (.Call (.Attribute o "append" apos) [e] [] cpos) pos) (tA1 G v q me) :=
  PS.imp (ps_expr (pe_bm PySem.F.plainAttrs_list PySem.F.slot_list_append PySem.F.type_list_append mt_append ho (pa_cons he pa_nil hst) hbase hfew hline hst hpl) hs) fun De σ H ⟨x, a, ws, U, d, g1, g2, g3, g4, g5, g6, g7⟩ => by
  refine ⟨U, List.replicate σ.length none, q.map D.int, x, .ref a, g5, repE_none hc, evs_lits q, g1, g2, fun H1 s => ⟨.inl ⟨rfl, ws, .of (s _ _ g3)⟩, ?_⟩⟩
  refine ⟨U, List.replicate σ.length none, g5.same s, repE_none hc, ?_⟩
  show Res _ σ H1 (ev G.C me _) _
  rw [g6]
  intro w H2 L s2 f rr
  have s3 := s.trans s2
  exact ⟨a, ws, w, rfl, rfl, s3 _ _ g3, g4, g7 H2 w L s3 ⟨f.1, fun b hb => s.free (f.2 b hb)⟩ rr⟩
theorem simsA_nil : PSs X [] (tAs G v []) := pss_nil.imp fun De σ H r => r
theorem simsA_cons {s : Stmt} {rest : List Stmt} {a : List Int × E} {as : List (List Int × E)} (h1 : PS X s (tA1 G v a.1 a.2)) (h2 : PSs X rest (tAs G v as)) : PSs X (s :: rest) (tAs G v (a :: as)) := (pss_cons h1 h2).imp fun De σ H r => r
theorem set_self {α : Type} {xs : List α} {j : Nat} {x : α} (h : xs[j]? = some x) : xs.set j x = xs := by
  refine List.ext_getElem? fun k => ?_
  rw [List.getElem?_set]
  by_cases e : j = k
  · subst e
    rw [if_pos rfl, if_pos (List.getElem?_eq_some_iff.mp h).1, h]
  · rw [if_neg e]
theorem tAs_run {H0 : Hp} {U0 : Addr → Prop} {M0 : List Addr} {la : Addr} {vs : List V} (hd : Dom H0 U0) (hM : ∀ b ∈ M0, U0 b) {De : Ends} {σ : St} {x : V} {j : Nat} (hx : σ[v]? = some (some x)) (hj : vs[j]? = some x) : ∀ {as : List (List Int × E)} {cs : List (List D × D)}, cvs G.C σ.length as = .ok cs →
    ∀ {items : List D} {it it' : D} {La Lr : List Addr} {H : Hp}, NS G.K H0 U0 M0 la vs H items La Lr → items[j]? = some it → appItem cs it = some it' → (∀ H' La' Lr', NS G.K H0 U0 M0 la vs H' (items.set j it') La' Lr' → De.nx σ H') → tAs G v as De σ H
  | [], cs, hc, items, it, it', La, Lr, H, n, ej, ei, k => by
    cases hc
    cases (show some it = some it' from ei)
    refine k H La Lr ?_
    rw [set_self ej]; exact n
  | a :: as, cs, hc, items, it, it', La, Lr, H, n, ej, ei, k => by
    obtain ⟨d, e1, hc⟩ := b_ok (show ((ev G.C a.2 (List.replicate σ.length none)).quiet.b fun d => (cvs G.C σ.length as).b fun cs => .ok ((a.1.map D.int, d) :: cs)) = .ok cs from hc)
    obtain ⟨cs', e2, hc⟩ := b_ok hc
    cases hc
    have e1 := quiet_ok e1
    obtain ⟨it1, e3, e4⟩ := Option.bind_eq_some_iff.mp (show ((updP (appD d) (a.1.map D.int) it).bind (appItem cs')) = some it' from ei)
    obtain ⟨x', b, ws, f1, f2, f3, f4, f5⟩ := n.step hd hM ej e3
    rw [hj] at f1
    cases f1
    refine ⟨x, b, ws, Or2 U0 La, d, hx, f2, f3, f4, n.dom hd, e1, fun H2 w L2 s f rr => ?_⟩
    obtain ⟨La', Lr', n'⟩ := f5 H2 w L2 s f rr
    have hlt := (List.getElem?_eq_some_iff.mp ej).1
    refine tAs_run hd hM hx hj e2 n' (by rw [List.getElem?_set, if_pos rfl, if_pos hlt]) e4 fun H' La2 Lr2 n2 => k H' La2 Lr2 ?_
    rw [List.set_set] at n2
    exact n2
theorem SE.drop {U : Addr → Prop} {Lf : Own} {H : Hp} {σ σ2 : St} {env : Env} (hc : G.hot = none) (h : SE G U Lf H σ env) (hl : σ2.length = σ.length) (hk : ∀ k, k ≠ v → σ2[k]? = σ[k]?) : SE G U Lf H σ2 (env.set v none) := by
  refine ⟨by rw [List.length_set, hl]; exact h.len, h.dom, fun k d e => ?_, h.fro, h.dis, h.nod, h.muta, h.imm, fun q w e => by rw [hc] at e; cases e⟩
  rw [List.getElem?_set] at e
  split at e
  · split at e <;> cases e
  · rename_i hne
    obtain ⟨w, g1, g2⟩ := h.val k d e
    exact ⟨w, by rw [hk k (Ne.symm hne)]; exact g1, g2⟩
theorem fappD_some {cs : List (List D × D)} {x x' : D} (h : fappD cs x = some x') : ∃ ds ds', x = .lst .w ds ∧ appItems cs ds = some ds' ∧ x' = .lst .w ds' := by
  unfold fappD at h
  split at h
  · obtain ⟨ds', h1, h2⟩ := Option.map_eq_some_iff.mp h
    exact ⟨_, ds', rfl, h1, h2.symm⟩
  · cases h
theorem appItems_len {cs : List (List D × D)} : ∀ {ds ds' : List D}, appItems cs ds = some ds' → ds'.length = ds.length
  | [], ds', h => by cases h; rfl
  | x :: r, ds', h => by
    obtain ⟨y, h1, h2⟩ := Option.bind_eq_some_iff.mp (show ((appItem cs x).bind fun y => (appItems cs r).map (y :: ·)) = some ds' from h)
    obtain ⟨ys, h3, h4⟩ := Option.map_eq_some_iff.mp h2
    subst h4
    rw [List.length_cons, List.length_cons, appItems_len h3]
theorem fapp_run (hc : G.hot = none) {as : List (List Int × E)} {De : Ends} {σ : St} {H : Hp} (hK : G.K = X.K) (r : tS G N (.fapp i p v as) De σ H) : tFor (iList X.K (tPa G i p)) (gName v) (tAs G v as) De σ H := by
  obtain ⟨U, Lf, env, h, r⟩ := r
  obtain ⟨ks, ek, r⟩ := quiet_s r
  obtain ⟨cs, ec, r⟩ := quiet_s r
  split at r
  · rename_i hv
    have hup : ∃ d d', env[i]? = some (some d) ∧ updP (fappD cs) ks d = some d' ∧ nxOk G U Lf H ((env.set i (some d')).set v none) De.nx := by
      unfold upd1 at r
      split at r
      · rename_i d e
        split at r
        · rename_i d' e'
          exact ⟨d, d', e, e', r⟩
        · exact r.elim
      · exact r.elim
    obtain ⟨d, d', e1, e2, r⟩ := hup
    obtain ⟨v0, la, x, x', M, g1, g2, g3, g4, g5, g6, g7, g8⟩ := h.updM (fun x x' q => by obtain ⟨ds, ds', rfl, _⟩ := fappD_some q; trivial) e1 e2
    obtain ⟨items, items', rfl, eA, rfl⟩ := fappD_some g3
    obtain ⟨vs, L', hl, hla, hr, rfl⟩ := rep_lstw g4
    have hd := h.dom' allN
    have hlen : σ.length = env.length := h.len.symm
    refine ⟨_, env, ks, v0, .ref la, h.dom' _, h.read allN, ek, g1, g2, fun H1 s => ⟨la, rfl, ⟨vs, .of (s _ _ hla)⟩, ?_⟩⟩
    refine ⟨fun j m σ' H' => m = items.length - j ∧ j ≤ items.length ∧ σ'.length = σ.length ∧ (∀ k, k ≠ v → σ'[k]? = σ[k]?) ∧ ∃ done rest' La Lr, done.length = j ∧ appItems cs (items.drop j) = some rest' ∧ done ++ rest' = items' ∧ NS G.K H (UO U Lf allN) (la :: L') la vs H' (done ++ items.drop j) La Lr,
      ⟨items.length, rfl, Nat.zero_le _, rfl, fun _ _ => rfl, [], items', [], L', rfl, eA, rfl, NS.same ⟨Fresh.nil, fun b o e _ => e, fun b h => h, hla, reps_set (fun a u => .inl u.nil) hr, g7, fun b hb => .inl (List.mem_cons_of_mem _ hb), fun b hb => nomatch hb⟩ s⟩, ?_⟩
    rintro j m σ2 H2 ⟨rfl, hj, h1, h2, done, rest', La, Lr, dl, er, ed, n⟩
    have vl : vs.length = items.length := by
      have := reps_length n.r
      rw [List.length_append, List.length_drop] at this
      omega
    by_cases hlt : j < items.length
    · obtain ⟨xv, exv⟩ : ∃ xv, vs[j]? = some xv := ⟨vs[j], List.getElem?_eq_getElem (by omega)⟩
      refine .inr ⟨⟨vs, xv, .of n.node, exv⟩, fun σ' H' => j + 1 ≤ items.length ∧ σ'.length = σ.length ∧ (∀ k, k ≠ v → σ'[k]? = σ[k]?) ∧ ∃ done rest' La Lr, done.length = j + 1 ∧ appItems cs (items.drop (j + 1)) = some rest' ∧ done ++ rest' = items' ∧ NS G.K H (UO U Lf allN) (la :: L') la vs H' (done ++ items.drop (j + 1)) La Lr,
        fun σ' H' z => ⟨_, by omega, rfl, z⟩, fun x3 H3 y => ?_⟩
      obtain ⟨rfl, y⟩ := y
      have ex := y vs (.of n.node)
      have edr := List.drop_eq_getElem_cons hlt
      rw [edr] at er
      obtain ⟨it', e3, e4⟩ := Option.bind_eq_some_iff.mp (show ((appItem cs items[j]).bind fun y => (appItems cs (items.drop (j + 1))).map (y :: ·)) = some rest' from er)
      obtain ⟨ys, e5, e6⟩ := Option.map_eq_some_iff.mp e4
      subst e6
      show tAs G v as _ (σ2.set v (some x3)) H3
      refine tAs_run hd g6 (x := x3) (j := j) (by rw [List.getElem?_set, if_pos rfl, if_pos (by rw [h1, hlen]; exact hv)]) ex (cs := cs) (by rw [List.length_set, h1, hlen]; exact ec) n (it := items[j]) (it' := it') ?_ e3 fun H' La' Lr' n' => ?_
      · rw [List.getElem?_append_right (by omega), dl, Nat.sub_self, edr]; rfl
      · refine ⟨hlt, by rw [List.length_set]; exact h1, fun k hk => by rw [List.getElem?_set_ne (Ne.symm hk)]; exact h2 k hk, done ++ [it'], ys, La', Lr', by rw [List.length_append, dl]; rfl, e5, by rw [List.append_assoc]; exact ed, ?_⟩
        have e7 : (done ++ items.drop j).set j it' = (done ++ [it']) ++ items.drop (j + 1) := by
          rw [List.set_append, if_neg (by omega), dl, Nat.sub_self, edr, List.set_cons_zero, List.append_assoc]; rfl
        rw [← e7]; exact n'
    · have ej : j = items.length := by omega
      subst ej
      rw [List.drop_length] at er n
      cases er
      rw [List.append_nil] at ed n
      subst ed
      refine .inl ⟨⟨vs, .of n.node, by omega⟩, ?_⟩
      obtain ⟨Lf', q1, q2⟩ := g8 H La H2 (la :: Lr) (Same.refl H) n.fr n.keep (fun b hb => by
        rcases List.mem_cons.mp hb with rfl | hb
        · exact .inl List.mem_cons_self
        · exact n.im b hb) n.nd ⟨la, vs, Lr, ⟨rfl, by rw [dl]; exact hl⟩, n.r, .inl ⟨rfl, n.node, rfl⟩⟩
      exact r σ2 H2 Lf' q1 (q2.drop hc h1 h2)
  · exact r.elim
theorem sims_fapp {x : Str} {px : Pos} {iter : Expr} {body : List Stmt} {as : List (List Int × E)} (hcold : G.hot = none) (hK : G.K = X.K) (hp : PassesOwn (model X.prog X.w) X.A X.env X.xe) (hc : X.calm = true) (hN : X.N.Nodup) (hi : X.N[v]? = some x) (hx : Loc X.env.scope x) (hf : X.fn x = true)
    (ho : PE X iter (tPa G i p)) (hb : PSs X body (tAs G v as)) (hs : ∀ x, foldedSetIterable iter X.env x = pure x) : PS X (.For (.Name x px) iter body [] pos) (tS G N (.fapp i p v as)) :=
  PS.imp (ps_for hp hc (pi_list ho) (pg_name hN hi hx (.inl hf)) hb hs) fun De σ H r => fapp_run hcold hK r
end
end Q

set_option maxHeartbeats 1000000
namespace Q
open PySem PySem.Spec L2
open PyProof.Rows hiding St

/-! ## for x in a list of one's own that the body does not see -/
theorem SqT.non {K : PySem.W.Frag} {H H' : Hp} {a : Addr} {xs : List V} (e : ∀ b o, H b = some o → ¬ MutA H b → H' b = some o) (h : SqT K H a xs) : SqT K H' a xs := by
  have no : ∀ b o, H b = some o → (∀ ys, o ≠ .lst ys) → (∀ ys, o ≠ .dK ys) → (∀ ys, o ≠ .dT ys) → ¬ MutA H b := fun b o eb h1 h2 h3 m => by
    rcases m with ⟨ys, q⟩ | ⟨ys, q⟩ | ⟨ys, q⟩ <;> rw [eb] at q <;> cases q
    · exact h1 _ rfl
    · exact h2 _ rfl
    · exact h3 _ rfl
  rcases h with (h | ⟨o, h⟩) | h
  · exact .inl (.inl (e _ _ h (no _ _ h (fun _ z => nomatch z) (fun _ z => nomatch z) fun _ z => nomatch z)))
  · exact .inl (.inr ⟨o, e _ _ h (no _ _ h (fun _ z => nomatch z) (fun _ z => nomatch z) fun _ z => nomatch z)⟩)
  · exact .inr h
theorem rep_flat {K : PySem.W.Frag} {H H' : Hp} {U U' : Addr → Prop} {d : D} {v : V} {L : List Addr} (f : flatD d = true) (h : rep K H U d v L) : rep K H' U' d v [] := by
  cases d with
  | non => exact ⟨h.1, rfl⟩
  | bl _ => exact ⟨h.1, rfl⟩
  | int _ => exact ⟨h.1, rfl⟩
  | str _ => exact ⟨h.1, h.2.1, rfl⟩
  | _ => cases f
theorem reps_flat {K : PySem.W.Frag} {H H' : Hp} {U U' : Addr → Prop} : ∀ {ds : List D} {vs : List V} {L : List Addr}, ds.all flatD = true → reps K H U ds vs L → reps K H' U' ds vs []
  | [], vs, L, _, h => ⟨h.1, rfl⟩
  | d :: r, vs, L, f, h => by
    obtain ⟨v, vr, L1, L2, e, _, h1, h2⟩ := h
    rw [List.all_cons, Bool.and_eq_true] at f
    exact ⟨v, vr, [], [], e, rfl, rep_flat f.1 h1, reps_flat f.2 h2⟩
theorem rep_flI {K : PySem.W.Frag} {H H' : Hp} {U U' : Addr → Prop} {d : D} {v : V} {L : List Addr} (e : ∀ b o, H b = some o → ¬ MutA H b → H' b = some o) (f : flI d = true) (h : rep K H U d v L) : rep K H' U' d v [] := by
  cases d with
  | tup ds =>
    obtain ⟨a, vs, e1, q, r⟩ := h
    exact ⟨a, vs, e1, SqT.non e q, reps_flat f r⟩
  | non => exact rep_flat f h
  | bl _ => exact rep_flat f h
  | int _ => exact rep_flat f h
  | str _ => exact rep_flat f h
  | _ => cases f
theorem reps_flI {K : PySem.W.Frag} {H H' : Hp} {U U' : Addr → Prop} (e : ∀ b o, H b = some o → ¬ MutA H b → H' b = some o) : ∀ {ds : List D} {vs : List V} {L : List Addr}, ds.all flI = true → reps K H U ds vs L → reps K H' U' ds vs []
  | [], vs, L, _, h => ⟨h.1, rfl⟩
  | d :: r, vs, L, f, h => by
    obtain ⟨v, vr, L1, L2, e1, _, h1, h2⟩ := h
    rw [List.all_cons, Bool.and_eq_true] at f
    exact ⟨v, vr, [], [], e1, rfl, rep_flI e f.1 h1, reps_flI e f.2 h2⟩
theorem rep_flNil {K : PySem.W.Frag} {H : Hp} {U : Addr → Prop} {d : D} {v : V} {L : List Addr} (f : flI d = true) (h : rep K H U d v L) : L = [] := by
  cases d with
  | tup ds =>
    obtain ⟨a, vs, e1, q, r⟩ := h
    have : ∀ {ds : List D} {vs : List V} {L : List Addr}, ds.all flatD = true → reps K H U ds vs L → L = [] := by
      intro ds
      induction ds with
      | nil => intro vs L _ h; exact h.2
      | cons d r ih =>
        intro vs L f h
        obtain ⟨v, vr, L1, L2, _, e2, h1, h2⟩ := h
        rw [List.all_cons, Bool.and_eq_true] at f
        rw [e2, ih f.2 h2, flatN f.1 h1]; rfl
    exact this f r
  | non => exact flatN (show flatD _ = true from rfl) h
  | bl _ => exact flatN (show flatD _ = true from rfl) h
  | int _ => exact flatN (show flatD _ = true from rfl) h
  | str _ => exact flatN (show flatD _ = true from rfl) h
  | _ => cases f
theorem reps_flNil {K : PySem.W.Frag} {H : Hp} {U : Addr → Prop} : ∀ {ds : List D} {vs : List V} {L : List Addr}, ds.all flI = true → reps K H U ds vs L → L = []
  | [], vs, L, _, h => h.2
  | d :: r, vs, L, f, h => by
    obtain ⟨v, vr, L1, L2, _, e2, h1, h2⟩ := h
    rw [List.all_cons, Bool.and_eq_true] at f
    rw [e2, rep_flNil f.1 h1, reps_flNil f.2 h2]; rfl
/-- the name i is hidden, it stays -/
def Gx.pin (G : Gx) (i : Nat) (v : V) : Gx := { G with hot := some (i, v) }
theorem SE.hide {G : Gx} {U : Addr → Prop} {Lf : Own} {H : Hp} {σ : St} {env : Env} {i : Nat} {v : V} (h : SE G U Lf H σ env) (e : σ[i]? = some (some v)) : SE (G.pin i v) (fun b => U b ∨ b ∈ Lf i) (fun j => if j = i then [] else Lf j) H σ (env.set i none) := by
  have inn : ∀ {j b}, b ∈ (if j = i then [] else Lf j) → j ≠ i ∧ b ∈ Lf j := fun {j b} m => by
    split at m
    · cases m
    · rename_i n; exact ⟨n, m⟩
  refine ⟨by rw [List.length_set]; exact h.len, fun a u => ?_, fun j d e1 => ?_, fun j b m u => ?_, fun j k b m m' => h.dis j k b (inn m).2 (inn m').2, fun j => ?_, fun j b m => h.muta j b (inn m).2, fun j hj => ?_, fun q w e1 => ?_⟩
  · rcases u with u | u
    · exact h.dom a u
    · exact (h.muta i a u).ne
  · rw [List.getElem?_set] at e1
    split at e1
    · split at e1 <;> cases e1
    · rename_i hne
      obtain ⟨w, g1, g2⟩ := h.val j d e1
      refine ⟨w, g1, ?_⟩
      rw [if_neg (Ne.symm hne)]
      refine rep_set (fun a u => .inl ?_) g2
      rcases u with (u | u) | ⟨k, _, m⟩
      · exact .inl u
      · exact .inr ⟨i, rfl, u⟩
      · exact .inr ⟨k, rfl, (inn m).2⟩
  · obtain ⟨n, m⟩ := inn m
    rcases u with u | u
    · exact h.fro j b m u
    · exact n (h.dis j i b m u)
  · show (if j = i then ([] : List Addr) else Lf j).Nodup
    split
    · exact .nil
    · exact h.nod j
  · show (if j = i then ([] : List Addr) else Lf j) = []
    split
    · rfl
    · exact h.imm j hj
  · have e1 : some (i, v) = some (q, w) := e1
    cases e1
    exact e
theorem FrR.lift {Lf Lf' : Own} {H H' : Hp} {i : Nat} (f : FrR (fun j => if j = i then [] else Lf j) H Lf' H') : FrR Lf H Lf' H' := by
  have inn : ∀ {j b}, b ∈ (if j = i then [] else Lf j) → b ∈ Lf j := fun {j b} m => by
    split at m
    · cases m
    · exact m
  exact ⟨fun b o e n => f.keep b o e fun j m => n j (inn m), fun j b m => (f.from_ j b m).imp (fun ⟨k, w⟩ => ⟨k, inn w⟩) id⟩
theorem SE.less {G : Gx} {U : Addr → Prop} {Lf Lf' : Own} {H' : Hp} {σ' : St} {env' : Env} {i : Nat} {v : V} (hc : G.hot = none) (h : SE (G.pin i v) (fun b => U b ∨ b ∈ Lf i) Lf' H' σ' env') : SE G U Lf' H' σ' env' :=
  ⟨h.len, fun a u => h.dom a (.inl u), fun j d e => let ⟨w, g1, g2⟩ := h.val j d e; ⟨w, g1, rep_set (fun a u => .inl (u.imp .inl id)) g2⟩, fun j b m u => h.fro j b m (.inl u), h.dis, h.nod, h.muta, h.imm, fun q w e => by rw [hc] at e; cases e⟩
/-- seen again -/
theorem SE.show_ {G : Gx} {U : Addr → Prop} {Lf Lf' : Own} {H H' : Hp} {σ σ' : St} {env env' : Env} {i : Nat} {a : Addr} {vs : List V} {ds : List D} (hc : G.hot = none) (hM : G.M i = true) (h0 : SE G U Lf H σ env) (hl : ds.length ≤ lim) (hf : ds.all flI = true) (hla : H a = some (.lst vs)) (eL : Lf i = [a]) (hr : reps G.K H (UO U Lf allN) ds vs [])
    (f : FrR (fun j => if j = i then [] else Lf j) H Lf' H') (h : SE (G.pin i (.ref a)) (fun b => U b ∨ b ∈ Lf i) Lf' H' σ' env') : FrR Lf H (fun j => if j = i then Lf i else Lf' j) H' ∧ SE G U (fun j => if j = i then Lf i else Lf' j) H' σ' (env'.set i (some (.lst .w ds))) := by
  have inn : ∀ {j b}, b ∈ (if j = i then Lf i else Lf' j) → (j = i ∧ b ∈ Lf i) ∨ (j ≠ i ∧ b ∈ Lf' j) := fun {j b} m => by
    split at m
    · exact .inl ⟨by assumption, m⟩
    · exact .inr ⟨by assumption, m⟩
  have keep : ∀ b o, H b = some o → ¬ MutA H b → H' b = some o := fun b o e n => f.keep b o e fun j m => by
    split at m
    · cases m
    · exact n (h0.muta j b m)
  have ka : H' a = some (.lst vs) := f.keep a _ hla fun j m => by
    split at m
    · cases m
    · rename_i n
      exact n (h0.dis j i a m (by rw [eL]; exact List.mem_singleton_self a))
  have sub : ∀ b, UO U (fun j => if j = i then Lf i else Lf' j) allN b → UO (fun b => U b ∨ b ∈ Lf i) Lf' allN b := fun b u => by
    rcases u with u | ⟨j, _, m⟩
    · exact .inl (.inl u)
    · rcases inn m with ⟨_, m⟩ | ⟨_, m⟩
      · exact .inl (.inr m)
      · exact .inr ⟨j, rfl, m⟩
  refine ⟨⟨fun b o e n => f.lift.keep b o e n, fun j b m => ?_⟩, ⟨by rw [List.length_set]; exact h.len, fun a u => h.dom a (.inl u), fun j d e => ?_, fun j b m => ?_, fun j k b m m' => ?_, fun j => ?_, fun j b m => ?_, fun j hj => ?_, fun q w e => by rw [hc] at e; cases e⟩⟩
  · rcases inn m with ⟨_, m⟩ | ⟨_, m⟩
    · exact .inl ⟨i, m⟩
    · exact f.lift.from_ j b m
  · rw [List.getElem?_set] at e
    split at e
    · rename_i hij
      split at e
      · cases e
        subst hij
        refine ⟨.ref a, h.cold i (.ref a) rfl, ?_⟩
        rw [if_pos rfl, eL]
        exact ⟨a, vs, [], ⟨rfl, hl⟩, reps_flI keep hf hr, .inl ⟨rfl, ka, rfl⟩⟩
      · cases e
    · rename_i hne
      obtain ⟨w, g1, g2⟩ := h.val j d e
      refine ⟨w, g1, ?_⟩
      rw [if_neg (Ne.symm hne)]
      exact rep_set (fun b u => .inl (sub b u)) g2
  · rcases inn m with ⟨_, m⟩ | ⟨_, m⟩
    · exact h0.fro i b m
    · exact fun u => h.fro j b m (.inl u)
  · rcases inn m with ⟨e1, m⟩ | ⟨_, m⟩ <;> rcases inn m' with ⟨e2, m'⟩ | ⟨_, m'⟩
    · rw [e1, e2]
    · exact absurd (.inr m) (h.fro k b m')
    · exact absurd (.inr m') (h.fro j b m)
    · exact h.dis j k b m m'
  · show (if j = i then Lf i else Lf' j).Nodup
    split
    · exact h0.nod i
    · exact h.nod j
  · rcases inn m with ⟨_, m⟩ | ⟨_, m⟩
    · rw [eL, List.mem_singleton] at m
      exact .inl ⟨vs, by rw [m]; exact ka⟩
    · exact h.muta j b m
  · show (if j = i then Lf i else Lf' j) = []
    split
    · rename_i e; rw [e, hM] at hj; cases hj
    · exact h.imm j hj
section
variable {X : Cx} {G : Gx} {N : Nat} {pos : Pos} {i : Nat}
theorem forh_run {p : P} {mb : List S} {De : Ends} {σ : St} {H : Hp} (hc : G.hot = none) (hK : G.K = X.K) (hMi : G.M i = true) (hq : ∀ j ∈ slots p, i ≠ j) (hM : ∀ j ∈ slots p, G.M j = false) (r : tS G N (.forh p i mb) De σ H) :
    tFor (iList X.K (tPa G i [])) (tG X.K p) (fun D σ H => ∃ v, tSs (G.pin i v) N mb D σ H) De σ H := by
  obtain ⟨U, Lf, env, h, r⟩ := r
  have r : RSok G U Lf H (match env[i]? with
    | some (some (.lst .w ds)) => if ds.all flI then (loopL (fun d env => (bindP p d env).s env fun env' => evSs G.C N mb env') ds (env.set i none)).b fun env' => .ok (env'.set i (some (.lst .w ds))) .nx else .bad
    | _ => .bad) De := r
  split at r
  · rename_i ds e
    split at r
    · rename_i hf
      obtain ⟨vi, i1, i2⟩ := h.val i _ e
      obtain ⟨a, rfl, _⟩ := top_at (show Top (.lst .w ds) from trivial) i2
      obtain ⟨vs, L', hl, hla, hr, eL⟩ := rep_lstw i2
      have eN := reps_flNil hf hr
      subst eN
      have vl := reps_length hr
      generalize hff : (fun d env => (bindP p d env).s env fun env' => evSs G.C N mb env') = ff at r
      let De1 : Ends := { nx := De.nx, rt := De.rt, bk := fun _ _ => False, ct := fun _ _ => False }
      have r1 : RSok (G.pin i (.ref a)) (fun b => U b ∨ b ∈ Lf i) (fun j => if j = i then [] else Lf j) H (loopL ff ds (env.set i none)) De1 := by
        have noF : ∀ (ds : List D) (env0 : Env), (∀ env', loopL ff ds env0 ≠ .ok env' .bk) ∧ ∀ env', loopL ff ds env0 ≠ .ok env' .ct := by
          intro ds
          induction ds with
          | nil => intro env0; exact ⟨(fun _ z => by cases z), fun _ z => by cases z⟩
          | cons d r ih =>
            intro env0
            show (∀ env', (match ff d env0 with
              | .ok env' .nx => loopL ff r env'
              | .ok env' .ct => loopL ff r env'
              | .ok env' .bk => .ok env' .nx
              | x => x) ≠ .ok env' .bk) ∧ ∀ env', (match ff d env0 with
              | .ok env' .nx => loopL ff r env'
              | .ok env' .ct => loopL ff r env'
              | .ok env' .bk => .ok env' .nx
              | x => x) ≠ .ok env' .ct
            cases ff d env0 with
            | bad => exact ⟨(fun _ z => by cases z), fun _ z => by cases z⟩
            | exc _ _ => exact ⟨(fun _ z => by cases z), fun _ z => by cases z⟩
            | ok env2 fl => cases fl with
              | nx => exact ih env2
              | ct => exact ih env2
              | bk => exact ⟨(fun _ z => by cases z), fun _ z => by cases z⟩
              | rt _ => exact ⟨(fun _ z => by cases z), fun _ z => by cases z⟩
        obtain ⟨no1, no2⟩ := noF ds (env.set i none)
        generalize loopL ff ds (env.set i none) = x at r no1 no2
        cases x with
        | bad => exact r
        | exc x env' => exact fun σ' H' Lf' f s => (show nxOk G U Lf H env' fun σ' H' => Exs G σ' H' x from r) σ' H' Lf' f.lift (s.less hc)
        | ok env' fl =>
          cases fl with
          | bk => exact absurd rfl (no1 env')
          | ct => exact absurd rfl (no2 env')
          | rt d =>
            have r : rtOk G.K U Lf H d De.rt := r
            intro v H' L kp im nd rr
            have inn : ∀ {j b}, b ∈ (if j = i then [] else Lf j) → b ∈ Lf j := fun {j b} m => by
              split at m
              · cases m
              · exact m
            exact r v H' L (fun b o e n => kp b o e fun j m => n j (inn m)) (fun b hb => (im b hb).imp (fun ⟨j, m⟩ => ⟨j, inn m⟩) id) nd (rep_set (fun a u => .inl (u.imp .inl id)) rr)
          | nx =>
            have r : nxOk G U Lf H (env'.set i (some (.lst .w ds))) De.nx := r
            intro σ' H' Lf' f s
            obtain ⟨q1, q2⟩ := SE.show_ hc hMi h hl hf hla eL hr f s
            exact r σ' H' _ q1 q2
      have h0 := h.hide i1
      have aoff : ∀ j, a ∉ (fun j => if j = i then [] else Lf j) j := fun j m => by
        dsimp only at m
        split at m
        · cases m
        · rename_i n; exact n (h.dis j i a m (by rw [eL]; exact List.mem_singleton_self a))
      have mutL : ∀ j b, b ∈ (fun j => if j = i then [] else Lf j) j → MutA H b := fun j b m => h0.muta j b m
      refine ⟨_, env, [], .ref a, .ref a, h.dom' _, h.read allN, rfl, i1, rfl, fun H1 s => ⟨a, rfl, ⟨vs, .of (s _ _ hla)⟩, ?_⟩⟩
      refine ⟨fun j m σ' H' => m = ds.length - j ∧ j ≤ ds.length ∧ ∃ Lf' env', SE (G.pin i (.ref a)) (fun b => U b ∨ b ∈ Lf i) Lf' H' σ' env' ∧ FrR (fun j => if j = i then [] else Lf j) H Lf' H' ∧ RSok (G.pin i (.ref a)) (fun b => U b ∨ b ∈ Lf i) Lf' H' (loopL ff (ds.drop j) env') De1,
        ⟨ds.length, rfl, Nat.zero_le _, _, _, h0.same s, .of_same s, RSok.mono (.of_same s) r1⟩, ?_⟩
      rintro j m σ2 H2 ⟨rfl, hj, Lf2, env2, h2, fr, q2⟩
      have ka : H2 a = some (.lst vs) := fr.keep a _ hla aoff
      by_cases hlt : j < ds.length
      · obtain ⟨xv, exv⟩ : ∃ xv, vs[j]? = some xv := ⟨vs[j], List.getElem?_eq_getElem (by omega)⟩
        refine .inr ⟨⟨vs, xv, .of ka, exv⟩, fun σ' H' => j + 1 ≤ ds.length ∧ ∃ Lf' env', SE (G.pin i (.ref a)) (fun b => U b ∨ b ∈ Lf i) Lf' H' σ' env' ∧ FrR (fun j => if j = i then [] else Lf j) H Lf' H' ∧ RSok (G.pin i (.ref a)) (fun b => U b ∨ b ∈ Lf i) Lf' H' (loopL ff (ds.drop (j + 1)) env') De1,
          fun σ' H' z => ⟨_, by omega, rfl, z⟩, fun x3 H3 y => ?_⟩
        obtain ⟨eH, y⟩ := y
        have eH : H3 = H2 := eH
        subst eH
        have ex := y vs (.of ka)
        rw [List.drop_eq_getElem_cons hlt] at q2
        have hr3 : rep G.K H3 (UO (fun b => U b ∨ b ∈ Lf i) Lf2 allN) ds[j] x3 [] := by
          have hfj : flI ds[j] = true := List.all_eq_true.mp hf _ (List.getElem_mem hlt)
          obtain ⟨w, g1, g2⟩ := reps_get0 hr (i := j) (d := ds[j]) (List.getElem?_eq_getElem hlt)
          have : w = x3 := by rw [g1] at ex; exact Option.some.inj ex
          subst this
          exact rep_flI (fun b o e n => fr.keep b o e fun k m => n (mutL k b m)) hfj g2
        refine ⟨UO (fun b => U b ∨ b ∈ Lf i) Lf2 allN, ds[j], by rw [← hK]; exact rep_sh _ _ _ (fun _ m => absurd m (List.not_mem_nil)) hr3, ?_⟩
        subst hff
        have q3 : RSok (G.pin i (.ref a)) (fun b => U b ∨ b ∈ Lf i) Lf2 H3 (match (bindP p ds[j] env2).s env2 (fun env' => evSs G.C N mb env') with
          | .ok env' .nx => loopL (fun d env => (bindP p d env).s env fun env' => evSs G.C N mb env') (ds.drop (j + 1)) env'
          | .ok env' .ct => loopL (fun d env => (bindP p d env).s env fun env' => evSs G.C N mb env') (ds.drop (j + 1)) env'
          | .ok env' .bk => .ok env' .nx
          | x => x) De1 := q2
        rw [bindP_unpk] at q3
        cases eu : unpk p ds[j] with
        | none => rw [eu] at q3; exact q3.elim
        | some us =>
        rw [eu] at q3
        intro ws rvs
        have h3 := h2.setV (G := G.pin i (.ref a)) (fun k hk q w e => by have e : some (i, V.ref a) = some (q, w) := e; cases e; exact hq k hk) hM (by rw [show (G.pin i (.ref a)).K = X.K from hK]; exact rvs)
        refine ⟨.ref a, _, Lf2, _, h3, ?_⟩
        dsimp only [R.s] at q3
        show RSok (G.pin i (.ref a)) _ Lf2 H3 (evSs G.C N mb _) _
        generalize evSs G.C N mb _ = r2 at q3
        cases r2 with
        | bad => exact q3
        | exc x env2 => exact q3
        | ok env2 fl =>
          cases fl with
          | nx => exact fun σ' H' Lf' g s' => ⟨hlt, Lf', env2, s', fr.trans g, RSok.mono g q3⟩
          | ct => exact fun σ' H' Lf' g s' => ⟨hlt, Lf', env2, s', fr.trans g, RSok.mono g q3⟩
          | bk => exact q3
          | rt d => exact q3
      · have e : j = ds.length := by omega
        subst e
        rw [List.drop_length] at q2
        exact .inl ⟨⟨vs, .of ka, by omega⟩, (show nxOk (G.pin i (.ref a)) _ Lf2 H2 env2 De.nx from q2) σ2 H2 Lf2 .refl h2⟩
    · exact r.elim
  · exact r.elim
theorem sims_forh {tg iter : Expr} {body : List Stmt} {p : P} {mb : List S} (hcold : G.hot = none) (hK : G.K = X.K) (hMi : G.M i = true) (hq : ∀ j ∈ slots p, i ≠ j) (hM : ∀ j ∈ slots p, G.M j = false) (hp : PassesOwn (model X.prog X.w) X.A X.env X.xe) (hc : X.calm = true) (ho : PE X iter (tPa G i [])) (hg : PG X tg (tG X.K p))
    (hb : ∀ v, PSs X body (tSs (G.pin i v) N mb)) (hs : ∀ x, foldedSetIterable iter X.env x = pure x) : PS X (.For tg iter body [] pos) (tS G N (.forh p i mb)) :=
  PS.imp (ps_for hp hc (pi_list ho) hg (show PSs X body (fun D σ H => ∃ v, tSs (G.pin i v) N mb D σ H) from ⟨fun pins s σ H D I ⟨v, h⟩ => (hb v).run pins s σ H D I h⟩) hs) fun De σ H r => forh_run hcold hK hMi hq hM r
end
end Q

set_option maxHeartbeats 1000000
namespace Q
open PySem PySem.Spec L2
open PyProof.Rows hiding St

/-! ## defs -/
def Gx.w (G : Gx) (E : XK) : Gx := { G with W := fun c dd _ H' => E c dd H' }
theorem startE_get {n : Nat} {ds : List D} {i : Nat} {d : D} (h : (startE n ds)[i]? = some (some d)) : ds[i]? = some d := by
  unfold startE at h
  rw [List.getElem?_append] at h
  split at h
  · rw [List.getElem?_map] at h
    cases e : ds[i]? with
    | none => rw [e] at h; cases h
    | some x => rw [e] at h; cases h; rfl
  · rw [List.getElem?_replicate] at h
    split at h <;> cases h
theorem start_get {N : List Str} {vs : List V} {i : Nat} {v : V} (h : vs[i]? = some v) : (L2.start N vs)[i]? = some (some v) := by
  unfold L2.start
  rw [List.getElem?_append_left (by rw [List.length_map]; exact (List.getElem?_eq_some_iff.mp h).1), List.getElem?_map, h]
  rfl
theorem SE.start {G : Gx} (hc : G.hot = none) {U : Addr → Prop} {H : Hp} {N : List Str} {ds : List D} {vs : List V} (hd : Dom H U) (r : reps G.K H U ds vs []) : SE G U (fun _ => []) H (L2.start N vs) (startE N.length ds) := by
  have hl := reps_length r
  refine ⟨?_, hd, fun i d e => ?_, (fun i b m _ => nomatch m), (fun i j b m _ => nomatch m), (fun i => List.nodup_nil), (fun i b m => nomatch m), fun i _ => rfl, fun q w e => by rw [hc] at e; cases e⟩
  · unfold startE L2.start
    rw [List.length_append, List.length_append, List.length_map, List.length_map, List.length_replicate, List.length_replicate, hl]
  · obtain ⟨v, h1, h2⟩ := reps_get0 r (startE_get e)
    exact ⟨v, start_get h1, rep_set (fun a u => .inl (u.elim id fun ⟨_, _, m⟩ => nomatch m)) h2⟩
theorem fn_ok {P : Program} {w : World} {mg : Str → Option Value} {base : Heap} {x qual : Str} {params : Arguments} {body : List Stmt} {scope : Scope} {f : Addr} {fd : FuncData} {N ps : List Str} {k fu : Nat} {G : Gx} {ms : List S} (hcold : G.hot = none)
    (F : FunD G.K x qual params body scope [] [] f fd) (Sc : FnScope N ps scope)
    (hb : ∀ (cdv : Value) (A : Around) (outer : List PySem.Env) (s : Shared) (H : Hp) (E : XK), Room k (A.deeper (envOfC qual scope s.heap.objs.size f cdv)) → PSs (cxOf (L2.CX P w) P w G.K mg base N qual scope f cdv A outer s H E) body (tSs (G.w E) fu ms)) :
    FnOk P w G.K mg base (L2.CX P w) (k + 1) f fd ps (spM G.K G.xr (runD G.C fu ⟨ps.length, N.length, ms⟩) ps.length) := by
  refine F.ok Sc (fun vs H Q E h => h.1) fun cdv A outer s H vs Q E hr h => ⟨_, hb cdv A outer s H E hr, ?_⟩
  obtain ⟨hl, U, ds, hd, r, h⟩ := h
  refine ⟨U, fun _ => [], startE N.length ds, SE.start (G := G.w E) hcold hd r, ?_⟩
  have hds : ds.length = ps.length := (reps_length r).symm.trans hl
  unfold runD at h
  rw [if_pos hds] at h
  dsimp only at h
  show RSok (G.w E) U _ H (evSs G.C fu ms (startE N.length ds)) _
  have same : ∀ {Lf' : Own} {H' : Hp}, FrR (fun _ => []) H Lf' H' → Same H H' := fun f b o e => f.keep b o e fun j m => nomatch m
  generalize evSs G.C fu ms (startE N.length ds) = res at h
  cases res with
  | bad => exact h.elim
  | exc x env => exact fun σ' H' Lf' f _ c dd H2 s2 q => h c dd H2 ((same f).trans s2) q
  | ok env fl =>
    cases fl with
    | nx => exact fun σ' H' Lf' f _ => (show Ok1 G.K H U .non Q from h) .non H' [] (same f) .nil ⟨rfl, rfl⟩
    | rt d => exact fun v H' L kp fr n rr => (show Ok1 G.K H U d Q from h) v H' L (fun b o e => kp b o e fun j m => nomatch m) ⟨n, fun b hb => (fr b hb).elim (fun ⟨j, m⟩ => nomatch m) id⟩ rr
    | bk => exact h.elim
    | ct => exact h.elim
end Q

set_option maxHeartbeats 1000000
namespace Q
open PySem PySem.Spec L2
open PyProof.Rows hiding St

/-! ## return (a, b): what a name holds alone goes with it -/
def noN : Nat → Bool := fun _ => false
/-- the values of the parts, and what is theirs alone -/
def Ret (G : Gx) (U : Addr → Prop) (Lf : Own) (H : Hp) (is : List Nat) (ds : List D) (Q : List V → Hp → Prop) : Prop := ∀ vs H' L, Same H H' → (∀ b ∈ L, (∃ j ∈ is, b ∈ Lf j) ∨ H b = none) → L.Nodup → reps G.K H' (Or2 (UO U Lf allN) L) ds vs L → Q vs H'
def tRe (G : Gx) (rs : List Re) : TA := fun σ H Q => ∃ U Lf env, SE G U Lf H σ env ∧ (mvs rs).Nodup ∧ Res (G.z noN) σ H (evr G.C env rs) fun ds => Ret G U Lf H (mvs rs) ds Q
section
variable {G : Gx} {H H1 : Hp} {U : Addr → Prop} {Lf : Own} {σ : St} {env : Env}
theorem SE.grow {L : List Addr} (h : SE G U Lf H σ env) (s : Same H H1) (f : Fresh H L) (t : ∀ a ∈ L, H1 a ≠ none) : SE G (Or2 U L) Lf H1 σ env := by
  refine ⟨h.len, fun a u => ?_, fun i d e => ?_, fun i b m u => ?_, h.dis, h.nod, fun i b m => (h.muta i b m).same' s, h.imm, h.cold⟩
  · rcases u with u | u
    · exact (h.dom.same s) a u
    · exact t a u
  · obtain ⟨v, h1, h2⟩ := h.val i d e
    refine ⟨v, h1, rep_same s (rep_set (fun a u => ?_) h2)⟩
    rcases u with (u | u) | u
    · exact .inl (.inl u)
    · exact .inr (f.2 a u)
    · exact .inl (.inr u)
  · rcases u with u | u
    · exact h.fro i b m u
    · have := (h.muta i b m).ne
      exact this (f.2 b u)
theorem re_nil {Q : List V → Hp → Prop} (h : tRe G [] σ H Q) : Q [] H := by
  obtain ⟨U, Lf, env, h, _, r⟩ := h
  exact (show Ret G U Lf H [] [] Q from r) [] H [] (Same.refl H) (fun b hb => nomatch hb) .nil ⟨rfl, rfl⟩
theorem re_e {m : E} {rs : List Re} {Q : List V → Hp → Prop} (h : tRe G (.e m :: rs) σ H Q) : tM (G.z noN) m σ H fun x H1 => tRe G rs σ H1 fun xs H2 => Q (x :: xs) H2 := by
  obtain ⟨U, Lf, env, h, nd, r⟩ := h
  have r' : Res (G.z noN) σ H ((ev G.C m env).b fun x => (evr G.C env rs).b fun xs => .ok (x :: xs)) fun ds => Ret G U Lf H (mvs rs) ds Q := r
  refine tM_then (h.dom' _) (h.read noN) r'.bind fun d v H1 L1 q s f rr => ?_
  have rr : rep G.K H1 (Or2 (UO U Lf allN) L1) d v L1 := rr
  have il := rep_in _ _ _ rr
  have q' : Res (G.z noN) σ H ((evr G.C env rs).b fun xs => .ok (d :: xs)) fun ds => Ret G U Lf H (mvs rs) ds Q := q
  refine ⟨Or2 U L1, Lf, env, h.grow s f il, nd, Res.same s (q'.bind.mono fun ds _ q => ?_)⟩
  have q : Ret G U Lf H (mvs rs) (d :: ds) Q := q
  intro vs H2 L2 s2 i2 n2 r2
  have off : ∀ a ∈ L1, a ∉ L2 := fun a ha hb => by
    rcases i2 a hb with ⟨j, _, m⟩ | z
    · exact (h.muta j a m).ne (f.2 a ha)
    · exact il a ha z
  refine q (v :: vs) H2 (L1 ++ L2) (s.trans s2) (fun b hb => ?_) (List.nodup_append.mpr ⟨f.1, n2, fun a ha b hb e => off a ha (e ▸ hb)⟩) ⟨v, vs, L1, L2, rfl, rfl, ?_, ?_⟩
  · rcases List.mem_append.mp hb with z | z
    · exact .inr (f.2 b z)
    · rcases i2 b z with w | w
      · exact .inl w
      · exact .inr (s.free w)
  · refine rep_same s2 (rep_set (fun a u => ?_) rr)
    rcases u with u | u
    · exact .inl (.inl u)
    · rcases List.mem_append.mp u with z | z
      · exact .inl (.inr z)
      · rcases i2 a z with ⟨j, _, m⟩ | w
        · exact .inl (.inl (.inr ⟨j, rfl, m⟩))
        · exact .inr w
  · refine reps_set (fun a u => ?_) r2
    rcases u with (u | ⟨j, e, m⟩) | u
    · exact .inl (.inl (.inl (.inl u)))
    · exact .inl (.inl (.inr ⟨j, e, m⟩))
    · rcases List.mem_append.mp u with z | z
      · exact .inl (.inl (.inl (.inr z)))
      · exact .inl (.inr z)
theorem re_m {i : Nat} {rs : List Re} {Q : List V → Hp → Prop} (h : tRe G (.mv i :: rs) σ H Q) : ∃ v, σ[i]? = some (some v) ∧ tRe G rs σ H fun xs H2 => Q (v :: xs) H2 := by
  obtain ⟨U, Lf, env, h, nd, r⟩ := h
  have nd2 := List.nodup_cons.mp (show (i :: mvs rs).Nodup from nd)
  have r' : Res (G.z noN) σ H ((look env i).b fun x => (evr G.C env rs).b fun xs => .ok (x :: xs)) fun ds => Ret G U Lf H (i :: mvs rs) ds Q := r
  unfold look at r'
  cases e : env[i]? with
  | none => rw [e] at r'; exact r'.elim
  | some o =>
    cases o with
    | none => rw [e] at r'; exact r'.elim
    | some d =>
      rw [e] at r'
      have q' : Res (G.z noN) σ H ((evr G.C env rs).b fun xs => .ok (d :: xs)) fun ds => Ret G U Lf H (i :: mvs rs) ds Q := r'
      obtain ⟨v, h1, h2⟩ := h.val i d e
      refine ⟨v, h1, U, Lf, env, h, nd2.2, q'.bind.mono fun ds _ q => ?_⟩
      have q : Ret G U Lf H (i :: mvs rs) (d :: ds) Q := q
      intro vs H2 L2 s2 i2 n2 r2
      have off : ∀ a ∈ Lf i, a ∉ L2 := fun a ha hb => by
        rcases i2 a hb with ⟨j, hj, m⟩ | z
        · have := h.dis i j a ha m
          subst this
          exact nd2.1 hj
        · exact (h.muta i a ha).ne z
      refine q (v :: vs) H2 (Lf i ++ L2) s2 (fun b hb => ?_) (List.nodup_append.mpr ⟨h.nod i, n2, fun a ha b hb e => off a ha (e ▸ hb)⟩) ⟨v, vs, Lf i, L2, rfl, rfl, ?_, ?_⟩
      · rcases List.mem_append.mp hb with z | z
        · exact .inl ⟨i, List.mem_cons_self, z⟩
        · exact (i2 b z).imp (fun ⟨j, hj, m⟩ => ⟨j, List.mem_cons_of_mem _ hj, m⟩) id
      · refine rep_same s2 (rep_set (fun a u => ?_) h2)
        rcases u with u | u
        · exact .inl u
        · rcases List.mem_append.mp u with z | z
          · exact .inl (.inr ⟨i, rfl, z⟩)
          · rcases i2 a z with ⟨j, _, m⟩ | w
            · exact .inl (.inr ⟨j, rfl, m⟩)
            · exact .inr w
      · refine reps_set (fun a u => ?_) r2
        rcases u with u | u
        · exact .inl (.inl u)
        · rcases List.mem_append.mp u with z | z
          · exact .inl (.inl (.inr ⟨i, rfl, z⟩))
          · exact .inl (.inr z)
end
section
variable {X : Cx} {G : Gx} {N : Nat} {pos : Pos}
theorem pare_nil : PA X [] (tRe G []) := pa_nil.imp fun σ H Q h => re_nil h
theorem pare_e {e : Expr} {es : List Expr} {m : E} {rs : List Re} (he : PE X e (tM (G.z noN) m)) (h : PA X es (tRe G rs)) (hs : starEach (e :: es) X.env = (false, eval e X.env) :: starEach es X.env) : PA X (e :: es) (tRe G (.e m :: rs)) :=
  (pa_cons he h hs).imp fun σ H Q q => re_e q
theorem pare_m {x : Str} {p : Pos} {es : List Expr} {i : Nat} {rs : List Re} (hN : X.N[i]? = some x) (hv : Vis X.env.scope x) (hd : (x == ("__debug__" : Str)) = false) (hcd : (x == ("__classdict__" : Str)) = false) (h : PA X es (tRe G rs)) : PA X (.Name x p :: es) (tRe G (.mv i :: rs)) :=
  (pa_cons (pe_var hN hv hd hcd) h (by first | rfl | simp [starEach])).imp fun σ H Q q => re_m q
theorem evr_length {C : Nat → List D → R D} {env : Env} : ∀ {rs : List Re} {ds : List D}, evr C env rs = .ok ds → ds.length = rs.length
  | [], ds, h => by cases h; rfl
  | .e m :: r, ds, h => by
    have h : ((ev C m env).b fun x => (evr C env r).b fun xs => .ok (x :: xs)) = .ok ds := h
    obtain ⟨x, _, h⟩ := b_ok h
    obtain ⟨xs, h2, h⟩ := b_ok h
    cases h
    rw [List.length_cons, List.length_cons, evr_length h2]
  | .mv i :: r, ds, h => by
    have h : ((look env i).b fun x => (evr C env r).b fun xs => .ok (x :: xs)) = .ok ds := h
    obtain ⟨x, _, h⟩ := b_ok h
    obtain ⟨xs, h2, h⟩ := b_ok h
    cases h
    rw [List.length_cons, List.length_cons, evr_length h2]
theorem sims_rett {es : List Expr} {rs : List Re} {k} {p2 : Pos} (h : PA X es (tRe G rs)) (nd : (mvs rs).Nodup) (hl : rs.length ≤ 1000) : PS X (.Return (some (.Tuple es k p2)) pos) (tS G N (.rett rs)) := PS.imp (ps_ret (pe_tup h)) fun D σ H ⟨U, Lf, env, h, r⟩ => by
  have r : RSok G U Lf H ((evr G.C env rs).s env fun ds => .ok env (.rt (.tup ds))) D := r
  refine ⟨U, Lf, env, h, nd, (RSok.s noN h r).eq.mono fun ds _ ⟨e, q⟩ => ?_⟩
  have q : rtOk G.K U Lf H (.tup ds) D.rt := q
  intro vs H' L s i n rr
  have hle : ds.length ≤ 1000 := by rw [evr_length e]; exact hl
  refine ⟨by rw [reps_length rr]; exact small_line hle, fun p hp => ?_⟩
  have s2 := same_upd (o := HO.tup vs) hp
  refine q (.ref p) _ L (fun b o e _ => s2 _ _ (s _ _ e)) (fun b hb => (i b hb).imp (fun ⟨j, _, m⟩ => ⟨j, m⟩) id) n ⟨p, vs, ⟨rfl, Nat.le_trans hle (by decide)⟩, .of upd_same, ?_⟩
  exact reps_same s2 (reps_set (fun a u => .inl (u.imp .inl id)) rr)
end
end Q

set_option maxHeartbeats 1000000
namespace Q
open PySem PySem.Spec L2
open PyProof.Rows hiding St

/-! ## what a suite holds: isinstance -/
/-- isinstance(e, (c1, ..)), e the exception that the suite holds -/
def rIsET (K : PySem.W.Frag) (D a : Addr) : List V → Hp → VK → Prop := fun xs H Q => ∃ (tp : Addr) (cs : List V) (us : List Value) (b : Bool), xs = [.ref a, .ref tp] ∧ H tp = some (.tup cs) ∧ Paired ClsV cs us ∧ PySem.W.kitAny K (.ref D) us = some b ∧ Q (.bl b) H
theorem call_isET {X : Cx} {a D : Addr} {oe : Obj} {pn : List (Addr × Obj)} (C : ExcC X.K D) (hz : Zc (.ref D) none oe) (hf : ∃ vs, oe.data = .fields vs) : CallR (X.suite a ((a, oe) :: pn)) (.builtin "isinstance") (rIsET X.K D a) := by
  intro pins s σ H xs us Q I r h
  obtain ⟨tp, cs, ws, b, rfl, hT, k, e, q⟩ := h
  obtain ⟨u1, u2, rfl, r1, r2⟩ := vals2 r
  cases (show u2 = Value.ref tp from r2)
  cases (show u1 = Value.ref a from r1)
  obtain ⟨hget, _⟩ := I.pin (a, oe) (List.mem_append.mpr (.inl List.mem_cons_self))
  obtain ⟨vs, hv⟩ := hf
  have J : PySem.W.InstAt s.heap a oe D none := by
    obtain ⟨oc, od, oda, osl⟩ := oe
    obtain ⟨h1, h2⟩ := hz
    dsimp only at h1 h2 hv
    subst h1 h2 hv
    exact ⟨hget, rfl, rfl, trivial⟩
  obtain ⟨_, its, rv, o, h1, h2, n, h3⟩ := (show ObjOk X.prog X.w H s.heap tp (.tup cs) from I.hok tp _ hT)
  have e3 := ClsV.all k rv
  subst e3
  obtain ⟨oc, od, dt, sl⟩ := o
  simp only at h2 h3
  subst h2 h3
  exact PySem.W.kia_tup (PySem.W.handS_kitx_exc C.hg C.hk C.hs C.hd C.ha C.hn C.ht C.hm) I.kIn J h1 e (fun z => nomatch z) fun tk => ⟨.bl b, H, I.tok tk, rfl, q⟩
/-- a class that a name means -/
def ClsN (X : Cx) (y : Str) (v : V) (u : Value) : Prop := ClsV v u ∧ RelV v u ∧ (X.mg y = some u ∨ (X.mg y = none ∧ bootBuiltins y = some u ∧ y ≠ "__name__"))
/-- how isinstance tells of the exception at a -/
structure HotI (X : Cx) (a : Addr) (tbl : List (Str × Bool)) : Prop where
  ex : ∃ D, CallR X (.builtin "isinstance") (rIsE X.K D a) ∧ CallR X (.builtin "isinstance") (rIsET X.K D a) ∧ ∀ y b, (y, b) ∈ tbl → ∃ v u, ClsN X y v u ∧ PySem.W.kitOne X.K (.ref D) u = some b
section
variable {X : Cx} {G : Gx} {p pos : Pos} {a : Addr} {q : Nat} {tbl : List (Str × Bool)}
theorem pe_cls {y : Str} {v : V} {u : Value} {py : Pos} (hg : Gl X y) (h : ClsN X y v u) (hdb : (y == ("__debug__" : Str)) = false) : PE X (.Name y py) (tC v) := by
  obtain ⟨_, r, h | ⟨h1, h2, h3⟩⟩ := h
  · exact pe_glob hg h r hdb
  · exact pe_bltn hg h1 h2 r h3 hdb
theorem sim_isE {x n y : Str} {b : Bool} {pe py : Pos} (hi : HotI X a tbl) (hh : G.hot = some (q, .ref a)) (hN : X.N[q]? = some n) (hv : Vis X.env.scope n) (hb : (y, b) ∈ tbl) (hx : x = "isinstance") (hg : Gl X x) (hm : X.mg x = none) (hg2 : Gl X y)
    (hdn : (n == ("__debug__" : Str)) = false) (hcd : (n == ("__classdict__" : Str)) = false) (hdb : (x == ("__debug__" : Str)) = false) (hdb2 : (y == ("__debug__" : Str)) = false) : PE X (.Call (.Name x p) [.Name n pe, .Name y py] [] pos) (tM G (.lit (.bl b))) := by
  subst hx
  obtain ⟨D, h1, _, h3⟩ := hi.ex
  obtain ⟨v, u, hc, hk⟩ := h3 y b hb
  refine (pe_callB h1 hg hm (by decide +kernel) (pa_cons (pe_var hN hv hdn hcd) (pa_cons (pe_cls hg2 hc hdb2) pa_nil) rfl) (by decide +kernel) hdb rfl rfl).imp fun σ H Q ⟨U, env, hd, he, h⟩ => ?_
  exact ⟨.ref a, he.2.2 q _ hh, v, u, b, rfl, fun w r => hc.1.eq r, hk, (show Ok1 G.K H U (.bl b) Q from h) _ _ [] (Same.refl H) .nil ⟨rfl, rfl⟩⟩
/-- classes, one behind the other -/
def tVs (vs : List V) : TA := fun _ H Q => Q vs H
inductive ClsL (X : Cx) (D : Addr) : List Expr → List V → List Value → List Bool → Prop where
  | nil : ClsL X D [] [] [] []
  | cons {y : Str} {py : Pos} {es v vs u us b bs} (hg : Gl X y) (hdb : (y == ("__debug__" : Str)) = false) (h : ClsN X y v u) (k : PySem.W.kitOne X.K (.ref D) u = some b) (r : ClsL X D es vs us bs) : ClsL X D (.Name y py :: es) (v :: vs) (u :: us) (b :: bs)
theorem ClsL.pa {D : Addr} {es : List Expr} {vs : List V} {us : List Value} {bs : List Bool} (h : ClsL X D es vs us bs) : PA X es (tVs vs) ∧ Paired ClsV vs us ∧ PySem.W.kitAny X.K (.ref D) us = some (bs.any id) ∧ vs.length = es.length := by
  induction h with
  | nil => exact ⟨pa_nil.imp fun σ H Q q => q, .nil, rfl, rfl⟩
  | @cons y py es v vs u us b bs hg hdb h k r ih =>
    refine ⟨(pa_cons (pe_cls hg h hdb) ih.1 rfl).imp fun σ H Q q => q, .cons h.1 ih.2.1, kitAny_cons k (fun e => ?_) (fun e => ?_), by rw [List.length_cons, List.length_cons, ih.2.2.2]⟩
    · rw [e, ih.2.2.1]; rfl
    · rw [e]; rfl
theorem sim_isET {x n : Str} {es : List Expr} {bs : List Bool} {kk : Nat} {pe p2 : Pos} (hi : HotI X a tbl) (hh : G.hot = some (q, .ref a)) (hN : X.N[q]? = some n) (hv : Vis X.env.scope n)
    (hes : ∀ D, (∀ y b, (y, b) ∈ tbl → ∃ v u, ClsN X y v u ∧ PySem.W.kitOne X.K (.ref D) u = some b) → ∃ vs us, ClsL X D es vs us bs) (hl : es.length ≤ 1000) (hx : x = "isinstance") (hg : Gl X x) (hm : X.mg x = none)
    (hdn : (n == ("__debug__" : Str)) = false) (hcd : (n == ("__classdict__" : Str)) = false) (hdb : (x == ("__debug__" : Str)) = false) : PE X (.Call (.Name x p) [.Name n pe, .Tuple es kk p2] [] pos) (tM G (.lit (.bl (bs.any id)))) := by
  subst hx
  obtain ⟨D, _, h2, h3⟩ := hi.ex
  obtain ⟨vs, us, hc⟩ := hes D h3
  obtain ⟨p1, p2, p3, p4⟩ := hc.pa
  refine (pe_callB h2 hg hm (by decide +kernel) (pa_cons (pe_var hN hv hdn hcd) (pa_cons (pe_tup p1) pa_nil) rfl) (by decide +kernel) hdb rfl rfl).imp fun σ H Q ⟨U, env, hd, he, h⟩ => ?_
  exact ⟨.ref a, he.2.2 q _ hh, by rw [p4]; exact small_line hl, fun pp hp => ⟨pp, vs, us, _, rfl, upd_same, p2, p3, (show Ok1 G.K H U (.bl (bs.any id)) Q from h) _ _ [] (same_upd hp) .nil ⟨rfl, rfl⟩⟩⟩
end

/-! ## raise -/
structure ExcR (X : Cx) (G : Gx) (x : Str) (j : Nat) : Prop where
  ex : ∃ C, X.mg x = some (.ref C) ∧ PySem.W.excIn X.K C He.veBase "ValueError.__new__" = true ∧ PySem.W.keepIn X.K (.ref C) = true ∧ PySem.W.subIn X.K (.ref C) (.type "BaseException") = some true ∧ PySem.W.typeIn X.K (.ref C) = some (.type "type") ∧ ∀ H, G.xr ⟨j, none⟩ (.ref C) none H
theorem sims_raise {X : Cx} {G : Gx} {N : Nat} {x m : Str} {j k : Nat} {p p2 cp pos : Pos} (hc : X.calm = true) (tk : Takes X G.W) (h : ExcR X G x j) (hg : Gl X x) (hdb : (x == ("__debug__" : Str)) = false) : PS X (.Raise (some (.Call (.Name x p) [.Constant (.str m) k p2] [] cp)) none pos) (tS G N (.raise j none)) := by
  obtain ⟨C, h1, h2, h3, h4, h5, h6⟩ := h.ex
  refine PS.imp (ps_raise hc tk (pmk_own F.excBase_ValueError h2 h1 h3 (raises_own h4 h5) hg hdb)) fun D σ H ⟨U, Lf, env, h, r⟩ => ?_
  have r : nxOk G U Lf H env fun σ' H' => Exs G σ' H' ⟨j, none⟩ := r
  exact r σ H Lf .refl h _ _ H (Same.refl H) (h6 H)
/-! ## try .. except, whose suite ends by return -/
def tH (G : Gx) (as : List (Nat × E)) (m : E) : TS := fun D σ H => ∃ U env d, Dom H U ∧ RepE G H U σ env ∧ hev G.C as m env = .ok d ∧ Ok1 G.K H U d D.rt
section
variable {X : Cx} {G : Gx} {pos : Pos} {as : List (Nat × E)} {m me : E}
theorem simh_ret {e : Expr} (he : PE X e (tM (G.z allN) m)) : PSs X [.Return (some e) pos] (tH (G.z allN) [] m) := (pss_one (ps_ret he)).imp fun D σ H ⟨U, env, d, hd, hr, e1, k⟩ => by
  refine tM_then hd hr (k := fun d' => d' = d) ?_ fun d' v H1 L q s f rr => ?_
  · have e1 : ev G.C m env = .ok d := e1
    show Res _ σ H (ev G.C m env) _
    rw [e1]; rfl
  · subst q
    exact k v H1 L s f rr
theorem simh_retN : PSs X [.Return none pos] (tH (G.z allN) [] (.lit .non)) := (pss_one ps_retN).imp fun De σ H ⟨U, env, d, hd, hr, e1, k⟩ => by
  cases (show R.ok D.non = .ok d from e1)
  exact k .non H [] (Same.refl H) .nil ⟨rfl, rfl⟩
theorem simh_if {t : Expr} {a rest : List Stmt} {mt m1 mr : E} (ht : PT X t (tMt (G.z allN) mt)) (ha : PSs X a (tH (G.z allN) [] m1)) (hr : PSs X rest (tH (G.z allN) [] mr)) : PSs X (.If t a [] pos :: rest) (tH (G.z allN) [] (.ite mt m1 mr)) := (pss_cons (ps_if ht ha pss_nil) hr).imp fun De σ H ⟨U, env, d, hd, he, e1, k⟩ => by
  obtain ⟨b, e2, e3⟩ := b_ok (show ((asB (ev G.C mt env)).b fun t => if t then ev G.C m1 env else ev G.C mr env) = .ok d from e1)
  refine ⟨U, env, hd, he, ?_⟩
  show Res _ σ H (asB (ev G.C mt env)) _
  rw [e2]
  intro H1 s
  have k1 : Ok1 G.K H1 U d De.rt := fun v H' L s' f r => k v H' L (s.trans s') ⟨f.1, fun a ha => s.free (f.2 a ha)⟩ r
  cases b with
  | true => exact ⟨U, env, d, hd.same s, he.same s, e3, k1⟩
  | false => exact ⟨U, env, d, hd.same s, he.same s, e3, k1⟩
theorem simh_set {i : Nat} {x : Str} {e : Expr} {p2 : Pos} {rest : List Stmt} (hN : X.N.Nodup) (hi : X.N[i]? = some x) (hx : Loc X.env.scope x) (hM : G.M i = false) (hq : ∀ q v, G.hot = some (q, v) → q ≠ i) (he : PE X e (tM (G.z allN) me)) (hs : swapsWith e (some (.Name x p2)) pos.line X.env = pure false) (hf : X.fn x = true)
    (hr : PSs X rest (tH (G.z allN) as m)) : PSs X (.Assign [.Name x p2] e pos :: rest) (tH (G.z allN) ((i, me) :: as) m) := (pss_cons (ps_set hN hi hx he hs (.inl hf)) hr).imp fun D σ H ⟨U, env, d, hd, hr, e1, k⟩ => by
  obtain ⟨d1, e2, e3⟩ := b_ok (show ((ev G.C me env).b fun d => hev G.C as m (env.set i (some (sh d)))) = .ok d from e1)
  refine tM_then hd hr (k := fun d' => d' = d1) ?_ fun d' v H1 L q s f rr => ?_
  · show Res _ σ H (ev G.C me env) _
    rw [e2]; rfl
  · subst q
    have r2 : rep G.K H1 U (sh d') v [] := rep_sh d' v L (fun a ha u => hd a u (f.2 a ha)) (rep_set (fun a u => .inl (.inl u)) rr)
    exact ⟨U, _, d, hd.same s, RepE.set (hr.same s) hq hM r2, e3, fun v' H' L' s' f' r' => k v' H' L' (s.trans s') ⟨f'.1, fun a ha => s.free (f'.2 a ha)⟩ r'⟩
end
/-- another wish of exceptions -/
def Gx.wx (G : Gx) (W : WX) : Gx := { G with W := W }
def Gx.ht (G : Gx) (q : Option Nat) (a : Addr) : Gx := { G with W := fun _ _ _ _ => False, hot := q.map fun q => (q, .ref a) }
theorem SE.wx {G : Gx} {W : WX} {U : Addr → Prop} {Lf : Own} {H : Hp} {σ : St} {env : Env} (h : SE G U Lf H σ env) : SE (G.wx W) U Lf H σ env := ⟨h.len, h.dom, h.val, h.fro, h.dis, h.nod, h.muta, h.imm, h.cold⟩
theorem SE.unwx {G : Gx} {W : WX} {U : Addr → Prop} {Lf : Own} {H : Hp} {σ : St} {env : Env} (h : SE (G.wx W) U Lf H σ env) : SE G U Lf H σ env := ⟨h.len, h.dom, h.val, h.fro, h.dis, h.nod, h.muta, h.imm, h.cold⟩
/-- the slots when the handler begins -/
def hotS : Option Nat → Addr → St → St
  | none, _, σ => σ
  | some q, a, σ => σ.set q (some (.ref a))
/-- what the handler is told of -/
theorem hot_rep {G : Gx} {U : Addr → Prop} {Lf : Own} {H : Hp} {σ : St} {env : Env} {q : Option Nat} {as : List (Nat × E)} {a : Addr} (h : SE G U Lf H σ env) (ho : hOk q as env.length = true) :
    RepE ((G.ht q a).z allN) H (UO U Lf fun _ => false) (hotS q a σ) (offq q env) := by
  have hr := h.read allN
  cases q with
  | none => exact ⟨hr.1, hr.2.1, fun q v e => nomatch e⟩
  | some q =>
    have hlt : q < env.length := of_decide_eq_true (Bool.and_eq_true_iff.mp ho).1
    refine ⟨by show (env.set q none).length = (σ.set q (some (.ref a))).length; rw [List.length_set, List.length_set]; exact hr.1, fun i d e z => ?_, fun q' v e => ?_⟩
    · have e : (env.set q none)[i]? = some (some d) := e
      rw [List.getElem?_set] at e
      split at e
      · first
          | cases e
          | (split at e <;> cases e)
      · rename_i hne
        obtain ⟨v, g1, g2⟩ := hr.2.1 i d e z
        exact ⟨v, by show (σ.set q (some (.ref a)))[i]? = _; rw [List.getElem?_set_ne hne]; exact g1, g2⟩
    · have e : some (q, V.ref a) = some (q', v) := e
      cases e
      show (σ.set q (some (.ref a)))[q]? = _
      rw [List.getElem?_set, if_pos rfl, if_pos (by rw [← hr.1]; exact hlt)]
/-- what the two forms of a clause wish -/
theorem tryx_run {G : Gx} {N : Nat} {mb : List S} {j : Nat} {q : Option Nat} {as : List (Nat × E)} {m : E} {W : WX} {De : Ends} {σ : St} {H : Hp} (r : tS G N (.tryx mb j q as m) De σ H)
    (hW : ∀ (c : Value) (dd : Option Addr) (σ' : St) (H' : Hp), G.xr ⟨j, none⟩ c dd H' → (∀ a, H' a = none → tH ((G.ht q a).z allN) as m { nx := fun _ _ => False, rt := De.rt } (hotS q a σ') H') → W c dd σ' H') : tSs (G.wx W) N mb De σ H := by
  obtain ⟨U, Lf, env, h, r⟩ := r
  refine ⟨U, Lf, env, h.wx, ?_⟩
  have r : RSok G U Lf H ((evSs G.C N mb env).try_ fun x env' => if x.cls = j ∧ x.row = none ∧ hOk q as env'.length = true then (match hev G.C as m (offq q env') with
    | .ok d => .ok env' (.rt d)
    | _ => .bad) else .bad) De := r
  show RSok (G.wx W) U Lf H (evSs G.C N mb env) De
  generalize evSs G.C N mb env = res at r
  cases res with
  | bad => exact r
  | ok env' fl =>
    cases fl with
    | nx => exact fun σ' H' Lf' f s => (show nxOk G U Lf H env' De.nx from r) σ' H' Lf' f s.unwx
    | bk => exact fun σ' H' Lf' f s => (show nxOk G U Lf H env' De.bk from r) σ' H' Lf' f s.unwx
    | ct => exact fun σ' H' Lf' f s => (show nxOk G U Lf H env' De.ct from r) σ' H' Lf' f s.unwx
    | rt d => exact r
  | exc x env' =>
    intro σ' H' Lf' f s c dd H2 s2 xr
    have s := s.unwx
    have w : RSok G U Lf H (if x.cls = j ∧ x.row = none ∧ hOk q as env'.length = true then (match hev G.C as m (offq q env') with
      | .ok d => .ok env' (.rt d)
      | _ => .bad) else .bad) De := r
    clear r
    by_cases hh : x.cls = j ∧ x.row = none ∧ hOk q as env'.length = true
    · rw [if_pos hh] at w
      obtain ⟨h1, h2, h3⟩ := hh
      obtain ⟨xc, xw⟩ := x
      dsimp only at h1 h2
      subst h1 h2
      refine hW c dd σ' H2 xr fun a ha => ?_
      cases e : hev G.C as m (offq q env') with
      | bad => rw [e] at w; exact w.elim
      | exc _ => rw [e] at w; exact w.elim
      | ok d =>
        rw [e] at w
        have w : rtOk G.K U Lf H d De.rt := w
        have r2 := RSok.mono (De := De) (f.trans (.of_same s2)) (show RSok G U Lf H (.ok env' (.rt d)) De from w)
        have s3 := s.same s2
        refine ⟨_, _, d, s3.dom' _, hot_rep s3 h3, e, fun v H3 L s4 f4 rr => ?_⟩
        exact (show rtOk G.K U Lf' H2 d De.rt from r2) v H3 L (fun b o eb _ => s4 b o eb) (fun b hb => .inr (f4.2 b hb)) f4.1 (rep_set (fun a u => .inl (u.imp .inl id)) rr)
    · rw [if_neg hh] at w
      exact w.elim
section
variable {X : Cx} {G : Gx} {N j : Nat} {x : Str} {cv : Value} {body suite : List Stmt} {b₀ : Stmt} {mb : List S} {as : List (Nat × E)} {m : E} {np pos pos' : Pos} {D : Addr}
/-- try .. except x as n -/
theorem sims_tryAs {n : Str} {i : Nat} (hs : X.stack = X.env :: X.outer) (hf : X.env.frame = some X.env.locals) (hN : X.N.Nodup) (hi : X.N[i]? = some n) (hln : X.env.kindOf n = some .local) (hc : Names X x cv) (tk : Takes X G.W)
    (hx : ∀ c dd H, G.xr ⟨j, none⟩ c dd H → c = .ref D ∧ dd = none) (hm : PySem.W.exmOne X.K (.ref D) cv = some true)
    (hb : ∀ (W : WX) (pn : List (Addr × Obj)) (xe : Value → Shared → Prop), Takes (X.tr pn xe) W → PassesOwn (model X.prog X.w) X.A X.env xe → PSs (X.tr pn xe) body (tSs (G.wx W) N mb))
    (hsu : ∀ (a : Addr) (oe : Obj) (pn : List (Addr × Obj)), Zc (.ref D) none oe → (∃ vs, oe.data = .fields vs) → PSs (X.suite a ((a, oe) :: pn)) (b₀ :: suite) (tH ((G.ht (some i) a).z allN) as m)) :
    PS X (.Try body [.ExceptHandler (some (.Name x np)) (some n) (b₀ :: suite) pos'] [] [] pos) (tS G N (.tryx mb j (some i) as m)) :=
  PS.imp (ps_try_as (tb := fun W => tSs (G.wx W) N mb) (ts := fun a c d De σ H => c = .ref D ∧ d = none ∧ tH ((G.ht (some i) a).z allN) as m De σ H) hs hf hN hi hln hc tk hb fun a oe c d pn hz hv => ⟨fun pins s σ H De I h => by
    obtain ⟨rfl, rfl, h⟩ := h
    exact (hsu a oe pn hz hv).run pins s σ H De I h⟩) fun De σ H r => tryx_run r fun c dd σ' H' xr k => by
      obtain ⟨rfl, rfl⟩ := hx c dd H' xr
      exact ⟨true, hm, fun _ a ha => ⟨rfl, rfl, let ⟨U, env, d, h1, h2, h3, h4⟩ := k a ha; ⟨U, env, d, h1, h2, h3, h4⟩⟩, fun z => nomatch z⟩
/-- try .. except x -/
theorem sims_tryOnly (hs : X.stack = X.env :: X.outer) (hf : X.env.frame = some X.env.locals) (hc : Names X x cv) (tk : Takes X G.W)
    (hx : ∀ c dd H, G.xr ⟨j, none⟩ c dd H → c = .ref D ∧ dd = none) (hm : PySem.W.exmOne X.K (.ref D) cv = some true)
    (hb : ∀ (W : WX) (pn : List (Addr × Obj)) (xe : Value → Shared → Prop), Takes (X.tr pn xe) W → PassesOwn (model X.prog X.w) X.A X.env xe → PSs (X.tr pn xe) body (tSs (G.wx W) N mb))
    (hsu : ∀ (a : Addr) (oe : Obj) (pn : List (Addr × Obj)), Zc (.ref D) none oe → (∃ vs, oe.data = .fields vs) → PSs (X.suite a ((a, oe) :: pn)) (b₀ :: suite) (tH ((G.ht none a).z allN) as m)) :
    PS X (.Try body [.ExceptHandler (some (.Name x np)) none (b₀ :: suite) pos'] [] [] pos) (tS G N (.tryx mb j none as m)) :=
  PS.imp (ps_try_only (tb := fun W => tSs (G.wx W) N mb) (ts := fun a c d De σ H => c = .ref D ∧ d = none ∧ tH ((G.ht none a).z allN) as m De σ H) hs hf hc tk hb fun a oe c d pn hz hv => ⟨fun pins s σ H De I h => by
    obtain ⟨rfl, rfl, h⟩ := h
    exact (hsu a oe pn hz hv).run pins s σ H De I h⟩) fun De σ H r => tryx_run r fun c dd σ' H' xr k => by
      obtain ⟨rfl, rfl⟩ := hx c dd H' xr
      exact ⟨true, hm, fun _ a ha => ⟨rfl, rfl, let ⟨U, env, d, h1, h2, h3, h4⟩ := k a ha; ⟨U, env, d, h1, h2, h3, h4⟩⟩, fun z => nomatch z⟩
end
/-! ## try .. except, whose suite sets a name -/
def tHn (G : Gx) (q i : Nat) (m : E) (a : Addr) : TS := fun D σ H => ∃ U Lf env σ0 d, SE G U Lf H σ0 env ∧ σ = σ0.set q (some (.ref a)) ∧ hOk (some q) [(i, m)] env.length = true ∧ ev G.C m (env.set q none) = .ok d ∧
  ∀ σ' H' Lf', FrR Lf H Lf' H' → SE G U Lf' H' (σ'.set q none) ((env.set q none).set i (some (sh d))) → D.nx σ' H'
theorem hot_repN {G : Gx} {U : Addr → Prop} {Lf : Own} {H : Hp} {σ : St} {env : Env} {q : Nat} {as : List (Nat × E)} {a : Addr} (h : SE G U Lf H σ env) (ho : hOk (some q) as env.length = true) :
    RepE ((G.ht (some q) a).z noN) H (UO U Lf allN) (σ.set q (some (.ref a))) (env.set q none) := by
  have hr := h.read noN
  have hlt : q < env.length := of_decide_eq_true (Bool.and_eq_true_iff.mp ho).1
  refine ⟨by rw [List.length_set, List.length_set]; exact hr.1, fun i d e z => ?_, fun q' v e => ?_⟩
  · rw [List.getElem?_set] at e
    split at e
    · first
        | cases e
        | (split at e <;> cases e)
    · rename_i hne
      obtain ⟨v, g1, g2⟩ := hr.2.1 i d e z
      have g3 : rep G.K H (UO U Lf fun i => !noN i) (if G.M i = true then sh d else d) v [] := g2
      have g4 : rep G.K H (UO U Lf allN) (if G.M i = true then sh d else d) v [] := rep_set (fun b u => .inl (show UO U Lf (fun i => !noN i) b from UO.sub (z := allN) (z' := fun i => !noN i) (fun _ _ => rfl) u)) g3
      exact ⟨v, by rw [List.getElem?_set_ne hne]; exact g1, g4⟩
  · have e : some (q, V.ref a) = some (q', v) := e
    cases e
    rw [List.getElem?_set, if_pos rfl, if_pos (by rw [← hr.1]; exact hlt)]
theorem simhn_set {X : Cx} {G : Gx} {q i : Nat} {x : Str} {e : Expr} {me : E} {a : Addr} {p2 pos : Pos} (hcold : G.hot = none) (hN : X.N.Nodup) (hi : X.N[i]? = some x) (hx : Loc X.env.scope x) (hM : G.M i = false) (he : PE X e (tM ((G.ht (some q) a).z noN) me)) (hs : swapsWith e (some (.Name x p2)) pos.line X.env = pure false) (hf : X.fn x = true) :
    PSs X [.Assign [.Name x p2] e pos] (tHn G q i me a) := (pss_one (ps_set hN hi hx he hs (.inl hf))).imp fun D σ H ⟨U, Lf, env, σ0, d, h, e0, ho, e1, k⟩ => by
  subst e0
  have hqi : i ≠ q := by
    have h2 := (Bool.and_eq_true_iff.mp ho).2
    have h3 : (decide (i ≠ q) && true) = true := h2
    rw [Bool.and_true] at h3
    exact of_decide_eq_true h3
  refine tM_then (h.dom' _) (hot_repN (as := [(i, me)]) h ho) (k := fun d' => d' = d) ?_ fun d' v H1 L qe s f rr => ?_
  · show Res _ _ H (ev G.C me (env.set q none)) _
    rw [e1]; rfl
  · subst qe
    have r3 : rep G.K H1 (Or2 (UO U Lf allN) []) (sh d') v [] := by
      have r4 : rep G.K H1 (UO U Lf allN) (sh d') v [] := rep_sh d' v L (fun b hb u => h.dom' allN b u (f.2 b hb)) (rep_set (fun b u => .inl (.inl u)) rr)
      exact rep_set (fun b u => .inl u.nil) r4
    have h2 := SE.drop (v := q) (σ2 := σ0.set q none) hcold h (List.length_set ..) fun j hj => List.getElem?_set_ne (Ne.symm hj)
    have h3 := h2.put (i := i) s Fresh.nil r3 (fun q v e => by rw [hcold] at e; cases e) fun _ => rfl
    have e5 : putL Lf i [] = Lf := funext fun j => by
      unfold putL
      split
      · rename_i e; subst e; exact (h.imm j hM).symm
      · rfl
    rw [e5] at h3
    refine k _ H1 Lf (.of_same s) ?_
    have e6 : ((σ0.set q (some (V.ref a))).set i (some v)).set q none = (σ0.set q none).set i (some v) := by
      rw [List.set_comm _ _ hqi, List.set_set, List.set_comm _ _ (Ne.symm hqi)]
    rw [e6]
    exact h3
theorem tryc_run {G : Gx} {N : Nat} {mb : List S} {j q i : Nat} {m : E} {W : WX} {De : Ends} {σ : St} {H : Hp} (r : tS G N (.tryc mb j q i m) De σ H)
    (hW : ∀ (c : Value) (dd : Option Addr) (σ' : St) (H' : Hp), G.xr ⟨j, none⟩ c dd H' → (∀ a, H' a = none → tHn G q i m a { nx := fun σ2 H2 => De.nx (σ2.set q none) H2, rt := De.rt, bk := fun σ2 H2 => De.bk (σ2.set q none) H2, ct := fun σ2 H2 => De.ct (σ2.set q none) H2 } (σ'.set q (some (.ref a))) H') → W c dd σ' H') : tSs (G.wx W) N mb De σ H := by
  obtain ⟨U, Lf, env, h, r⟩ := r
  refine ⟨U, Lf, env, h.wx, ?_⟩
  have r : RSok G U Lf H ((evSs G.C N mb env).try_ fun x env' => if x.cls = j ∧ x.row = none ∧ hOk (some q) [(i, m)] env'.length = true then (match ev G.C m (offq (some q) env') with
    | .ok d => .ok ((offq (some q) env').set i (some (sh d))) .nx
    | _ => .bad) else .bad) De := r
  show RSok (G.wx W) U Lf H (evSs G.C N mb env) De
  generalize evSs G.C N mb env = res at r
  cases res with
  | bad => exact r
  | ok env' fl =>
    cases fl with
    | nx => exact fun σ' H' Lf' f s => (show nxOk G U Lf H env' De.nx from r) σ' H' Lf' f s.unwx
    | bk => exact fun σ' H' Lf' f s => (show nxOk G U Lf H env' De.bk from r) σ' H' Lf' f s.unwx
    | ct => exact fun σ' H' Lf' f s => (show nxOk G U Lf H env' De.ct from r) σ' H' Lf' f s.unwx
    | rt d => exact r
  | exc x env' =>
    intro σ' H' Lf' f s c dd H2 s2 xr
    have s := s.unwx
    have w : RSok G U Lf H (if x.cls = j ∧ x.row = none ∧ hOk (some q) [(i, m)] env'.length = true then (match ev G.C m (offq (some q) env') with
      | .ok d => .ok ((offq (some q) env').set i (some (sh d))) .nx
      | _ => .bad) else .bad) De := r
    clear r
    by_cases hh : x.cls = j ∧ x.row = none ∧ hOk (some q) [(i, m)] env'.length = true
    · rw [if_pos hh] at w
      obtain ⟨h1, h2, h3⟩ := hh
      obtain ⟨xc, xw⟩ := x
      dsimp only at h1 h2
      subst h1 h2
      refine hW c dd σ' H2 xr fun a ha => ?_
      cases e : ev G.C m (offq (some q) env') with
      | bad => rw [e] at w; exact w.elim
      | exc _ => rw [e] at w; exact w.elim
      | ok d =>
        rw [e] at w
        have w : nxOk G U Lf H ((offq (some q) env').set i (some (sh d))) De.nx := w
        have s3 := s.same s2
        have r2 := nxOk.mono (f.trans (.of_same s2)) w
        exact ⟨_, _, env', σ', d, s3, rfl, h3, e, fun σ2 H3 Lf3 f3 s4 => r2 _ H3 Lf3 f3 s4⟩
    · rw [if_neg hh] at w
      exact w.elim
section
variable {X : Cx} {G : Gx} {N j : Nat} {x : Str} {cv : Value} {body suite : List Stmt} {b₀ : Stmt} {mb : List S} {m : E} {np pos pos' : Pos} {D : Addr}
/-- try .. except x as n: y = e -/
theorem sims_trycAs {n : Str} {q i : Nat} (hs : X.stack = X.env :: X.outer) (hf : X.env.frame = some X.env.locals) (hN : X.N.Nodup) (hi : X.N[q]? = some n) (hln : X.env.kindOf n = some .local) (hc : Names X x cv) (tk : Takes X G.W)
    (hx : ∀ c dd H, G.xr ⟨j, none⟩ c dd H → c = .ref D ∧ dd = none) (hm : PySem.W.exmOne X.K (.ref D) cv = some true)
    (hb : ∀ (W : WX) (pn : List (Addr × Obj)) (xe : Value → Shared → Prop), Takes (X.tr pn xe) W → PassesOwn (model X.prog X.w) X.A X.env xe → PSs (X.tr pn xe) body (tSs (G.wx W) N mb))
    (hsu : ∀ (a : Addr) (oe : Obj) (pn : List (Addr × Obj)), Zc (.ref D) none oe → (∃ vs, oe.data = .fields vs) → PSs (X.suite a ((a, oe) :: pn)) (b₀ :: suite) (tHn G q i m a)) :
    PS X (.Try body [.ExceptHandler (some (.Name x np)) (some n) (b₀ :: suite) pos'] [] [] pos) (tS G N (.tryc mb j q i m)) :=
  PS.imp (ps_try_as (tb := fun W => tSs (G.wx W) N mb) (ts := fun a c d De σ H => c = .ref D ∧ d = none ∧ tHn G q i m a De σ H) hs hf hN hi hln hc tk hb fun a oe c d pn hz hv => ⟨fun pins s σ H De I h => by
    obtain ⟨rfl, rfl, h⟩ := h
    exact (hsu a oe pn hz hv).run pins s σ H De I h⟩) fun De σ H r => tryc_run r fun c dd σ' H' xr k => by
      obtain ⟨rfl, rfl⟩ := hx c dd H' xr
      exact ⟨true, hm, fun _ a ha => ⟨rfl, rfl, k a ha⟩, fun z => nomatch z⟩
end
end Q

set_option maxHeartbeats 1000000
namespace Q
open PySem PySem.Spec L2
open PyProof.Rows hiding St

/-! ## defs that change an argument -/
/-- two names changed at once -/
theorem SE.two {G : Gx} {U : Addr → Prop} {Lf Lf' : Own} {H H4 : Hp} {σ : St} {env : Env} {i m : Nat} {di dm : D} {vi vm : V} (h : SE G U Lf H σ env) (hMi : G.M i = true) (hMm : G.M m = true) (hj : ∀ j, j ≠ i → j ≠ m → Lf' j = Lf j)
    (kp : ∀ b o, H b = some o → b ∉ Lf i → b ∉ Lf m → H4 b = some o) (hs : ∀ j, (j = i ∨ j = m) → ∀ b ∈ Lf' j, b ∈ Lf i ∨ b ∈ Lf m ∨ H b = none) (hd : ∀ b, b ∈ Lf' i → b ∉ Lf' m) (him : i ≠ m) (ni : (Lf' i).Nodup) (nm : (Lf' m).Nodup)
    (hi : σ[i]? = some (some vi)) (hm : σ[m]? = some (some vm)) (ri : rep G.K H4 (UO U Lf' allN) di vi (Lf' i)) (rm : rep G.K H4 (UO U Lf' allN) dm vm (Lf' m)) : SE G U Lf' H4 σ ((env.set m (some dm)).set i (some di)) ∧ FrR Lf H Lf' H4 := by
  have pick : ∀ j b, b ∈ Lf' j → ((j = i ∨ j = m) ∧ (b ∈ Lf i ∨ b ∈ Lf m ∨ H b = none)) ∨ (j ≠ i ∧ j ≠ m ∧ b ∈ Lf j) := fun j b hb => by
    by_cases h1 : j = i
    · exact .inl ⟨.inl h1, hs j (.inl h1) b hb⟩
    · by_cases h2 : j = m
      · exact .inl ⟨.inr h2, hs j (.inr h2) b hb⟩
      · rw [hj j h1 h2] at hb
        exact .inr ⟨h1, h2, hb⟩
  have out : ∀ j b, j ≠ i → j ≠ m → b ∈ Lf j → b ∉ Lf i ++ Lf m := fun j b h1 h2 hb hm' => by
    rcases List.mem_append.mp hm' with z | z
    · exact h1 (h.dis j i b hb z)
    · exact h2 (h.dis j m b hb z)
  have sub : ∀ b, UO U Lf' allN b → UO U Lf allN b ∨ H b = none := fun b u => by
    rcases u with u | ⟨j, _, hb⟩
    · exact .inl (.inl u)
    · rcases pick j b hb with ⟨_, z | z | z⟩ | ⟨_, _, z⟩
      · exact .inl (.inr ⟨i, rfl, z⟩)
      · exact .inl (.inr ⟨m, rfl, z⟩)
      · exact .inr z
      · exact .inl (.inr ⟨j, rfl, z⟩)
  have mM : ∀ a ∈ Lf i ++ Lf m, MutA H a := fun a ha => (List.mem_append.mp ha).elim (h.muta i a) (h.muta m a)
  have uM : ∀ a ∈ Lf i ++ Lf m, UO U Lf allN a := fun a ha => (List.mem_append.mp ha).elim (fun z => .inr ⟨i, rfl, z⟩) fun z => .inr ⟨m, rfl, z⟩
  have kp' : ∀ b o, H b = some o → b ∉ Lf i ++ Lf m → H4 b = some o := fun b o e n => kp b o e (fun z => n (List.mem_append_left _ z)) fun z => n (List.mem_append_right _ z)
  refine ⟨⟨by rw [List.length_set, List.length_set]; exact h.len, fun b u q => ?_, fun j d e => ?_, fun j b hb u => ?_, fun j k b hb hb' => ?_, fun j => ?_, fun j b hb => ?_, fun j hMj => ?_, h.cold⟩, ⟨fun b o e n => kp b o e (n i) (n m), fun j b hb => ?_⟩⟩
  · cases e2 : H b with
    | none => exact h.dom b u e2
    | some o =>
      rw [kp b o e2 (fun z => h.fro i b z u) fun z => h.fro m b z u] at q
      cases q
  · by_cases h1 : j = i
    · subst h1
      rw [List.getElem?_set, if_pos rfl] at e
      split at e
      · cases e; exact ⟨vi, hi, ri⟩
      · cases e
    · rw [List.getElem?_set_ne (Ne.symm h1)] at e
      by_cases h2 : j = m
      · subst h2
        rw [List.getElem?_set, if_pos rfl] at e
        split at e
        · cases e; exact ⟨vm, hm, rm⟩
        · cases e
      · rw [List.getElem?_set_ne (Ne.symm h2)] at e
        obtain ⟨w, g1, g2⟩ := h.val j d e
        refine ⟨w, g1, ?_⟩
        rw [hj j h1 h2]
        exact rep_go _ _ _ (Go.keepM mM uM (fun a ha hb => out j a h1 h2 hb ha) kp' sub) g2
  · rcases pick j b hb with ⟨_, z | z | z⟩ | ⟨_, _, z⟩
    · exact h.fro i b z u
    · exact h.fro m b z u
    · exact h.dom b u z
    · exact h.fro j b z u
  · rcases pick j b hb with ⟨h1, z1⟩ | ⟨h1, h2, z1⟩ <;> rcases pick k b hb' with ⟨h3, z2⟩ | ⟨h3, h4, z2⟩
    · rcases h1 with rfl | rfl <;> rcases h3 with rfl | rfl
      · rfl
      · exact absurd hb' (hd b hb)
      · exact absurd hb (hd b hb')
      · rfl
    · rcases z1 with z | z | z
      · exact absurd (h.dis k i b z2 z) h3
      · exact absurd (h.dis k m b z2 z) h4
      · exact absurd z (h.muta k b z2).ne
    · rcases z2 with z | z | z
      · exact absurd (h.dis j i b z1 z) h1
      · exact absurd (h.dis j m b z1 z) h2
      · exact absurd z (h.muta j b z1).ne
    · exact h.dis j k b z1 z2
  · by_cases h1 : j = i
    · subst h1; exact ni
    · by_cases h2 : j = m
      · subst h2; exact nm
      · rw [hj j h1 h2]; exact h.nod j
  · by_cases h1 : j = i
    · subst h1; exact rep_mut _ _ _ ri b hb
    · by_cases h2 : j = m
      · subst h2; exact rep_mut _ _ _ rm b hb
      · rw [hj j h1 h2] at hb
        have n1 := out j b h1 h2 hb
        rcases h.muta j b hb with ⟨xs, z⟩ | ⟨xs, z⟩ | ⟨xs, z⟩
        · exact .inl ⟨xs, kp' _ _ z n1⟩
        · exact .inr (.inl ⟨xs, kp' _ _ z n1⟩)
        · exact .inr (.inr ⟨xs, kp' _ _ z n1⟩)
  · have h1 : j ≠ i := fun z => by rw [z, hMi] at hMj; cases hMj
    have h2 : j ≠ m := fun z => by rw [z, hMm] at hMj; cases hMj
    rw [hj j h1 h2]; exact h.imm j hMj
  · rcases pick j b hb with ⟨_, z | z | z⟩ | ⟨_, _, z⟩
    · exact .inl ⟨i, z⟩
    · exact .inl ⟨m, z⟩
    · exact .inr z
    · exact .inl ⟨j, z⟩
/-- what a def promises that changes its k-th argument -/
def spMm (K : PySem.W.Frag) (g : List D → R D) (np k : Nat) : Sp := fun vs H Q _ => vs.length = np ∧ ∃ U ds Lk vk, Dom H U ∧ ds.length = vs.length ∧ vs[k]? = some vk ∧ (∀ i d, ds[i]? = some d → ∃ v, vs[i]? = some v ∧ rep K H (Or2 U Lk) d v (if i = k then Lk else [])) ∧ (∀ b ∈ Lk, ¬ U b) ∧ Lk.Nodup ∧ (∀ b ∈ Lk, MutA H b) ∧
  ∃ d x, g ds = .ok (.tup [d, x]) ∧ ∀ v H' L L2, (∀ b o, H b = some o → b ∉ Lk → H' b = some o) → (∀ b ∈ L ++ L2, b ∈ Lk ∨ H b = none) → (L ++ L2).Nodup → rep K H' (Or2 U (L ++ L2)) d v L → rep K H' (Or2 U (L ++ L2)) x vk L2 → Q v H'
theorem SE.startM {G : Gx} {U : Addr → Prop} {H : Hp} {N : List Str} {ds : List D} {vs : List V} {k : Nat} {Lk : List Addr} {vk : V} (hc : G.hot = some (k, vk)) (hk : G.M k = true) (hv : vs[k]? = some vk) (hd : Dom H U) (hl : ds.length = vs.length)
    (r : ∀ i d, ds[i]? = some d → ∃ v, vs[i]? = some v ∧ rep G.K H (Or2 U Lk) d v (if i = k then Lk else [])) (hu : ∀ b ∈ Lk, ¬ U b) (nd : Lk.Nodup) (mu : ∀ b ∈ Lk, MutA H b) : SE G U (fun i => if i = k then Lk else []) H (L2.start N vs) (startE N.length ds) := by
  have inn : ∀ {i b}, b ∈ (if i = k then Lk else []) → i = k ∧ b ∈ Lk := fun {i b} m => by
    split at m
    · rename_i e; exact ⟨e, m⟩
    · cases m
  refine ⟨?_, hd, fun i d e => ?_, fun i b m => hu b (inn m).2, fun i j b m m' => by rw [(inn m).1, (inn m').1], fun i => ?_, fun i b m => mu b (inn m).2, fun i hi => ?_, fun q w e => ?_⟩
  · unfold startE L2.start
    rw [List.length_append, List.length_append, List.length_map, List.length_map, List.length_replicate, List.length_replicate, hl]
  · obtain ⟨v, h1, h2⟩ := r i d (startE_get e)
    refine ⟨v, start_get h1, rep_set (fun a u => .inl ?_) h2⟩
    rcases u with u | ⟨j, _, m⟩
    · exact .inl u
    · exact .inr (inn m).2
  · split
    · exact nd
    · exact .nil
  · rw [if_neg]
    intro z
    rw [z, hk] at hi; cases hi
  · rw [hc] at e
    cases e
    exact start_get hv
/-- return of a name, at the end -/
def tEnd (r : Nat) : TS := fun D σ H => ∃ v, σ[r]? = some (some v) ∧ D.rt v H
theorem ps_end {X : Cx} {r : Nat} {x : Str} {p2 pos : Pos} (hN : X.N[r]? = some x) (hv : Vis X.env.scope x) (hd : (x == ("__debug__" : Str)) = false) (hcd : (x == ("__classdict__" : Str)) = false) : PS X (.Return (some (.Name x p2)) pos) (tEnd r) := PS.imp (ps_ret (pe_var hN hv hd hcd)) fun D σ H r => r
theorem fn_okM {P : Program} {w : World} {mg : Str → Option Value} {base : Heap} {x qual : Str} {params : Arguments} {body : List Stmt} {scope : Scope} {f : Addr} {fd : FuncData} {N ps : List Str} {l fu k r : Nat} {G : Gx} {b pre : List S} (hsp : splitR b = some (pre, r)) (hrk : r ≠ k) (hM : G.M k = true)
    (F : FunD G.K x qual params body scope [] [] f fd) (Sc : FnScope N ps scope)
    (hb : ∀ (cdv : Value) (A : Around) (outer : List PySem.Env) (s : Shared) (H : Hp) (E : XK) (vk : V), Room l (A.deeper (envOfC qual scope s.heap.objs.size f cdv)) → PSs (cxOf (L2.CX P w) P w G.K mg base N qual scope f cdv A outer s H E) body (fun D σ H => tSs { G.w E with hot := some (k, vk) } fu pre { D with nx := tEnd r D } σ H)) :
    FnOk P w G.K mg base (L2.CX P w) (l + 1) f fd ps (spMm G.K (runM G.C fu ⟨ps.length, N.length, b⟩ k) ps.length k) := by
  refine F.ok Sc (fun vs H Q E h => h.1) fun cdv A outer s H vs Q E hr h => ?_
  obtain ⟨hl, U, ds, Lk, vk, hd, hlen, hv, rr, hu, nd, mu, d, x0, hg, kq⟩ := h
  refine ⟨_, hb cdv A outer s H E vk hr, ?_⟩
  have hds : ds.length = ps.length := hlen.trans hl
  unfold runM at hg
  rw [if_pos hds] at hg
  dsimp only at hg
  rw [hsp] at hg
  dsimp only at hg
  refine ⟨U, _, startE N.length ds, SE.startM (G := { G.w E with hot := some (k, vk) }) rfl hM hv hd hlen rr hu nd mu, ?_⟩
  show RSok _ U _ H (evSs G.C fu pre (startE N.length ds)) _
  generalize evSs G.C fu pre (startE N.length ds) = res at hg
  cases res with
  | bad => cases hg
  | exc y env => cases hg
  | ok env fl =>
    cases fl with
    | nx =>
      dsimp only at hg
      cases er : env[r]? with
      | none => rw [er] at hg; cases hg
      | some o =>
        cases o with
        | none => rw [er] at hg; cases hg
        | some v0 =>
          cases ek : env[k]? with
          | none => rw [er, ek] at hg; cases hg
          | some o2 =>
            cases o2 with
            | none => rw [er, ek] at hg; cases hg
            | some y =>
              rw [er, ek] at hg
              cases hg
              intro σ' H' Lf' fr se
              obtain ⟨v, h1, h2⟩ := se.val r _ er
              obtain ⟨w', h3, h4⟩ := se.val k _ ek
              have hw : w' = vk := by
                have := se.cold k vk rfl
                rw [h3] at this
                exact Option.some.inj (Option.some.inj this)
              subst hw
              have inn : ∀ {i b}, b ∈ (if i = k then Lk else []) → i = k ∧ b ∈ Lk := fun {i b} m => by
                split at m
                · rename_i e; exact ⟨e, m⟩
                · cases m
              have subU : ∀ a, Or2 U (Lf' r ++ Lf' k) a → UO U Lf' allN a := fun a u => by
                rcases u with u | u
                · exact .inl u
                · rcases List.mem_append.mp u with u | u
                  · exact .inr ⟨r, rfl, u⟩
                  · exact .inr ⟨k, rfl, u⟩
              refine ⟨v, h1, kq v H' (Lf' r) (Lf' k) (fun b o e n => fr.keep b o e fun j m => n (inn m).2) (fun b hb => ?_) (List.nodup_append.mpr ⟨se.nod r, se.nod k, fun a ha c hc e => hrk (se.dis r k a ha (e ▸ hc))⟩) (rep_set (fun a u => .inl (subU a u)) h2) (rep_set (fun a u => .inl (subU a u)) h4)⟩
              rcases List.mem_append.mp hb with hb | hb
              · exact (fr.from_ r b hb).imp (fun ⟨j, m⟩ => (inn m).2) id
              · exact (fr.from_ k b hb).imp (fun ⟨j, m⟩ => (inn m).2) id
    | rt v => cases hg
    | bk => cases hg
    | ct => cases hg

theorem nx_b {G : Gx} {U : Addr → Prop} {Lf : Own} {H : Hp} {env : Env} {i m : Nat} {x : R D} {De : Ends} (h : RSok G U Lf H (aftM i m x env) De) : ∃ v y d, x = .ok (.tup [v, y]) ∧ (env.set m (some y))[i]? = some (some (.lst .w d)) ∧ d.length < lim ∧ nxOk G U Lf H ((env.set m (some y)).set i (some (.lst .w (d ++ [v])))) De.nx := by
  unfold aftM at h
  split at h
  · rename_i v y
    obtain ⟨d, d', e1, e2, r⟩ := upd1_ok h
    have e2 : appD v d = some d' := e2
    obtain ⟨ds, rfl, hl, rfl⟩ := appD_some e2
    exact ⟨v, y, ds, rfl, e1, hl, r⟩
  · exact h.elim
section
variable {X : Cx} {G : Gx} {N : Nat} {i m f kk : Nat} {fa : Addr} {fd : FuncData} {ps : List Str} {xr xf xm : Str} {e : Expr} {me : E} {pr pf pm apos cp2 cpos pos : Pos}
theorem appc_run {sp0 : XK} {De : Ends} {σ : St} {H : Hp} (hK : G.K = X.K) (hMi : G.M i = true) (hMm : G.M m = true) (r : tS G N (.appc i f me m) De σ H) :
    tVar i σ H fun x H0 => tyV X.K "list" x H0 ∧ tM (G.z noN) me σ H0 fun v1 H1 => tVar m σ H1 fun vm H1 => spMm G.K (G.C f) 2 1 [v1, vm] H1 (fun w H3 => rAppend x [w] H3 fun _ H4 => De.nx σ H4) sp0 := by
  obtain ⟨U, Lf, env, h, r⟩ := r
  have r : RSok G U Lf H (if m ≠ i then (ev G.C me env).quiet.s env fun d => (look env m).quiet.s env fun y => aftM i m (G.C f [sh d, y]) env else .bad) De := r
  by_cases hmi : m ≠ i
  · rw [if_pos hmi] at r
    obtain ⟨d, e1, r⟩ := quiet_s r
    obtain ⟨y, e2, r⟩ := quiet_s r
    obtain ⟨v, y', items, e3, e4, hl, r9⟩ := nx_b r
    have e4 : env[i]? = some (some (.lst .w items)) := by rw [List.getElem?_set_ne hmi] at e4; exact e4
    have e2 : env[m]? = some (some y) := by
      unfold look at e2
      split at e2
      · cases e2; assumption
      · cases e2
    obtain ⟨vi, i1, i2⟩ := h.val i _ e4
    obtain ⟨a, rfl, _⟩ := top_at (show Top (.lst .w items) from trivial) i2
    obtain ⟨ws, Li, hlen, ha, ri, eLi⟩ := rep_lstw i2
    obtain ⟨vm, m1, m2⟩ := h.val m _ e2
    refine ⟨.ref a, i1, .inl ⟨rfl, ws, .of ha⟩, ?_⟩
    refine tM_then (h.dom' _) (h.read noN) (k := fun d' => d' = d) (by show Res _ σ H (ev G.C me env) _; rw [e1]; rfl) fun d' v1 H1 L0 ed s f0 rr => ?_
    subst ed
    have s : Same H H1 := s
    have neL : ∀ b, UO U Lf allN b → H b ≠ none := h.dom' allN
    have aLi : a ∈ Lf i := by rw [eLi]; exact List.mem_cons_self
    have inLi : ∀ b ∈ Li, b ∈ Lf i := fun b hb => by rw [eLi]; exact List.mem_cons_of_mem _ hb
    have hUc : ∀ b, (Or2 (fun b => U b ∨ ∃ j, j ≠ m ∧ b ∈ Lf j) (Lf m)) b ↔ UO U Lf allN b := fun b => ⟨fun u => by
      rcases u with (u | ⟨j, _, z⟩) | z
      · exact .inl u
      · exact .inr ⟨j, rfl, z⟩
      · exact .inr ⟨m, rfl, z⟩, fun u => by
      rcases u with u | ⟨j, _, z⟩
      · exact .inl (.inl u)
      · by_cases hj : j = m
        · rw [hj] at z; exact .inr z
        · exact .inl (.inr ⟨j, hj, z⟩)⟩
    refine ⟨vm, m1, rfl, fun b => U b ∨ ∃ j, j ≠ m ∧ b ∈ Lf j, [sh d', y], Lf m, vm, fun b u q => ?_, rfl, rfl, fun k dk ek => ?_, fun b hb u => ?_, h.nod m, fun b hb => (h.muta m b hb).same' s, v, y', e3, fun w H3 L L2 kp im nd rv ry => ?_⟩
    · rcases u with u | ⟨j, _, z⟩
      · exact neL b (.inl u) (s.free q)
      · exact neL b (.inr ⟨j, rfl, z⟩) (s.free q)
    · match k, ek with
      | 0, ek =>
        cases ek
        refine ⟨v1, rfl, ?_⟩
        rw [if_neg (by decide)]
        have r1 : rep G.K H1 (UO U Lf allN) (sh d') v1 [] := rep_sh d' v1 L0 (fun b hb u => neL b u (f0.2 b hb)) (rep_set (fun b u => .inl (.inl (UO.sub (fun _ _ => rfl) u))) rr)
        exact rep_set (fun b u => .inl ((hUc b).mp u)) r1
      | 1, ek =>
        cases ek
        refine ⟨vm, rfl, ?_⟩
        rw [if_pos rfl]
        exact rep_same s (rep_set (fun b u => .inl ((hUc b).mp u)) m2)
      | k + 2, ek => simp at ek
    · rcases u with u | ⟨j, hj, z⟩
      · exact h.fro m b hb u
      · exact hj (h.dis j m b z hb)
    have am : a ∉ Lf m := fun z => hmi (h.dis m i a z aLi)
    have ha1 : H1 a = some (.lst ws) := s _ _ ha
    have ha3 : H3 a = some (.lst ws) := kp a _ ha1 am
    have imH : ∀ b ∈ L ++ L2, b ∈ Lf m ∨ H b = none := fun b hb => (im b hb).imp id s.free
    have aoff : a ∉ L ++ L2 := fun z => (imH a z).elim am fun q => by rw [ha] at q; cases q
    have lioff : ∀ b ∈ Li, b ∉ L ++ L2 := fun b hb z => (imH b z).elim (fun q => hmi (h.dis m i b q (inLi b hb))) fun q => (h.muta i b (inLi b hb)).ne q
    refine ⟨a, ws, w, rfl, rfl, ha3, by rw [reps_length ri, ← lim_eq]; exact hl, ?_⟩
    have hni := h.nod i
    rw [eLi] at hni
    obtain ⟨aL, nLi⟩ := List.nodup_cons.mp hni
    obtain ⟨n1, n2, n3⟩ := List.nodup_append.mp nd
    let Lf' : Own := fun j => if j = i then a :: (Li ++ L) else if j = m then L2 else Lf j
    have li : Lf' i = a :: (Li ++ L) := if_pos rfl
    have lm : Lf' m = L2 := (if_neg hmi).trans (if_pos rfl)
    have lj : ∀ j, j ≠ i → j ≠ m → Lf' j = Lf j := fun j h1 h2 => (if_neg h1).trans (if_neg h2)
    have u4 : ∀ b, UO U Lf' allN b → Or2 (fun b => U b ∨ ∃ j, j ≠ m ∧ b ∈ Lf j) (L ++ L2) b := fun b u => by
      rcases u with u | ⟨j, _, z⟩
      · exact .inl (.inl u)
      · by_cases h1 : j = i
        · rw [h1, li] at z
          rcases List.mem_cons.mp z with rfl | z
          · exact .inl (.inr ⟨i, fun q => hmi q.symm, aLi⟩)
          · rcases List.mem_append.mp z with z | z
            · exact .inl (.inr ⟨i, fun q => hmi q.symm, inLi b z⟩)
            · exact .inr (List.mem_append_left _ z)
        · by_cases h2 : j = m
          · rw [h2, lm] at z
            exact .inr (List.mem_append_right _ z)
          · rw [lj j h1 h2] at z
            exact .inl (.inr ⟨j, h2, z⟩)
    have uc : Or2 (fun b => U b ∨ ∃ j, j ≠ m ∧ b ∈ Lf j) (L ++ L2) a := .inl (.inr ⟨i, fun q => hmi q.symm, aLi⟩)
    have kp4 : ∀ b o, H b = some o → b ∉ Lf m ++ [a] → upd H3 a (.lst (ws ++ [w])) b = some o := fun b o e n => by
      rw [upd_ne fun z => n (List.mem_append_right _ (by rw [z]; exact List.mem_singleton_self a))]
      exact kp b o (s b o e) fun z => n (List.mem_append_left _ z)
    have r1 : reps G.K (upd H3 a (.lst (ws ++ [w]))) (UO U Lf' allN) items ws Li := by
      refine reps_go _ _ _ (Go.keepM (M := Lf m ++ [a]) (fun b hb => ?_) (fun b hb => ?_) (fun b hb hc => ?_) kp4 fun b u => ?_) ri
      · rcases List.mem_append.mp hb with hb | hb
        · exact h.muta m b hb
        · rw [List.mem_singleton.mp hb]; exact h.muta i a aLi
      · rcases List.mem_append.mp hb with hb | hb
        · exact .inr ⟨m, rfl, hb⟩
        · rw [List.mem_singleton.mp hb]; exact .inr ⟨i, rfl, aLi⟩
      · rcases List.mem_append.mp hb with hb | hb
        · exact hmi (h.dis m i b hb (inLi b hc))
        · rw [List.mem_singleton.mp hb] at hc; exact aL hc
      · rcases u4 b u with (u | ⟨j, _, z⟩) | z
        · exact .inl (.inl u)
        · exact .inl (.inr ⟨j, rfl, z⟩)
        · exact (imH b z).imp (fun q => .inr ⟨m, rfl, q⟩) id
    have ma3 : MutA H3 a := .inl ⟨_, ha3⟩
    have r2 : rep G.K (upd H3 a (.lst (ws ++ [w]))) (UO U Lf' allN) v w L := rep_set (fun b u => .inl (u4 b u)) (rep_go _ _ _ (Go.upd ma3 uc fun z => aoff (List.mem_append_left _ z)) rv)
    have r3 : rep G.K (upd H3 a (.lst (ws ++ [w]))) (UO U Lf' allN) y' vm L2 := rep_set (fun b u => .inl (u4 b u)) (rep_go _ _ _ (Go.upd ma3 uc fun z => aoff (List.mem_append_right _ z)) ry)
    obtain ⟨q1, q2⟩ := h.two (Lf' := Lf') (i := i) (m := m) (di := .lst .w (items ++ [v])) (dm := y') hMi hMm lj (fun b o e n1 n2 => kp4 b o e fun z => by
        rcases List.mem_append.mp z with z | z
        · exact n2 z
        · exact n1 (by rw [List.mem_singleton.mp z]; exact aLi))
      (fun j hj b hb => by
        rcases hj with rfl | rfl
        · rw [li] at hb
          rcases List.mem_cons.mp hb with rfl | hb
          · exact .inl aLi
          · rcases List.mem_append.mp hb with hb | hb
            · exact .inl (inLi b hb)
            · exact .inr (imH b (List.mem_append_left _ hb))
        · rw [lm] at hb
          exact .inr (imH b (List.mem_append_right _ hb)))
      (fun b hb hc => by
        rw [lm] at hc
        rw [li] at hb
        rcases List.mem_cons.mp hb with rfl | hb
        · exact aoff (List.mem_append_right _ hc)
        · rcases List.mem_append.mp hb with hb | hb
          · exact lioff b hb (List.mem_append_right _ hc)
          · exact n3 b hb b hc rfl) (fun q => hmi q.symm)
      (by rw [li]; exact List.nodup_cons.mpr ⟨fun z => (List.mem_append.mp z).elim aL fun z => aoff (List.mem_append_left _ z), List.nodup_append.mpr ⟨nLi, n1, fun b hb c hc e => lioff b hb (e ▸ List.mem_append_left _ hc)⟩⟩)
      (by rw [lm]; exact n2) i1 m1
      (by rw [li]; exact rep_wlst (by rw [List.length_append]; exact hl) upd_same (reps_append r1 (reps_one r2)))
      (by rw [lm]; exact r3)
    exact r9 σ _ Lf' q2 q1
  · rw [if_neg hmi] at r
    exact r.elim
theorem sims_appc (hK : G.K = X.K) (hMi : G.M i = true) (hMm : G.M m = true) (F : FnOk X.prog X.w X.K X.mg X.base (L2.CX X.prog X.w) kk fa fd ps (spMm G.K (G.C f) 2 1)) (hr : Room kk X.A) (hg : Gl X xf) (hm : X.mg xf = some (.ref fa)) (hk : PySem.W.keepIn X.K (.ref fa) = true) (hb : Binds X.K fd ps [])
    (hNi : X.N[i]? = some xr) (hvi : Vis X.env.scope xr) (hdi : (xr == ("__debug__" : Str)) = false) (hci : (xr == ("__classdict__" : Str)) = false)
    (hNm : X.N[m]? = some xm) (hvm : Vis X.env.scope xm) (hdm : (xm == ("__debug__" : Str)) = false) (hcm : (xm == ("__classdict__" : Str)) = false)
    (he : PE X e (tM (G.z noN) me)) (hdb : (xf == ("__debug__" : Str)) = false)
    (hs0 : starEach [e, .Name xm pm] X.env = (false, eval e X.env) :: starEach [.Name xm pm] X.env) (hpl : (backTo cp2 (starEach [.Name xm pm] X.env)).any (·.1) = false) (hline : (apos.endLine == cpos.line) = true) :
    PS X (.Expr (.Call (.Attribute (.Name xr pr) "append" apos) [.Call (.Name xf pf) [e, .Name xm pm] [] cp2] [] cpos) pos) (tS G N (.appc i f me m)) := by
  have hcall : PE X (.Call (.Name xf pf) [e, .Name xm pm] [] cp2) (tCallS (spMm G.K (G.C f) 2 1) (fun _ => E0) (tCons (tM (G.z noN) me) (tCons (tVar m) tNil))) :=
    pe_callS F hr hg hm hk hb (fun σ pins H s e s' I c => passL pins σ H s e s' I c) (pa_cons he (pa_cons (pe_var hNm hvm hdm hcm) pa_nil rfl) hs0) hdb hs0 hpl
  exact PS.imp (ps_expr (pe_bm PySem.F.plainAttrs_list PySem.F.slot_list_append PySem.F.type_list_append mt_append (pe_var hNi hvi hdi hci) (pa_cons hcall pa_nil rfl) rfl rfl hline rfl rfl) rfl) fun De σ H r => appc_run (sp0 := E0) hK hMi hMm r
end
end Q

set_option maxHeartbeats 1000000
namespace Q
open PySem PySem.Spec L2
open PyProof.Rows hiding St

/-! ## defs whose first argument is handed over: they may change it, their caller does not see it again -/
def spO (K : PySem.W.Frag) (xr : Ex → Value → Option Addr → Hp → Prop) (g : List D → R D) (np : Nat) : Sp := fun vs H Q E => vs.length = np ∧ ∃ U d ds v vr L1, vs = v :: vr ∧ Dom H U ∧ rep K H (Or2 U L1) d v L1 ∧ reps K H (Or2 U L1) ds vr [] ∧ (∀ b ∈ L1, ¬ U b) ∧ L1.Nodup ∧ (∀ b ∈ L1, MutA H b) ∧
  match g (d :: ds) with
  | .ok x => ∀ v' H' L, (∀ b o, H b = some o → b ∉ L1 → H' b = some o) → (∀ b ∈ L, b ∈ L1 ∨ H b = none) → L.Nodup → rep K H' (Or2 U L) x v' L → Q v' H'
  | .exc x => ∀ c dd H', (∀ b o, H b = some o → b ∉ L1 → H' b = some o) → xr x c dd H' → E c dd H'
  | .bad => False
theorem SE.startO {G : Gx} {U : Addr → Prop} {H : Hp} {N : List Str} {d : D} {ds : List D} {v : V} {vr : List V} {L1 : List Addr} (hc : G.hot = none) (hk : G.M 0 = true) (hd : Dom H U) (r : rep G.K H (Or2 U L1) d v L1) (rr : reps G.K H (Or2 U L1) ds vr [])
    (hu : ∀ b ∈ L1, ¬ U b) (nd : L1.Nodup) (mu : ∀ b ∈ L1, MutA H b) : SE G U (fun i => if i = 0 then L1 else []) H (L2.start N (v :: vr)) (startE N.length (d :: ds)) := by
  have hl := reps_length rr
  have inn : ∀ {i b}, b ∈ (if i = 0 then L1 else []) → i = 0 ∧ b ∈ L1 := fun {i b} m => by
    split at m
    · rename_i e; exact ⟨e, m⟩
    · cases m
  have sub : ∀ a, UO U (fun i => if i = 0 then L1 else []) allN a → Or2 U L1 a := fun a u => by
    rcases u with u | ⟨j, _, m⟩
    · exact .inl u
    · exact .inr (inn m).2
  refine ⟨?_, hd, fun i d' e => ?_, fun i b m => hu b (inn m).2, fun i j b m m' => by rw [(inn m).1, (inn m').1], fun i => ?_, fun i b m => mu b (inn m).2, fun i hi => ?_, fun q w e => by rw [hc] at e; cases e⟩
  · unfold startE L2.start
    rw [List.length_append, List.length_append, List.length_map, List.length_map, List.length_replicate, List.length_replicate, List.length_cons, List.length_cons, hl]
  · have e := startE_get e
    cases i with
    | zero =>
      cases e
      exact ⟨v, start_get rfl, by rw [if_pos rfl]; exact rep_set (fun a u => .inl (sub a u)) r⟩
    | succ i =>
      have e : ds[i]? = some d' := e
      obtain ⟨w, h1, h2⟩ := reps_get0 rr e
      exact ⟨w, start_get h1, by rw [if_neg (Nat.succ_ne_zero i)]; exact rep_set (fun a u => .inl (sub a u)) h2⟩
  · split
    · exact nd
    · exact .nil
  · rw [if_neg]
    intro z
    rw [z, hk] at hi; cases hi
theorem fn_okO {P : Program} {w : World} {mg : Str → Option Value} {base : Heap} {x qual : Str} {params : Arguments} {body : List Stmt} {scope : Scope} {f : Addr} {fd : FuncData} {N ps : List Str} {k fu : Nat} {G : Gx} {ms : List S} (hcold : G.hot = none) (hM : G.M 0 = true)
    (F : FunD G.K x qual params body scope [] [] f fd) (Sc : FnScope N ps scope)
    (hb : ∀ (cdv : Value) (A : Around) (outer : List PySem.Env) (s : Shared) (H : Hp) (E : XK), Room k (A.deeper (envOfC qual scope s.heap.objs.size f cdv)) → PSs (cxOf (L2.CX P w) P w G.K mg base N qual scope f cdv A outer s H E) body (tSs (G.w E) fu ms)) :
    FnOk P w G.K mg base (L2.CX P w) (k + 1) f fd ps (spO G.K G.xr (runD G.C fu ⟨ps.length, N.length, ms⟩) ps.length) := by
  refine F.ok Sc (fun vs H Q E h => h.1) fun cdv A outer s H vs Q E hr h => ⟨_, hb cdv A outer s H E hr, ?_⟩
  obtain ⟨hl, U, d, ds, v, vr, L1, rfl, hd, r, rr, hu, nd, mu, h⟩ := h
  refine ⟨U, _, startE N.length (d :: ds), SE.startO (G := G.w E) hcold hM hd r rr hu nd mu, ?_⟩
  have hds : (d :: ds).length = ps.length := by rw [List.length_cons, ← reps_length rr]; exact hl
  have inn : ∀ {i b}, b ∈ (if i = 0 then L1 else []) → i = 0 ∧ b ∈ L1 := fun {i b} m => by
    split at m
    · rename_i e; exact ⟨e, m⟩
    · cases m
  unfold runD at h
  rw [if_pos hds] at h
  dsimp only at h
  show RSok (G.w E) U _ H (evSs G.C fu ms (startE N.length (d :: ds))) _
  generalize evSs G.C fu ms (startE N.length (d :: ds)) = res at h
  cases res with
  | bad => exact h.elim
  | exc x env => exact fun σ' H' Lf' f _ c dd H2 s2 q => h c dd H2 (fun b o e n => s2 b o (f.keep b o e fun j m => n (inn m).2)) q
  | ok env fl =>
    cases fl with
    | nx => exact fun σ' H' Lf' f _ => h .non H' [] (fun b o e n => f.keep b o e fun j m => n (inn m).2) (fun _ m => nomatch m) .nil ⟨rfl, rfl⟩
    | rt d => exact fun v' H' L kp fr n rr => h v' H' L (fun b o e n => kp b o e fun j m => n (inn m).2) (fun b hb => (fr b hb).imp (fun ⟨j, m⟩ => (inn m).2) id) n rr
    | bk => exact h.elim
    | ct => exact h.elim
section
variable {X : Cx} {G : Gx} {p pos : Pos} {e : Expr} {es : List Expr} {m : E} {ms : List E}
theorem sim_callo {k np : Nat} {f : Nat} {fa : Addr} {fd : FuncData} {ps : List Str} {x : Str} (hK : G.K = X.K) (tk : Takes X G.W) (F : FnOk X.prog X.w X.K X.mg X.base (L2.CX X.prog X.w) k fa fd ps (spO G.K G.xr (G.C f) np)) (hn : ms.length = np) (hn1 : 1 ≤ ms.length) (hr : Room k X.A) (hg : Gl X x) (hm : X.mg x = some (.ref fa))
    (hk : PySem.W.keepIn X.K (.ref fa) = true) (hb : Binds X.K fd ps []) (ha : PA X (e :: es) (tMs G ms)) (hdb : (x == ("__debug__" : Str)) = false) (he : starEach (e :: es) X.env = (false, eval e X.env) :: starEach es X.env) (hpl : (backTo pos (starEach es X.env)).any (·.1) = false) :
    PE X (.Call (.Name x p) (e :: es) [] pos) (tM G (.callo f ms)) :=
  (pe_callS F hr hg hm hk hb (fun σ => passAt tk σ) ha hdb he hpl).imp fun σ H Q ⟨U, env, hd, hre, r⟩ => by
    have r' : Res G σ H ((evs G.C ms env).b fun ds => G.C f (ownA ds)) fun d => Ok1 G.K H U d Q := r
    refine tMs_then hd hre r'.bind.eq fun ds vs H1 L ⟨e1, q⟩ s fr rr => ?_
    have hlen := evs_length e1
    cases ds with
    | nil => rw [List.length_nil] at hlen; omega
    | cons d ds =>
    obtain ⟨v, vr, La, Lb, rfl, rfl, h1, h2⟩ := (show ∃ v vr L1 L2, vs = v :: vr ∧ L = L1 ++ L2 ∧ rep G.K H1 (Or2 U L) d v L1 ∧ reps G.K H1 (Or2 U L) ds vr L2 from rr)
    obtain ⟨na, nb, nab⟩ := List.nodup_append.mp fr.1
    have fa' : ∀ b ∈ La, H b = none := fun b hb => fr.2 b (List.mem_append_left _ hb)
    have fb' : ∀ b ∈ Lb, H b = none := fun b hb => fr.2 b (List.mem_append_right _ hb)
    refine ⟨by rw [reps_length rr, hlen]; exact hn, U, d, shs ds, v, vr, La, rfl, hd.same s, rep_set (fun b u => .inl (u.imp id (List.mem_append_left _))) h1, ?_, fun b hb u => hd b u (fa' b hb), na, rep_mut _ _ _ h1, ?_⟩
    · refine reps_sh ds vr Lb (fun b hb u => ?_) (reps_set (fun b u => .inl (u.imp id (List.mem_append_left _))) h2)
      rcases u with u | u
      · exact hd b u (fb' b hb)
      · exact nab b u b hb rfl
    · have q : Res G σ H (G.C f (d :: shs ds)) fun d => Ok1 G.K H U d Q := q
      cases e2 : G.C f (d :: shs ds) with
      | ok x =>
        rw [e2] at q
        have q' : Ok1 G.K H U x Q := q
        exact fun v' H2 L2 kp im n2 r2 => q' v' H2 L2 (fun b o eb => kp b o (s b o eb) fun hb => by have := fa' b hb; rw [eb] at this; cases this) ⟨n2, fun b hb => (im b hb).elim (fa' b) s.free⟩ r2
      | exc x =>
        rw [e2] at q
        have q' : Exs G σ H x := q
        exact fun c dd H' kp z => q' c dd H' (fun b o eb => kp b o (s b o eb) fun hb => by have := fa' b hb; rw [eb] at this; cases this) z
      | bad => rw [e2] at q; exact q.elim
end
end Q

set_option maxHeartbeats 1000000
namespace Q
open PySem PySem.Spec L2
open PyProof.Rows hiding St

/-! ## a def of one argument, called in a suite on the exception that it holds -/
/-- it tells d where the exception is of class T -/
structure FnX (P : Program) (w : World) (K : PySem.W.Frag) (mg : Str → Option Value) (base : Heap) (T f : Addr) (fd : FuncData) (ps : List Str) (d : D) : Prop where
  run : ∀ (A : Around) (outer : List PySem.Env) (s : Shared) (H : Hp) (args : Args) (us : List Value) (Q : VK) (a : Addr) (oe : Obj), L2H.RoomH 0 A → A.handled = some (.ref a) → L2H.PinOk outer H s (a, oe) → Zc (.ref T) none oe → (∃ vs, oe.data = .fields vs) →
    Env0 P w K mg base A outer s H → BindsTo s fd args (ps.zip us) → Vals [.ref a] us → (∃ U, Dom H U ∧ Ok1 K H U d Q) → codeAny (model P w) A (.call (.ref f) args) (CR (L2.CX P w) outer P w H s Q fun _ _ _ => False) s
/-- the context of its body -/
def cxX (P : Program) (w : World) (K : PySem.W.Frag) (mg : Str → Option Value) (base : Heap) (N : List Str) (qual : Str) (scope : Scope) (f : Addr) (cdv : Value) (A : Around) (outer : List PySem.Env) (s : Shared) (H : Hp) (a : Addr) (oe : Obj) : Cx :=
  (L2H.cxH (L2.CX P w) P w K mg base N qual scope f cdv A outer s H (fun _ _ _ => False) (a, oe)).suite a ((a, oe) :: [])
theorem fnx_ok {P : Program} {w : World} {K : PySem.W.Frag} {mg : Str → Option Value} {base : Heap} {x qual : Str} {params : Arguments} {body : List Stmt} {scope : Scope} {T f : Addr} {fd : FuncData} {N ps : List Str} {G : Gx} {e : E} {d : D} (hK : G.K = K)
    (F : FunD K x qual params body scope [] [] f fd) (Sc : FnScope N ps scope) (h1 : ps.length = 1) (hd : ev G.C e (List.replicate N.length none) = .ok d)
    (hb : ∀ (cdv : Value) (A : Around) (outer : List PySem.Env) (s : Shared) (H : Hp) (a : Addr) (oe : Obj), L2H.RoomH 0 A → Zc (.ref T) none oe → (∃ vs, oe.data = .fields vs) → PSs (cxX P w K mg base N qual scope f cdv A outer s H a oe) body (tH ((G.ht (some 0) a).z allN) [] e)) :
    FnX P w K mg base T f fd ps d := by
  refine ⟨fun A outer s H args us Q a oe room hot pin hz hv env0 bt rv fin => ?_⟩
  obtain ⟨oc, od, dV, kV, doc, pm, an, cdv, ct, osl, rfl, look, code, _, _⟩ := F.ex
  have kin : K.In s.heap := env0.mod.kin.keeps fun b o eb => (env0.bs b o eb).1
  have nolim : s.heap.NoLimit := env0.mod.nolimit.keeps fun b o eb => (env0.bs b o eb).1
  have kinds : ∀ y ∈ ps.zip us, scope.names.lookup y.1 = some .local ∨ (scope.names.lookup y.1 = some .cell ∧ ((cellsFrom (s.heap.objs.size + 1) scope.names []).lookup y.1).isSome = true) := fun y hy =>
    (Sc.par y.1 (List.of_mem_zip (show (y.1, y.2) ∈ ps.zip us from hy)).1).imp id fun q => ⟨q, PySem.W.cellsFrom_some _ _ _ (.inl q)⟩
  have dep : A.depth < recursionLimit := by have := room.dp; omega
  refine codeAny_call_function dep (kin _ _ look) rfl Sc.co Sc.gen rfl (PySem.W.codeRec_of kin code) (bt _ _ _ _ (wpAny_newFunctionEnv_cells Sc.kind kinds fun en hen s1 st => ?_))
  subst hen
  refine ⟨nolim.keeps st.toInCall.keep, codeAny_func ?_⟩
  have I0 := L2H.inv_startH (CX := L2.CX P w) (E := fun _ _ _ => False) (w := w) (cd := cdv) (f := f) (qual := qual) Sc pin env0 (vs := [.ref a]) h1.symm rv st
  have I1 : Inv (cxX P w K mg base N qual scope f cdv A outer s H a oe) [] (L2.start N [.ref a]) H s1 := ⟨I0.ok.suite a _, I0.os, I0.bare, I0.base, I0.loc, I0.cell, I0.free, I0.freeC, I0.pin, I0.hok, I0.len⟩
  have hA : (A.deeper (envOfC qual scope s.heap.objs.size f cdv)).mark (some (.ref a)) = A.deeper (envOfC qual scope s.heap.objs.size f cdv) := by
    show ({ A.deeper (envOfC qual scope s.heap.objs.size f cdv) with handled := some (.ref a) } : Around) = _
    rw [← hot]
    rfl
  have start : tH ((G.ht (some 0) a).z allN) [] e { nx := fun _ _ => False, rt := Q } (L2.start N [.ref a]) H := by
    have hN : 1 ≤ N.length := by
      have := congrArg List.length Sc.pre
      rw [List.length_take] at this
      omega
    obtain ⟨U, hdm, fin⟩ := fin
    refine ⟨U, List.replicate N.length none, d, hdm, ⟨?_, fun i d' z _ => ?_, fun q v z => ?_⟩, hd, by rw [← hK] at fin; exact fin⟩
    · show _ = ([some (V.ref a)] ++ List.replicate (N.length - 1) none).length
      rw [List.length_replicate, List.length_append, List.length_replicate, List.length_singleton]
      omega
    · rw [List.getElem?_replicate] at z
      split at z <;> cases z
    · have z : some (0, V.ref a) = some (q, v) := z
      cases z
      rfl
  have main := (hb cdv A outer s H a oe room hz hv).run [] s1 (L2.start N [.ref a]) H { nx := fun _ _ => False, rt := Q } I1 start
  have main : wpAny (model P w) ((A.deeper (envOfC qual scope s.heap.objs.size f cdv)).mark (some (.ref a))) (execs body (envOfC qual scope s.heap.objs.size f cdv)) (SP (cxX P w K mg base N qual scope f cdv A outer s H a oe) [] { nx := fun _ _ => False, rt := Q }) (fun _ _ => False) s1 := main
  rw [hA] at main
  refine wpAny_mono main (fun fl s' hs => ?_) fun _ _ z => z.elim
  cases fl with
  | ret u =>
    obtain ⟨v, σ', H', J, r, q⟩ := hs
    exact ⟨v, H', J.os, J.bare, J.base, J.hok, r, q⟩
  | next =>
    obtain ⟨_, _, _, z⟩ := hs
    exact z.elim
  | brk =>
    obtain ⟨_, _, _, z⟩ := hs
    exact z.elim
  | cont =>
    obtain ⟨_, _, _, z⟩ := hs
    exact z.elim
/-- such a call, in a suite -/
def CallX (X : Cx) (a : Addr) (x : Str) (d : D) : Prop := ∀ (G : Gx) (n : Str) (q : Nat) (p pe pos : Pos), G.K = X.K → G.hot = some (q, .ref a) → X.N[q]? = some n → Vis X.env.scope n → Gl X x →
  (n == ("__debug__" : Str)) = false → (n == ("__classdict__" : Str)) = false → (x == ("__debug__" : Str)) = false → PE X (.Call (.Name x p) [.Name n pe] [] pos) (tM G (.lit d))
/-- what a suite says of the exception that it holds -/
structure HotX (X : Cx) (a : Addr) (tbl : List (Str × Bool)) (xf : List (Str × D)) : Prop where
  i : HotI X a tbl
  f : ∀ x d, (x, d) ∈ xf → CallX X a x d
theorem callX_ok {Y : Cx} {a T f : Addr} {oe : Obj} {pn : List (Addr × Obj)} {fd : FuncData} {ps : List Str} {x : Str} {d : D} (F : FnX Y.prog Y.w Y.K Y.mg Y.base T f fd ps d) (room : L2H.RoomH 0 Y.A) (hz : Zc (.ref T) none oe) (hv : ∃ vs, oe.data = .fields vs) (h1 : ps.length = 1)
    (hm : Y.mg x = some (.ref f)) (hk : PySem.W.keepIn Y.K (.ref f) = true) (hb : Binds Y.K fd ps []) : CallX (Y.suite a ((a, oe) :: pn)) a x d := by
  intro G n q p pe pos hK hh hN hvs hg hdn hcd hdb
  refine ⟨fun pins s σ H Q I h => ?_⟩
  obtain ⟨U, env, hdm, he, h⟩ := h
  have h : Ok1 G.K H U d Q := h
  refine wpAny_Call_Name_kw (ld_glob I hg hm ?_ hdb)
  have args := (pa_cons (e := .Name n pe) (es := []) (pe_var hN hvs hdn hcd) pa_nil rfl).run pos pins s σ H (fun vs H' => vs = [.ref a] ∧ H' = H) I ⟨.ref a, he.2.2 q _ hh, rfl, rfl⟩
  refine PySem.W.callWith_K (h₀ := Y.base) I.ok.mod.kin hk (thn args fun us s1 ⟨vs, H1, I1, r, e1, e2⟩ => ⟨I1.kIn, ?_⟩) rfl rfl
  subst e1 e2
  have P1 := I1.pin (a, oe) (List.mem_append_left _ List.mem_cons_self)
  have pin : L2H.PinOk Y.stack H1 s1 (a, oe) := ⟨P1.1, P1.2.1, fun hm => (List.mem_cons.mp (I1.stkSub a hm)).elim P1.2.2.1 P1.2.2.2.1, P1.2.2.2.2⟩
  have bt := hb s1 us I1.kIn (by rw [List.append_nil, h1]; exact r.length.symm)
  rw [List.append_nil] at bt
  refine wpAny_call (codeAny_mono (F.run (Y.A.mark (some (.ref a))) Y.stack s1 H1 ⟨us, []⟩ us Q a oe ⟨room.dp, room.un⟩ rfl pin hz hv I1.env0 bt r ⟨U, hdm, by rw [hK] at h; exact h⟩) fun res s' hq => ?_)
  cases res with
  | error e =>
    obtain ⟨_, _, _, _, _, _, _, _, _, _, _, _, z⟩ := hq
    exact z.elim
  | ok fl =>
    cases fl with
    | ret u => exact I1.after hq
    | next => exact False.elim hq
    | brk => exact False.elim hq
    | cont => exact False.elim hq
end Q

set_option maxHeartbeats 1000000
namespace Q
open PySem PySem.Spec L2
open PyProof.Rows hiding St

/-! ## methods -/
def MtOk (K : PySem.W.Frag) (f : D → List D → R D) (r : V → List V → Hp → VK → Prop) : Prop := ∀ (H : Hp) (U : Addr → Prop) (L M : List Addr) (dx : D) (ds : List D) (d : D) (x : V) (vs : List V) (Q : VK), f dx ds = .ok d → rep K H (Or2 U (L ++ M)) dx x L → reps K H (Or2 U (L ++ M)) ds vs M →
  (L ++ M).Nodup → (∀ a ∈ L ++ M, ¬ U a) → Fin K H U (L ++ M) d Q → r x vs H Q
/-- f answers of objects of the type T only -/
def TyOk (K : PySem.W.Frag) (f : D → List D → R D) (T : String) : Prop := ∀ (H : Hp) (U : Addr → Prop) (L : List Addr) (dx : D) (ds : List D) (d : D) (x : V), f dx ds = .ok d → rep K H U dx x L → tyV K T x H
def MNe (f : D → List D → R D) : Prop := ∀ x ds e, f x ds ≠ .exc e
theorem quiet_b {σ : St} {G : Gx} {H : Hp} {x : R (List D)} {f : List D → R D} {k : D → Prop} (ne : ∀ ds e, f ds ≠ .exc e) (h : Res G σ H (x.quiet.b f) k) : ∃ ds d, x = .ok ds ∧ f ds = .ok d ∧ k d := by
  cases x with
  | ok ds =>
    have h' : Res G σ H (f ds) k := h
    cases e : f ds with
    | ok d => rw [e] at h'; exact ⟨ds, d, rfl, e, h'⟩
    | exc y => exact absurd e (ne ds y)
    | bad => rw [e] at h'; exact h'.elim
  | exc y => exact (show False from h).elim
  | bad => exact (show False from h).elim
section
variable {X : Cx} {G : Gx} {o e e2 : Expr} {es : List Expr} {mo m m2 : E} {ms : List E} {name : Str} {apos cpos : Pos}
theorem meth_run {f : D → List D → R D} {T : String} {r : V → List V → Hp → VK → Prop} {σ : St} {H : Hp} {U : Addr → Prop} {env : Env} {Q : VK} (ok : MtOk G.K f r) (ty : TyOk G.K f T) (ne : MNe f) (hd : Dom H U) (he : RepE G H U σ env)
    (h : Res G σ H ((ev G.C mo env).b fun x => (evs G.C ms env).quiet.b fun ds => f x ds) fun d => Ok1 G.K H U d Q) : tBM G.K T r (tM G mo) (tMs G ms) σ H Q := by
  refine tM_then hd he h.bind fun x v H1 L q s f1 rr => ?_
  obtain ⟨ds, d, e1, e2, q⟩ := quiet_b (ne x) q
  have il := rep_in _ _ _ rr
  refine ⟨ty _ _ _ _ _ _ _ e2 rr, ?_⟩
  refine tMs_then (U := Or2 U L) (env := env) (k := fun ds' => ds' = ds) ((hd.same s).or il) ((he.or f1.2).same s) (by rw [e1]; rfl) fun ds' vs H2 M e3 s2 f2 r2 => ?_
  subst e3
  rw [or_app'] at r2
  have fr := f1.app s il f2
  refine ok H2 U L M x _ d v vs Q e2 (rep_same s2 ?_) r2 fr.1 (fun a ha u => hd a u (fr.2 a ha)) (Ok1.fin q (s.trans s2) fr)
  rw [← or_app']
  exact rep_or f2.2 rr
theorem meth_run0 {f : D → List D → R D} {T : String} {r : V → List V → Hp → VK → Prop} {σ : St} {H : Hp} {U : Addr → Prop} {env : Env} {Q : VK} (ok : MtOk G.K f r) (ty : TyOk G.K f T) (ne : MNe f) (hd : Dom H U) (he : RepE G H U σ env)
    (h : Res G σ H ((ev G.C mo env).b fun x => (evs G.C [] env).quiet.b fun ds => f x ds) fun d => Ok1 G.K H U d Q) : tBM0 G.K T r (tM G mo) σ H Q := by
  refine tM_then hd he h.bind fun x v H1 L q s f1 rr => ?_
  obtain ⟨ds, d, e1, e2, q⟩ := quiet_b (ne x) q
  cases e1
  refine ⟨ty _ _ _ _ _ _ _ e2 rr, ?_⟩
  refine ok H1 U L [] x _ d v [] Q e2 (by rw [List.append_nil]; exact rr) ⟨rfl, rfl⟩ (by rw [List.append_nil]; exact f1.1) ?_ (by rw [List.append_nil]; exact Ok1.fin q s f1)
  rw [List.append_nil]
  exact fun a ha u => hd a u (f1.2 a ha)
theorem sim_meth {f : MF} {T id : String} {r : V → List V → Hp → VK → Prop} (hK : G.K = X.K) (ok : MtOk G.K (mfun f) r) (ty : TyOk G.K (mfun f) T) (ne : MNe (mfun f)) (pa : PlainAttrs T) (slot : Slot T name id) (hty : typeOf (.builtin id) = pure (.type "method_descriptor")) (hm : MtR X id r)
    (ho : PE X o (tM G mo)) (ha : PA X (e :: es) (tMs G ms)) (hbase : attributeBase o name X.env (eval o X.env) = eval o X.env)
    (hfew : ((backTo cpos (starEach (e :: es) X.env)).all (fun x => !x.1) && (backToKw cpos (keywordEach [] X.env)).all (fun x => x.1.isSome)
      && decide ((e :: es).length + ([] : List Keyword).length + (if ([] : List Keyword).isEmpty then 0 else 1) < 30)) = true)
    (hline : (apos.endLine == cpos.line) = true) (hs : starEach (e :: es) X.env = (false, eval e X.env) :: starEach es X.env) (hplain : (backTo cpos (starEach es X.env)).any (·.1) = false) :
    PE X (.Call (.Attribute o name apos) (e :: es) [] cpos) (tM G (.meth f mo ms)) :=
  (pe_bm pa slot hty hm ho ha hbase hfew hline hs hplain).imp fun σ H Q ⟨U, env, hd, hre, h⟩ => hK ▸ meth_run ok ty ne hd hre h
theorem sim_meth0 {f : MF} {T id : String} {r : V → List V → Hp → VK → Prop} (hK : G.K = X.K) (ok : MtOk G.K (mfun f) r) (ty : TyOk G.K (mfun f) T) (ne : MNe (mfun f)) (pa : PlainAttrs T) (slot : Slot T name id) (hty : typeOf (.builtin id) = pure (.type "method_descriptor")) (hm : MtR X id r)
    (ho : PE X o (tM G mo)) (hbase : attributeBase o name X.env (eval o X.env) = eval o X.env) (hline : (apos.endLine == cpos.line) = true) :
    PE X (.Call (.Attribute o name apos) [] [] cpos) (tM G (.meth f mo [])) :=
  (pe_bm0 pa slot hty hm ho hbase hline).imp fun σ H Q ⟨U, env, hd, hre, h⟩ => hK ▸ meth_run0 ok ty ne hd hre h
end

/-! ### texts -/
section
variable {K : PySem.W.Frag}
theorem sok_map {s : Cs} {f : Nat → Nat} (h : Sok s) (g : ∀ c, c < 128 → f c < 128) : Sok (s.map f) := ⟨by rw [List.length_map]; exact h.1, fun c hc => by
  obtain ⟨a, ha, rfl⟩ := List.mem_map.mp hc
  exact g a (h.2 a ha)⟩
theorem lower_ok : MtOk K mLower (fun x xs H Q => ∃ a, x = .str a ∧ xs = [] ∧ a.length ≤ 5592405 ∧ Q (.str (Txt.lower a)) H) := by
  intro H U L M dx ds d x vs Q e rx rr n hu fin
  unfold mLower at e
  split at e
  · rename_i s
    split at e <;> cases e
    rename_i hl
    obtain ⟨rfl, k, rfl⟩ := rx
    obtain ⟨rfl, rfl⟩ := rr
    refine ⟨_, rfl, rfl, by rw [toS_len]; exact hl, ?_⟩
    have f := fin.str (sok_map k fun c hc => by unfold lowC; split <;> omega)
    rw [PyProof.Rows.lower_ascii (by intro c hc; exact k.2 c (by simpa using hc))]
    have e2 : (⟨(toS s).cps.map PyProof.Rows.lo1⟩ : Str) = toS (List.map lowC s) := by simp [toS]; exact fun _ _ => rfl
    rw [e2]
    exact f
  · cases e
theorem upper_ok : MtOk K mUpper (fun x xs H Q => ∃ a, x = .str a ∧ xs = [] ∧ a.length ≤ 5592405 ∧ Q (.str (Txt.upper a)) H) := by
  intro H U L M dx ds d x vs Q e rx rr n hu fin
  unfold mUpper at e
  split at e
  · rename_i s
    split at e <;> cases e
    rename_i hl
    obtain ⟨rfl, k, rfl⟩ := rx
    obtain ⟨rfl, rfl⟩ := rr
    refine ⟨_, rfl, rfl, by rw [toS_len]; exact hl, ?_⟩
    have f := fin.str (sok_map k fun c hc => by unfold upC; split <;> omega)
    rw [PyProof.Rows.upper_ascii (by intro c hc; exact k.2 c (by simpa using hc))]
    have e2 : (⟨(toS s).cps.map PyProof.Rows.up1⟩ : Str) = toS (List.map upC s) := by simp [toS]; exact fun _ _ => rfl
    rw [e2]
    exact f
  · cases e
theorem subAt_toS (s t : Cs) (i : Nat) : Builtin.Str.subAt (toS s) (toS t) i = decide ((s.drop i).take t.length = t) := by
  rw [StrLaws.subAt_eq]
  have e1 : (toS t).length = t.length := toS_len
  rw [e1]
  rw [Bool.eq_iff_iff]
  simp
theorem starts_eq (s t : Cs) : Txt.startswith (toS s) (toS t) = decide (t.length ≤ s.length ∧ s.take t.length = t) := by
  unfold Txt.startswith
  rw [subAt_toS, toS_len, toS_len, Bool.eq_iff_iff]
  simp
theorem ends_eq (s t : Cs) : Txt.endswith (toS s) (toS t) = decide (t.length ≤ s.length ∧ s.drop (s.length - t.length) = t) := by
  unfold Txt.endswith
  rw [subAt_toS, toS_len, toS_len, Bool.eq_iff_iff]
  simp only [Nat.zero_add, Bool.and_eq_true, decide_eq_true_eq]
  constructor
  · rintro ⟨h1, h2⟩
    refine ⟨h1, ?_⟩
    rw [List.take_of_length_le (by rw [List.length_drop]; omega)] at h2
    exact h2
  · rintro ⟨h1, h2⟩
    refine ⟨h1, ?_⟩
    rw [List.take_of_length_le (by rw [List.length_drop]; omega)]
    exact h2
theorem starts_ok : MtOk K mStarts (fun x xs H Q => ∃ a b, x = .str a ∧ xs = [.str b] ∧ Q (.bl (Txt.startswith a b)) H) := by
  intro H U L M dx ds d x vs Q e rx rr n hu fin
  unfold mStarts at e
  split at e <;> cases e
  obtain ⟨rfl, k, rfl⟩ := rx
  obtain ⟨v, rfl, rfl, k2, rfl⟩ := reps1 rr
  exact ⟨_, _, rfl, rfl, by rw [starts_eq]; exact fin.bl⟩
theorem ends_ok : MtOk K mEnds (fun x xs H Q => ∃ a b, x = .str a ∧ xs = [.str b] ∧ Q (.bl (Txt.endswith a b)) H) := by
  intro H U L M dx ds d x vs Q e rx rr n hu fin
  unfold mEnds at e
  split at e <;> cases e
  obtain ⟨rfl, k, rfl⟩ := rx
  obtain ⟨v, rfl, rfl, k2, rfl⟩ := reps1 rr
  exact ⟨_, _, rfl, rfl, by rw [ends_eq]; exact fin.bl⟩
theorem occ_findC (s : Cs) (c : Nat) : (findC s c = none ∧ Builtin.Str.occurrences (toS s) (toS [c]) 0 (toS s).length 1 = []) ∨ ∃ i r, findC s c = some i ∧ Builtin.Str.occurrences (toS s) (toS [c]) 0 (toS s).length 1 = i :: r := by
  have at_iff : ∀ i, StrLaws.At (toS s) (toS [c]) (toS s).length i ↔ s[i]? = some c := fun i => by
    have := StrLaws.subAt_one (toS s) c i
    simpa [StrLaws.At] using this
  rcases StrLaws.occ_head (toS s) (toS [c]) 1 (Nat.le_refl _) with ⟨h1, h2⟩ | ⟨i, r, h1, h2, h3⟩
  · refine .inl ⟨?_, h1⟩
    unfold findC
    rw [List.findIdx?_eq_none_iff]
    intro a ha
    obtain ⟨i, hi⟩ := List.mem_iff_getElem?.mp ha
    refine decide_eq_false fun e => h2 i ((at_iff i).mpr (by rw [hi, e]))
  · refine .inr ⟨i, r, ?_, h1⟩
    have g := (at_iff i).mp h2
    obtain ⟨hl, hg⟩ := List.getElem?_eq_some_iff.mp g
    unfold findC
    rw [List.findIdx?_eq_some_iff_getElem]
    refine ⟨hl, decide_eq_true hg, fun j hj hq => h3 j hj ((at_iff j).mpr ?_)⟩
    rw [List.getElem?_eq_getElem (Nat.lt_trans hj hl)]
    exact congrArg some (of_decide_eq_true hq)
theorem find_ok : MtOk K mFind (fun x xs H Q => ∃ a b, x = .str a ∧ xs = [.str b] ∧ Q (.int (Txt.find a b)) H) := by
  intro H U L M dx ds d x vs Q e rx rr n hu fin
  unfold mFind at e
  split at e
  · rename_i s t
    split at e
    · rename_i c
      obtain ⟨rfl, k, rfl⟩ := rx
      obtain ⟨v, rfl, rfl, k2, rfl⟩ := reps1 rr
      refine ⟨_, _, rfl, rfl, ?_⟩
      unfold Txt.find
      rcases occ_findC s c with ⟨h1, h2⟩ | ⟨i, r, h1, h2⟩
      · rw [h1] at e
        cases e
        rw [h2]
        exact fin.int
      · rw [h1] at e
        cases e
        rw [h2]
        exact fin.int
    · cases e
  · cases e
theorem index_ok : MtOk K mIndex (fun x xs H Q => ∃ a b i rest, x = .str a ∧ xs = [.str b] ∧ Builtin.Str.occurrences a b 0 a.length 1 = i :: rest ∧ Q (.int (i : Nat)) H) := by
  intro H U L M dx ds d x vs Q e rx rr n hu fin
  unfold mIndex at e
  split at e
  · rename_i s t
    split at e
    · rename_i c
      obtain ⟨rfl, k, rfl⟩ := rx
      obtain ⟨v, rfl, rfl, k2, rfl⟩ := reps1 rr
      rcases occ_findC s c with ⟨h1, h2⟩ | ⟨i, r, h1, h2⟩
      · rw [h1] at e
        cases e
      · rw [h1] at e
        cases e
        exact ⟨_, _, i, r, rfl, rfl, h2, fin.int⟩
    · cases e
  · cases e
theorem pre_one (c a : Nat) (r : List Nat) : TL.pre [c] (a :: r) = decide (a = c) := by
  show (((a :: r).take 1) == [c]) = _
  rw [Bool.eq_iff_iff]
  simp
theorem par_findC (c : Nat) : ∀ (s acc : Cs), TL.par [c] acc s = match findC s c with
    | some i => some (acc ++ s.take i, s.drop (i + 1))
    | none => none
  | [], acc => rfl
  | a :: r, acc => by
    have e : TL.par [c] acc (a :: r) = if TL.pre [c] (a :: r) = true then some (acc, (a :: r).drop [c].length) else TL.par [c] (acc ++ [a]) r := rfl
    rw [e, pre_one]
    unfold findC
    rw [List.findIdx?_cons]
    by_cases h : a = c
    · rw [if_pos (decide_eq_true h), decide_eq_true h]
      simp
    · rw [if_neg (by simpa using h), decide_eq_false h, par_findC c r (acc ++ [a])]
      show (match findC r c with
        | some i => some ((acc ++ [a]) ++ r.take i, r.drop (i + 1))
        | none => none) = match (findC r c).map fun i => i + 1 with
        | some i => some (acc ++ (a :: r).take i, (a :: r).drop (i + 1))
        | none => none
      cases findC r c with
      | none => rfl
      | some i => simp
theorem part_ok : MtOk K mPart (fun x xs H Q => ∃ a b, x = .str a ∧ xs = [.str b] ∧ (b.length == 0) = false ∧ a.length ≤ sizeLine ∧
    ∀ p, H p = none → Q (.ref p) (upd H p (.tup [.str (Txt.partition a b).1, .str (Txt.partition a b).2.1, .str (Txt.partition a b).2.2]))) := by
  intro H U L M dx ds d x vs Q e rx rr n hu fin
  unfold mPart at e
  split at e
  · rename_i s t
    split at e
    · rename_i c
      obtain ⟨rfl, k, rfl⟩ := rx
      obtain ⟨v, rfl, rfl, k2, rfl⟩ := reps1 rr
      refine ⟨_, _, rfl, rfl, rfl, by rw [toS_len]; exact Nat.le_trans k.1 (by decide), ?_⟩
      have hp := par_findC c s []
      have tk : ∀ i, Sok (s.take i) := fun i => ⟨Nat.le_trans (by rw [List.length_take]; exact Nat.min_le_right _ _) k.1, fun a ha => k.2 a (List.mem_of_mem_take ha)⟩
      have dk : ∀ i, Sok (s.drop i) := fun i => ⟨Nat.le_trans (by rw [List.length_drop]; exact Nat.sub_le _ _) k.1, fun a ha => k.2 a (List.mem_of_mem_drop ha)⟩
      have ek : Sok [] := ⟨Nat.zero_le _, fun a ha => nomatch ha⟩
      cases hf : findC s c with
      | none =>
        rw [hf] at e hp
        cases e
        rw [show Txt.partition (toS s) (toS [c]) = (toS s, toS [], toS []) from SX.partition_none (by simp) hp]
        exact fin.newT (ds := [.str s, .str [], .str []]) (vs := [.str (toS s), .str (toS []), .str (toS [])]) (L := []) (by show 3 ≤ lim; decide) .nil (fun _ z => nomatch z) ⟨_, _, [], [], rfl, rfl, ⟨rfl, k, rfl⟩, _, _, [], [], rfl, rfl, ⟨rfl, ek, rfl⟩, _, _, [], [], rfl, rfl, ⟨rfl, ek, rfl⟩, rfl, rfl⟩
      | some i =>
        rw [hf] at e hp
        cases e
        rw [show Txt.partition (toS s) (toS [c]) = (toS (s.take i), toS [c], toS (s.drop (i + 1))) from SX.partition_some (by simp) (by rw [hp]; rfl)]
        exact fin.newT (ds := [.str (s.take i), .str [c], .str (s.drop (i + 1))]) (vs := [.str (toS (s.take i)), .str (toS [c]), .str (toS (s.drop (i + 1)))]) (L := []) (by show 3 ≤ lim; decide) .nil (fun _ z => nomatch z) ⟨_, _, [], [], rfl, rfl, ⟨rfl, tk i, rfl⟩, _, _, [], [], rfl, rfl, ⟨rfl, k2, rfl⟩, _, _, [], [], rfl, rfl, ⟨rfl, dk _, rfl⟩, rfl, rfl⟩
    · cases e
  · cases e
theorem cnt_countP (c : Nat) : ∀ s : Cs, PyProof.Rows.cnt c s = ((s.countP fun a => decide (a = c) : Nat) : Int)
  | [] => rfl
  | a :: r => by
    rw [PyProof.Rows.cnt_cons, cnt_countP c r, List.countP_cons]
    by_cases h : a = c
    · rw [if_pos h, if_pos (decide_eq_true h)]; omega
    · rw [if_neg h, if_neg (by simpa using h)]; omega
theorem count_ok : MtOk K mCount (fun x xs H Q => ∃ a b, x = .str a ∧ xs = [.str b] ∧ Q (.int (Txt.count a b)) H) := by
  intro H U L M dx ds d x vs Q e rx rr n hu fin
  unfold mCount at e
  split at e
  · rename_i s t
    split at e
    · rename_i c
      cases e
      obtain ⟨rfl, k, rfl⟩ := rx
      obtain ⟨v, rfl, rfl, k2, rfl⟩ := reps1 rr
      refine ⟨_, _, rfl, rfl, ?_⟩
      have e1 : Txt.count (toS s) (toS [c]) = ((s.countP fun a => decide (a = c) : Nat) : Int) := by
        rw [show Txt.count (toS s) (toS [c]) = PyProof.Rows.cnt c (toS s).cps.toList from PyProof.Rows.count_is (toS s) c, ← cnt_countP]
      rw [e1]
      exact fin.int
    · cases e
  · cases e
theorem joinL_len (s : Cs) : ∀ ps : List Cs, (TL.joinL s ps).length ≤ (ps.map List.length).sum + ps.length * s.length
  | [] => Nat.zero_le _
  | [p] => by simp [TL.joinL]
  | p :: q :: r => by
    have h := joinL_len s (q :: r)
    show (p ++ (s ++ TL.joinL s (q :: r))).length ≤ _
    rw [List.length_append, List.length_append, List.map_cons, List.sum_cons, List.length_cons, Nat.add_mul, Nat.one_mul]
    omega
theorem joinL_mem {s : Cs} {c : Nat} : ∀ {ps : List Cs}, c ∈ TL.joinL s ps → c ∈ s ∨ ∃ p ∈ ps, c ∈ p
  | [], h => nomatch h
  | [p], h => .inr ⟨p, List.mem_cons_self, h⟩
  | p :: q :: r, h => by
    have h : c ∈ p ++ (s ++ TL.joinL s (q :: r)) := h
    rcases List.mem_append.mp h with h | h
    · exact .inr ⟨p, List.mem_cons_self, h⟩
    · rcases List.mem_append.mp h with h | h
      · exact .inl h
      · rcases joinL_mem h with h | ⟨z, h1, h2⟩
        · exact .inl h
        · exact .inr ⟨z, List.mem_cons_of_mem _ h1, h2⟩
theorem join_fin {H : Hp} {U : Addr → Prop} {N : List Addr} {Q : VK} {s : Cs} {xs : List D} {d : D} {vs : List V} {H' : Hp} {U' : Addr → Prop} {L : List Addr} (k : Sok s) (e : joinD s xs = .ok d) (r : reps K H' U' xs vs L) (fin : Fin K H U N d Q) :
    ∃ ys : List Str, vs = ys.map V.str ∧ (ys.map (·.length)).sum + ys.length * (toS s).length ≤ 16777216 ∧ Q (.str (Txt.join (toS s) ys)) H := by
  unfold joinD at e
  split at e
  · rename_i ps hp
    split at e <;> cases e
    rename_i hb
    rw [strsOf_some hp] at r
    obtain ⟨rfl, rfl, hs⟩ := reps_strs r
    refine ⟨ps.map toS, by rw [List.map_map]; rfl, ?_, ?_⟩
    · rw [List.map_map, List.length_map, toS_len]
      have e2 : ps.map ((fun x : Str => x.length) ∘ toS) = ps.map List.length := List.map_congr_left fun a _ => toS_len
      have e3 : lim = 16777216 := rfl
      rw [← e3]
      first | (rw [e2]; exact hb) | (simp only [Function.comp_def] at e2 ⊢; rw [e2]; exact hb)
    · have f := fin.str ⟨Nat.le_trans (joinL_len s ps) hb, fun c hc => by
        rcases joinL_mem hc with h | ⟨p, h1, h2⟩
        · exact k.2 c h
        · exact (hs p h1).2 c h2⟩
      have e4 : Txt.join (toS s) (ps.map toS) = toS (TL.joinL s ps) := SX.join_S s ps
      rw [e4]
      exact f
  · cases e
theorem join_ok : MtOk K mJoin (fun x xs H Q => ∃ a p, ∃ ys : List Str, x = .str a ∧ xs = [.ref p] ∧ (SqL K H p (ys.map V.str) ∨ SqT K H p (ys.map V.str)) ∧ (ys.map (·.length)).sum + ys.length * a.length ≤ 16777216 ∧ Q (.str (Txt.join a ys)) H) := by
  intro H U L M dx ds d x vs Q e rx rr n hu fin
  unfold mJoin at e
  split at e
  · obtain ⟨rfl, k, rfl⟩ := rx
    split at e
    · obtain ⟨v, rfl, r⟩ := reps1 rr
      obtain ⟨a, ws, L', rfl, q, r1, _⟩ := sq_of_lst r
      obtain ⟨ys, rfl, h1, h2⟩ := join_fin k e r1 fin
      exact ⟨_, a, ys, rfl, rfl, .inl q, h1, h2⟩
    · obtain ⟨v, rfl, r⟩ := reps1 rr
      obtain ⟨a, ws, ⟨rfl, b1⟩, q, r1⟩ := r
      obtain ⟨ys, rfl, h1, h2⟩ := join_fin k e r1 fin
      exact ⟨_, a, ys, rfl, rfl, .inr q, h1, h2⟩
    · cases e
  · cases e
theorem str_ty {f : D → List D → R D} (h : ∀ x ds d, f x ds = .ok d → ∃ s, x = .str s) : TyOk K f "str" := fun H U L dx ds d x e r => by
  obtain ⟨s, rfl⟩ := h _ _ _ e
  obtain ⟨rfl, _⟩ := r
  exact rfl
theorem strM {f : MF} (hf : f = .lower ∨ f = .upper ∨ f = .starts ∨ f = .ends ∨ f = .find ∨ f = .index ∨ f = .join ∨ f = .part ∨ f = .count) : ∀ x ds d, mfun f x ds = .ok d → ∃ s, x = .str s := by
  intro x ds d e
  rcases hf with rfl | rfl | rfl | rfl | rfl | rfl | rfl | rfl | rfl
  · have e : mLower x ds = .ok d := e
    unfold mLower at e
    split at e <;> first | exact ⟨_, rfl⟩ | cases e
  · have e : mUpper x ds = .ok d := e
    unfold mUpper at e
    split at e <;> first | exact ⟨_, rfl⟩ | cases e
  · have e : mStarts x ds = .ok d := e
    unfold mStarts at e
    split at e <;> first | exact ⟨_, rfl⟩ | cases e
  · have e : mEnds x ds = .ok d := e
    unfold mEnds at e
    split at e <;> first | exact ⟨_, rfl⟩ | cases e
  · have e : mFind x ds = .ok d := e
    unfold mFind at e
    split at e <;> first | exact ⟨_, rfl⟩ | cases e
  · have e : mIndex x ds = .ok d := e
    unfold mIndex at e
    split at e <;> first | exact ⟨_, rfl⟩ | cases e
  · have e : mJoin x ds = .ok d := e
    unfold mJoin at e
    split at e <;> first | exact ⟨_, rfl⟩ | cases e
  · have e : mPart x ds = .ok d := e
    unfold mPart at e
    split at e <;> first | exact ⟨_, rfl⟩ | cases e
  · have e : mCount x ds = .ok d := e
    unfold mCount at e
    split at e <;> first | exact ⟨_, rfl⟩ | cases e
theorem joinD_ne {s : Cs} {xs : List D} {x : Ex} : joinD s xs ≠ .exc x := by
  unfold joinD
  split
  · split <;> simp
  · simp
theorem mf_ne (f : MF) : MNe (mfun f) := by
  intro x ds e
  cases f <;> simp only [mfun, ne_eq, reduceCtorEq, not_false_eq_true] <;> first
    | (unfold mJoin; split <;> first | (split <;> first | exact joinD_ne | simp) | simp; done)
    | (unfold mLower; split <;> (try split) <;> simp; done) | (unfold mUpper; split <;> (try split) <;> simp; done) | (unfold mStarts; split <;> simp; done) | (unfold mEnds; split <;> simp; done)
    | (unfold mFind; split <;> (try split) <;> (try split) <;> simp; done) | (unfold mIndex; split <;> (try split) <;> (try split) <;> simp; done)
    | (unfold mPart; split <;> (try split) <;> (try split) <;> simp; done) | (unfold mCount; split <;> (try split) <;> simp; done) | (unfold mReplace; split <;> (try split) <;> (try split) <;> simp; done)
    | (unfold mGet dgetD; split <;> (try split) <;> (try split) <;> (try split) <;> (try split) <;> simp; done)
end
/-- the methods of texts -/
def mthS : MF → Option String
  | .lower => some "lower"
  | .upper => some "upper"
  | .starts => some "startswith"
  | .ends => some "endswith"
  | .find => some "find"
  | .index => some "index"
  | .join => some "join"
  | .part => some "partition"
  | .count => some "count"
  | _ => none
section
variable {X : Cx} {G : Gx} {o e e2 : Expr} {es : List Expr} {mo m m2 : E} {ms : List E} {name : Str} {apos cpos : Pos}
theorem sim_smeth {f : MF} {n : String} (hK : G.K = X.K) (hf : mthS f = some n) (hn : name = Str.ofString n) (ho : PE X o (tM G mo)) (ha : PA X (e :: es) (tMs G ms)) (hbase : attributeBase o name X.env (eval o X.env) = eval o X.env)
    (hfew : ((backTo cpos (starEach (e :: es) X.env)).all (fun x => !x.1) && (backToKw cpos (keywordEach [] X.env)).all (fun x => x.1.isSome)
      && decide ((e :: es).length + ([] : List Keyword).length + (if ([] : List Keyword).isEmpty then 0 else 1) < 30)) = true)
    (hline : (apos.endLine == cpos.line) = true) (hs : starEach (e :: es) X.env = (false, eval e X.env) :: starEach es X.env) (hplain : (backTo cpos (starEach es X.env)).any (·.1) = false) :
    PE X (.Call (.Attribute o name apos) (e :: es) [] cpos) (tM G (.meth f mo ms)) := by
  subst hn
  cases f <;> cases hf
  · exact sim_meth hK (hK ▸ join_ok) (str_ty (strM (by simp))) (mf_ne _) PySem.F.plainAttrs_str PySem.F.slot_str_join PySem.F.type_str_join mt_join ho ha hbase hfew hline hs hplain
  · exact sim_meth hK find_ok (str_ty (strM (by simp))) (mf_ne _) PySem.F.plainAttrs_str PySem.F.slot_str_find PySem.F.type_str_find mt_find ho ha hbase hfew hline hs hplain
  · exact sim_meth hK starts_ok (str_ty (strM (by simp))) (mf_ne _) PySem.F.plainAttrs_str PySem.F.slot_str_startswith PySem.F.type_str_startswith mt_startswith ho ha hbase hfew hline hs hplain
  · exact sim_meth hK ends_ok (str_ty (strM (by simp))) (mf_ne _) PySem.F.plainAttrs_str PySem.F.slot_str_endswith PySem.F.type_str_endswith mt_endswith ho ha hbase hfew hline hs hplain
  · exact sim_meth hK lower_ok (str_ty (strM (by simp))) (mf_ne _) PySem.F.plainAttrs_str PySem.F.slot_str_lower PySem.F.type_str_lower mt_lower ho ha hbase hfew hline hs hplain
  · exact sim_meth hK upper_ok (str_ty (strM (by simp))) (mf_ne _) PySem.F.plainAttrs_str PySem.F.slot_str_upper PySem.F.type_str_upper mt_upper ho ha hbase hfew hline hs hplain
  · exact sim_meth hK count_ok (str_ty (strM (by simp))) (mf_ne _) PySem.F.plainAttrs_str PySem.F.slot_str_count PySem.F.type_str_count mt_count ho ha hbase hfew hline hs hplain
  · exact sim_meth hK index_ok (str_ty (strM (by simp))) (mf_ne _) PySem.F.plainAttrs_str PySem.F.slot_str_index PySem.F.type_str_index mt_sindex ho ha hbase hfew hline hs hplain
  · exact sim_meth hK part_ok (str_ty (strM (by simp))) (mf_ne _) PySem.F.plainAttrs_str PySem.F.slot_str_partition PySem.F.type_str_partition mt_partition ho ha hbase hfew hline hs hplain
theorem sim_smeth0 {f : MF} {n : String} (hK : G.K = X.K) (hf : mthS f = some n) (hn : name = Str.ofString n) (ho : PE X o (tM G mo)) (hbase : attributeBase o name X.env (eval o X.env) = eval o X.env) (hline : (apos.endLine == cpos.line) = true) :
    PE X (.Call (.Attribute o name apos) [] [] cpos) (tM G (.meth f mo [])) := by
  subst hn
  cases f <;> cases hf
  · exact sim_meth0 hK (hK ▸ join_ok) (str_ty (strM (by simp))) (mf_ne _) PySem.F.plainAttrs_str PySem.F.slot_str_join PySem.F.type_str_join mt_join ho hbase hline
  · exact sim_meth0 hK find_ok (str_ty (strM (by simp))) (mf_ne _) PySem.F.plainAttrs_str PySem.F.slot_str_find PySem.F.type_str_find mt_find ho hbase hline
  · exact sim_meth0 hK starts_ok (str_ty (strM (by simp))) (mf_ne _) PySem.F.plainAttrs_str PySem.F.slot_str_startswith PySem.F.type_str_startswith mt_startswith ho hbase hline
  · exact sim_meth0 hK ends_ok (str_ty (strM (by simp))) (mf_ne _) PySem.F.plainAttrs_str PySem.F.slot_str_endswith PySem.F.type_str_endswith mt_endswith ho hbase hline
  · exact sim_meth0 hK lower_ok (str_ty (strM (by simp))) (mf_ne _) PySem.F.plainAttrs_str PySem.F.slot_str_lower PySem.F.type_str_lower mt_lower ho hbase hline
  · exact sim_meth0 hK upper_ok (str_ty (strM (by simp))) (mf_ne _) PySem.F.plainAttrs_str PySem.F.slot_str_upper PySem.F.type_str_upper mt_upper ho hbase hline
  · exact sim_meth0 hK count_ok (str_ty (strM (by simp))) (mf_ne _) PySem.F.plainAttrs_str PySem.F.slot_str_count PySem.F.type_str_count mt_count ho hbase hline
  · exact sim_meth0 hK index_ok (str_ty (strM (by simp))) (mf_ne _) PySem.F.plainAttrs_str PySem.F.slot_str_index PySem.F.type_str_index mt_sindex ho hbase hline
  · exact sim_meth0 hK part_ok (str_ty (strM (by simp))) (mf_ne _) PySem.F.plainAttrs_str PySem.F.slot_str_partition PySem.F.type_str_partition mt_partition ho hbase hline
/-! ### d.get(k, x) -/
theorem tM_mono {σ : St} {H : Hp} {Q Q' : VK} (h : tM G m σ H Q) (k : ∀ v H', Q v H' → Q' v H') : tM G m σ H Q' := by
  obtain ⟨U, env, hd, he, r⟩ := h
  exact ⟨U, env, hd, he, r.mono fun d _ q v H1 L s f rr => k _ _ (q v H1 L s f rr)⟩
theorem tMs_nil {σ : St} {H : Hp} {Q : List V → Hp → Prop} (h : tMs G [] σ H Q) : Q [] H := by
  obtain ⟨U, env, hd, he, r⟩ := h
  exact (show Oks G.K H U [] _ from r) [] H [] (Same.refl H) .nil ⟨rfl, rfl⟩
theorem tMs_two {σ : St} {H : Hp} {Q : List V → Hp → Prop} (h : tMs G [m, m2] σ H Q) : tM G m σ H fun y H1 => tM G m2 σ H1 fun z H2 => Q [y, z] H2 :=
  tM_mono (tMs_cons h) fun y H1 h1 => tM_mono (tMs_cons h1) fun z H2 h2 => tMs_nil h2
def rDGet : V → List V → Hp → VK → Prop := fun x vs H Q => ∃ a y z o, x = .ref a ∧ vs = [y, z] ∧ DGet H a y o ∧ Q (o.getD z) H
theorem flatD_nil {K : PySem.W.Frag} {H : Hp} {U : Addr → Prop} {d : D} {v : V} {L : List Addr} (f : flatD d = true) (r : rep K H U d v L) : L = [] := by
  cases d with
  | non => exact r.2
  | bl _ => exact r.2
  | int _ => exact r.2
  | str _ => exact r.2.2
  | tup _ => cases f
  | lst _ _ => cases f
  | dic _ _ => cases f
  | dct _ _ => cases f
  | ptu _ => cases f
  | fn _ => cases f
theorem get_ok {K : PySem.W.Frag} : MtOk K (mfun .get) rDGet := by
  intro H U L M dx ds d x vs Q e rx rr n hu fin
  have e : mGet dx ds = .ok d := e
  unfold mGet at e
  split at e
  · rename_i k0 d0
    unfold dgetD at e
    split at e
    · rename_i o kvs
      split at e
      · rename_i q hk
        obtain ⟨y, z, L1, L2, rfl, rfl, r1, r2⟩ := reps2 rr
        obtain ⟨a, ks, L', rfl, r, h, zz⟩ := rx
        have sL : ∀ b ∈ L', b ∈ L := by
          rcases zz with ⟨_, rfl⟩ | ⟨_, _, rfl, rfl⟩
          · exact fun b hb => List.mem_cons_of_mem _ hb
          · exact fun b hb => hb
        have ek := keyD_rep hk r1
        refine ⟨a, y, z, valV ks (kyK q), rfl, rfl, by rw [ek]; exact .k h, ?_⟩
        split at e
        · rename_i v hl
          cases e
          obtain ⟨w, N, e1, r3, i1, m1⟩ := repk_look r.1 hl
          rw [e1]
          have r4 : rep K H U v w N := rep_set (fun a z => .inl (.inl z)) r3
          have r5 := rep_sh v w N (fun b hb => hu b (List.mem_append_left _ (sL b (i1 b hb)))) r4
          exact fin.old .nil (fun b hb => nomatch hb) (rep_set (fun a z => .inl z.nil) r5)
        · rename_i hl
          split at e
          · rename_i hf
            cases e
            rw [repk_lookN r.1 hl]
            have e2 := flatD_nil hf r2
            subst e2
            exact fin.old .nil (fun b hb => nomatch hb) (rep_less (fun b hb => nomatch hb) r2)
          · cases e
      · cases e
    · cases e
  · cases e
theorem get_ty {K : PySem.W.Frag} : TyOk K (mfun .get) "dict" := by
  intro H U L dx ds d x e r
  have e : mGet dx ds = .ok d := e
  unfold mGet at e
  split at e
  · unfold dgetD at e
    split at e
    · obtain ⟨a, ks, L', rfl, r1, h, zz⟩ := r
      exact .inr (.inr (.inl ⟨rfl, .inl ⟨ks, h⟩⟩))
    · cases e
  · cases e
theorem sim_get (hK : G.K = X.K) (hu : X.A.units + 1 < cLine) (hn : name = "get") (ho : PE X o (tM G mo)) (h1 : PE X e (tM G m)) (h2 : PE X e2 (tM G m2)) (mm : M2 X o "get" apos e e2 cpos) : PE X (.Call (.Attribute o name apos) [e, e2] [] cpos) (tM G (.meth .get mo [m, m2])) := by
  subst hn
  refine (pe_dget2 hu ho h1 h2 mm).imp fun σ H Q ⟨U, env, hd, hre, h⟩ => ?_
  refine tM_mono (meth_run get_ok get_ty (mf_ne _) hd hre h) fun x H1 ⟨ty, q⟩ => ?_
  have hx : ∃ a, x = .ref a ∧ IsD H1 a := by
    cases x with
    | ref p =>
      rcases ty with ⟨z, _⟩ | ⟨z, _⟩ | ⟨_, z⟩ | ⟨z, _⟩
      · exact absurd z (by decide)
      · exact absurd z (by decide)
      · exact ⟨p, rfl, z.elim (fun ⟨k, h⟩ => .inl ⟨k, .inl h⟩) fun ⟨k, h⟩ => .inr ⟨k, .inl h⟩⟩
      · exact absurd z (by decide)
    | str _ => exact absurd (show ("dict" : String) = "str" from ty) (by decide)
    | int _ => exact absurd (show ("dict" : String) = "int" from ty) (by decide)
    | _ => exact (show False from ty).elim
  obtain ⟨a, rfl, hi⟩ := hx
  refine ⟨a, rfl, hi, ?_⟩
  refine tM_mono (tMs_two q) fun y H2 q2 => tM_mono q2 fun z H3 ⟨a', y', z', o', e1, e2, g, q3⟩ => ?_
  cases e1
  cases e2
  exact ⟨o', g, q3⟩
end
end Q

set_option maxHeartbeats 1000000
namespace Q
open PySem PySem.Spec L2
open PyProof.Rows hiding St

/-! ## x[::-1] -/
theorem rev_list (x : Str) : ((Builtin.Str.strSliceIndices none none (-1) x.length).filterMap (x.cps[·]?)) = x.cps.toList.reverse := by
  rw [picked_rev, filterMap_get, List.map_map]
  · refine List.ext_getElem? fun i => ?_
    have hl : x.length = x.cps.toList.length := by simp [Str.length]
    by_cases h : i < x.length
    · rw [List.getElem?_map, List.getElem?_range h, List.getElem?_reverse (by omega)]
      have h2 : x.length - 1 - i < x.cps.size := by simp [Str.length] at h ⊢; omega
      simp [Str.length] at h2
      simp [Array.getD, h2, Str.length]
    · rw [List.getElem?_eq_none (by simp; omega), List.getElem?_eq_none (by simp [Str.length] at h ⊢; omega)]
  · intro i hi
    obtain ⟨k, hk, rfl⟩ := List.mem_map.mp hi
    have hk' : k < x.length := List.mem_range.mp hk
    show x.length - 1 - k < x.length
    omega
/-! a tuple's items from behind -/
theorem adj_back (n : Nat) : Builtin.Slice.sliceAdjust none none (-1) (n : Int) = ((n : Int) - 1, -1) := rfl
theorem places_back (n : Nat) : Builtin.Slice.slicePlaces ((n : Int) - 1) (-1) (-1) = n := by
  show (if (-1 : Int) > 0 then _ else if (n : Int) - 1 > -1 then ((n : Int) - 1 - -1 - 1) / (- -1) + 1 else 0).toNat = n
  rw [if_neg (by decide)]
  by_cases h : (n : Int) - 1 > -1
  · rw [if_pos h, show (- -1 : Int) = 1 from rfl, Int.ediv_one]; omega
  · rw [if_neg h]; omega
theorem fm_same {α β : Type} {f g : α → Option β} : ∀ {l : List α}, (∀ x ∈ l, f x = g x) → l.filterMap f = l.filterMap g
  | [], _ => rfl
  | x :: r, h => by
    rw [List.filterMap_cons, List.filterMap_cons, h x List.mem_cons_self, fm_same fun y hy => h y (List.mem_cons_of_mem _ hy)]
theorem pick_back (xs : Array Value) : ((List.range xs.size).filterMap fun (k : Nat) => xs[((xs.size : Int) - 1 + (k : Int) * (-1)).toNat]?).toArray = xs.toList.reverse.toArray := by
  have g := HT.pick_gen xs.toList.reverse.toArray 0 xs.size
  have e : ((xs.toList.reverse.toArray.toList.drop 0).take xs.size).toArray = xs.toList.reverse.toArray := by
    rw [List.drop_zero, List.toList_toArray, List.take_of_length_le (by rw [List.length_reverse, Array.length_toList]; exact Nat.le_refl _)]
  rw [← e, ← g]
  refine congrArg List.toArray (fm_same fun k hk => ?_)
  have hk' : k < xs.size := List.mem_range.mp hk
  rw [show ((xs.size : Int) - 1 + (k : Int) * (-1)).toNat = xs.size - 1 - k by omega, show (((0 : Nat) : Int) + (k : Int) * 1).toNat = k by omega]
  rw [show xs.toList.reverse.toArray[k]? = xs.toList.reverse[k]? from List.getElem?_toArray, List.getElem?_reverse (by rw [Array.length_toList]; exact hk'), Array.length_toList, ← Array.getElem?_toList]
section
variable {prog : Program} {w : World} {A : Around} {E : Value → Shared → Prop} {s : Shared}
theorem applied_back {sl : Addr} {vl vu vs : Value} {n : Nat} {Q : Int × Int × Nat → Shared → Prop} (hs : s.heap.IsSliceOf sl vl vu vs) (pl : IsPart vl none) (pu : IsPart vu none) (ps : IsPart vs (some (-1)))
    (h : Q ((n : Int) - 1, -1, n) s) : wpAny (model prog w) A (Builtin.Slice.sliceApplied (.ref sl) (pure (n : Int))) Q E s := by
  obtain ⟨o1, h1, _, h2⟩ := id hs
  unfold Builtin.Slice.sliceApplied Builtin.Slice.sliceFields
  refine wpAny_bind (wpAny_bind (wpAny_field h1 h2 (x := vl) rfl (wpAny_bind (wpAny_field h1 h2 (x := vu) rfl (wpAny_bind (wpAny_field h1 h2 (x := vs) rfl (wpAny_pure ?_)))))))
  refine wpAny_bind (HT.slicePart_ ps ?_)
  show wpAny _ _ (if ((-1 : Int) == 0) = true then _ else _) _ _ s
  rw [if_neg (by decide)]
  refine wpAny_bind (HT.slicePart_ pl (wpAny_bind (HT.slicePart_ pu (wpAny_bind (wpAny_pure ?_)))))
  show wpAny _ _ (match Builtin.Slice.sliceAdjust none none (-1) (n : Int) with | (lo, hi) => pure (lo, (-1 : Int), Builtin.Slice.slicePlaces lo hi (-1))) _ _ s
  rw [adj_back]
  show wpAny _ _ (pure ((n : Int) - 1, (-1 : Int), Builtin.Slice.slicePlaces ((n : Int) - 1) (-1) (-1))) _ _ s
  rw [places_back]
  exact wpAny_pure h
theorem item_back {t sl : Addr} {items : Array Value} {vl vu vs : Value} {Q : Value → Shared → Prop} (ht : IsTup s.heap t items) (hs : s.heap.IsSliceOf sl vl vu vs) (pl : IsPart vl none) (pu : IsPart vu none) (ps : IsPart vs (some (-1)))
    (h : Q (.ref s.heap.objs.size) { s with heap := s.heap.push { cls := .type "tuple", data := .seq items.toList.reverse.toArray } }) (hz : items.size ≤ sizeLine) : wpAny (model prog w) A (getItem (.ref t) (.ref sl)) Q E s := by
  have fits : sizeOk (.seq items.toList.reverse.toArray) := by
    show items.toList.reverse.toArray.size ≤ sizeLine
    rw [List.size_toArray, List.length_reverse, Array.length_toList]
    exact hz
  obtain ⟨o1, h1, h2, h3⟩ := id hs
  have ty : s.TypeIs (.ref sl) "slice" := ⟨o1, h1, h2⟩
  unfold getItem
  try with_reducible refine wpAny_holding ?_
  first | refine wpAny_bind (wpAny_pure ?_) | skip
  refine wpAny_bind (wpAny_sequenceKey ht.typeIs (by decide) ?_)
  refine wpAny_bind (wpAny_callSpecial?_slot (name := Str.ofString "__getitem__") ht.typeIs PyProof.Rows.slot_tuple_getitem (wpAny_call_entry PyProof.Rows.slot_tuple_getitem ht.typeIs entry_tuple_getitem ?_ (args_tuple_getitem _ _)))
  show wpAny _ _ (Builtin.Tuple.tupleItemsOf (.ref t) >>= _) _ _ s
  refine wpAny_bind (tupleItemsOf_ ht (wpAny_bind (wpAny_typeOf ty ?_)))
  rw [if_pos (by decide)]
  refine wpAny_bind (applied_back hs pl pu ps ?_)
  show wpAny _ _ (if ((items.size : Int) - 1 == 0 && (-1 : Int) == 1 && items.size == items.size) = true then _ else _) _ _ s
  rw [if_neg (by simp), pick_back]
  first
    | exact wpAny_bind (m := Builtin.Tuple.tupleExact _) (wpAny_newObj_type (wpAny_pure ⟨_, rfl, wpAny_pure h⟩) fits)
    | exact wpAny_bind (m := Builtin.Tuple.tupleExact _) (wpAny_newObj_type (wpAny_bind (wpAny_pure (wpAny_pure ⟨_, rfl, wpAny_pure h⟩))) fits)
    | exact wpAny_bind (wpAny_bind (m := Builtin.Tuple.tupleExact _) (wpAny_newObj_type (wpAny_pure (wpAny_pure ⟨_, rfl, wpAny_pure h⟩)) fits))
    | exact wpAny_bind (wpAny_bind (m := Builtin.Tuple.tupleExact _) (wpAny_newObj_type (wpAny_pure ⟨_, rfl, wpAny_pure h⟩) fits))
end
def tRev (K : PySem.W.Frag) (te : TE) : TE := fun σ H Q => te σ H fun x H1 => (∃ a xs, x = .ref a ∧ SqL K H1 a xs ∧ ∀ p, H1 p = none → Q (.ref p) (upd H1 p (.lst xs.reverse))) ∨ (∃ z : Str, x = .str z ∧ z.length ≤ sizeLine ∧ Q (.str ⟨z.cps.toList.reverse.toArray⟩) H1) ∨ ∃ a xs, x = .ref a ∧ SqT K H1 a xs ∧ ∀ p, H1 p = none → Q (.ref p) (upd H1 p (.tup xs.reverse))
theorem pe_rev {X : Cx} {e : Expr} {te : TE} {k : Nat} {p1 p2 p3 pos : Pos} (he : PE X e te) : PE X (.Subscript e (.Slice none none (some (.UnaryOp .USub (.Constant (.int 1) k p1) p2)) p3) pos) (tRev X.K te) := by
  refine ⟨fun pins s σ H Q I h => ?_⟩
  refine Subscript_ (thn (he.run pins s σ H _ I h) fun v s1 ⟨x, H1, I1, r1, q1⟩ => ?_)
  have hst : PO X (some (.UnaryOp .USub (.Constant (.int 1) k p1) p2)) (tPart (tUn (rU fun i => .int (-i)) (tC (.int 1)))) := po_some (pe_un un_neg pe_int)
  refine wpAny_Slice (thn (po_none.run pins s1 σ H1 (fun o H2 => o = none ∧ H2 = H1) I1 ⟨rfl, rfl⟩) fun vl s2 ⟨l, H2, I2, pl, el, e2⟩ => ?_)
  subst el e2
  refine thn (po_none.run pins s2 σ H2 (fun o H3 => o = none ∧ H3 = H2) I2 ⟨rfl, rfl⟩) fun vu s3 ⟨u, H3, I3, pu, eu, e3⟩ => ?_
  subst eu e3
  refine thn (hst.run pins s3 σ H3 (fun o H4 => o = some (-1) ∧ H4 = H3) I3 ⟨1, rfl, -1, rfl, rfl, rfl⟩) fun vs s4 ⟨o, H4, I4, ps, eo, e4⟩ => ?_
  subst eo e4
  have I5 : Inv X pins σ H4 { s4 with heap := s4.heap.push { cls := .type "slice", data := .fields #[vl, vu, vs] } } := I4.kept (t' := s4.toks) fun b ob q => Heap.get?_push_of_some _ q
  rcases q1 with ⟨a, xs, ex, hx, q⟩ | ⟨z, ex, hz, q⟩ | ⟨a, xs, ex, hx, q⟩
  · subst ex
    cases r1
    obtain ⟨its, r, ht, hz⟩ := I5.list hx
    have hlen := r.length
    show wpAny (model X.prog X.w) X.A (subscriptTail e (.Slice none none (some (.UnaryOp .USub (.Constant (.int 1) k p1) p2)) p3) (.ref a) (.ref s4.heap.objs.size)) (EP X pins σ Q) X.xe { s4 with heap := s4.heap.push { cls := .type "slice", data := .fields #[vl, vu, vs] } }
    refine tail_any (ops := [.ref a, .ref s4.heap.objs.size]) ht.isList.typeIs (PySem.slot_list_getitem.lookup) ?_ (by with_unfolding_all rfl)
    refine wpAny_getItem_list_slice ht.isList (Heap.IsSliceOf.new _ vl vu vs) pl pu ps (by decide) ?_ (by rw [List.size_toArray]; omega)
    rw [PySem.W.krv_pick]
    refine ⟨.ref _, _, I5.laid (t' := s4.toks) (o := .lst xs.reverse) (fun b ob q => Heap.get?_push_of_some _ q) (Nat.le_refl _) ?_, rfl, q _ (I5.hok.fresh (Nat.le_refl _))⟩
    exact ⟨by rw [List.length_reverse]; exact hz, _, 0, r.reverse, Heap.get?_push_size _ rfl⟩
  · subst ex
    obtain ⟨t, rfl⟩ := r1
    obtain ⟨l, rfl, hl1⟩ := IsPart.raw pl
    obtain ⟨u, rfl, hu1⟩ := IsPart.raw pu
    obtain ⟨w, rfl, hw1⟩ := IsPart.raw ps
    cases l with
    | some _ => cases hl1
    | none =>
    cases u with
    | some _ => cases hu1
    | none =>
    cases w with
    | none => cases hw1
    | some w =>
    obtain ⟨wi, wt⟩ := w
    have e5 : wi = -1 := by simpa using hw1
    subst e5
    show wpAny (model X.prog X.w) X.A (subscriptTail e (.Slice none none (some (.UnaryOp .USub (.Constant (.int 1) k p1) p2)) p3) (.str z t) (.ref s4.heap.objs.size)) (EP X pins σ Q) X.xe { s4 with heap := s4.heap.push { cls := .type "slice", data := .fields #[partValue none, partValue none, partValue (some (-1, wt))] } }
    refine tail_any (ops := [.str z t, .ref s4.heap.objs.size]) (typeIs_str _ _ _) (PySem.F.slot_str_getitem.lookup) ?_ (by with_unfolding_all rfl)
    refine wpAny_getItem_str_slice (l := none) (u := none) (st := some (-1, wt)) ⟨_, Heap.get?_push_size _ rfl, rfl, rfl⟩ (by rfl) ?_
    have e6 := rev_list z
    show Made.post (if ((-1 : Int) == 1 && _) = true then _ else Made.str ⟨((Builtin.Str.strSliceIndices none none (-1) z.length).filterMap (z.cps[·]?)).toArray⟩) _ _
    rw [if_neg (by simp), e6]
    refine ⟨?_, .str _, H4, I5.tok _, ⟨_, rfl⟩, q⟩
    show (z.cps.toList.reverse.toArray).size ≤ sizeLine
    rw [List.size_toArray, List.length_reverse]
    simpa [Str.length] using hz
  · subst ex
    cases r1
    obtain ⟨its, r, ht, hz⟩ := I5.tuple hx
    have hlen := r.length
    show wpAny (model X.prog X.w) X.A (subscriptTail e (.Slice none none (some (.UnaryOp .USub (.Constant (.int 1) k p1) p2)) p3) (.ref a) (.ref s4.heap.objs.size)) (EP X pins σ Q) X.xe { s4 with heap := s4.heap.push { cls := .type "slice", data := .fields #[vl, vu, vs] } }
    refine tail_any (ops := [.ref a, .ref s4.heap.objs.size]) ht.typeIs (PyProof.Rows.slot_tuple_getitem.lookup) ?_ (by with_unfolding_all rfl)
    refine item_back ht (Heap.IsSliceOf.new _ vl vu vs) pl pu ps ?_ (by rw [List.size_toArray]; omega)
    refine ⟨.ref _, _, I5.laid (t' := s4.toks) (o := .tup xs.reverse) (fun b ob q => Heap.get?_push_of_some _ q) (Nat.le_refl _) ?_, rfl, q _ (I5.hok.fresh (Nat.le_refl _))⟩
    exact ⟨by rw [List.length_reverse]; exact hz, its.reverse, r.reverse, IsTup.new _ _⟩
section
variable {X : Cx} {G : Gx} {e : Expr} {m : E} {ms : List E} {pos : Pos}
theorem sim_rev {k : Nat} {p1 p2 p3 : Pos} (hK : G.K = X.K) (he : PE X e (tM G m)) : PE X (.Subscript e (.Slice none none (some (.UnaryOp .USub (.Constant (.int 1) k p1) p2)) p3) pos) (tM G (.rev m)) :=
  (pe_rev he).imp fun σ H Q ⟨U, env, hd, hre, h⟩ => by
    have h' : Res G σ H ((ev G.C m env).b revv) fun d => Ok1 G.K H U d Q := h
    refine tM_then hd hre h'.bind fun d v H1 L q s f rr => ?_
    have hu : ∀ a ∈ L, ¬ U a := fun a ha u => hd a u (f.2 a ha)
    have T : ∀ ds, rep G.K H1 (Or2 U L) (.tup ds) v L → Ok1 G.K H U (.tup (shs ds).reverse) Q → ∃ a xs, v = V.ref a ∧ SqT X.K H1 a xs ∧ ∀ p, H1 p = none → Q (.ref p) (upd H1 p (.tup xs.reverse)) := fun ds rr q' => by
      obtain ⟨a, ws, ⟨rfl, b1⟩, sq, r1⟩ := rr
      have r2 := reps_rev0 (reps_shN r1 (fun b hb => hb) hu)
      exact ⟨a, ws, rfl, hK ▸ sq, (q'.fin s f).newT (by rw [List.length_reverse, shs_length]; exact b1) .nil (fun b hb => by cases hb) r2⟩
    cases d with
    | str z =>
      obtain ⟨rfl, kk, rfl⟩ := rr
      have q' : Ok1 G.K H U (.str z.reverse) Q := q
      refine .inr (.inl ⟨toS z, rfl, by rw [toS_len]; exact kk.1, ?_⟩)
      have e1 : (⟨(toS z).cps.toList.reverse.toArray⟩ : Str) = toS z.reverse := by simp [toS]
      rw [e1]
      exact q' _ _ [] s .nil ⟨rfl, ⟨by rw [List.length_reverse]; exact kk.1, fun c hc => kk.2 c (by simpa using hc)⟩, rfl⟩
    | tup ds =>
      have q' : Ok1 G.K H U (.tup (shs ds).reverse) Q := q
      exact .inr (.inr (T ds rr q'))
    | ptu ks =>
      have q' : Ok1 G.K H U (.tup (shs (ks.map fun kv => D.tup [.str kv.1, .int kv.2])).reverse) Q := q
      exact .inr (.inr (T _ (ptu_tup rr) q'))
    | _ => exact False.elim (show False from q)

/-! ## f-strings -/
theorem evs_ok_cons {C : Nat → List D → R D} {env : Env} {ds : List D} (h : evs C (m :: ms) env = .ok ds) : ∃ x xs, ev C m env = .ok x ∧ evs C ms env = .ok xs ∧ ds = x :: xs := by
  have h : ((ev C m env).b fun x => (evs C ms env).b fun xs => .ok (x :: xs)) = .ok ds := h
  cases e1 : ev C m env with
  | ok x =>
    rw [e1] at h
    have h : ((evs C ms env).b fun xs => .ok (x :: xs)) = .ok ds := h
    cases e2 : evs C ms env with
    | ok xs => rw [e2] at h; cases h; exact ⟨x, xs, rfl, rfl, rfl⟩
    | exc y => rw [e2] at h; cases h
    | bad => rw [e2] at h; cases h
  | exc y => rw [e1] at h; cases h
  | bad => rw [e1] at h; cases h
theorem fmts_cons {d : D} {r : List D} {s : Cs} (h : fmts (d :: r) = .ok s) : ∃ s1 s2, fmt1 d = .ok s1 ∧ fmts r = .ok s2 ∧ s1.length + s2.length ≤ lim ∧ s = s1 ++ s2 := by
  have h0 : ((fmt1 d).b fun s => (fmts r).b fun t => if s.length + t.length ≤ lim then .ok (s ++ t) else .bad) = .ok s := h
  clear h
  cases e1 : fmt1 d with
  | ok s1 =>
    rw [e1] at h0
    have h1 : ((fmts r).b fun t => if s1.length + t.length ≤ lim then .ok (s1 ++ t) else .bad) = .ok s := h0
    clear h0
    cases e2 : fmts r with
    | ok s2 =>
      rw [e2] at h1
      have h2 : (if s1.length + s2.length ≤ lim then R.ok (s1 ++ s2) else .bad) = .ok s := h1
      clear h1
      split at h2 <;> cases h2
      rename_i hl
      exact ⟨s1, s2, rfl, rfl, hl, rfl⟩
    | exc y => rw [e2] at h1; cases h1
    | bad => rw [e2] at h1; cases h1
  | exc y => rw [e1] at h0; cases h0
  | bad => rw [e1] at h0; cases h0
theorem fmt1_rep {K : PySem.W.Frag} {H : Hp} {U : Addr → Prop} {d : D} {v : V} {L : List Addr} {s : Cs} (h : fmt1 d = .ok s) (r : rep K H U d v L) : Sok s ∧ (v = .str (toS s) ∨ ∃ i : Int, v = .int i ∧ i.natAbs.log2 < 1920 ∧ (toString i : Str) = toS s) := by
  unfold fmt1 at h
  split at h
  · cases h
    obtain ⟨rfl, k, _⟩ := r
    exact ⟨k, .inl rfl⟩
  · split at h <;> cases h
    rename_i hi
    obtain ⟨rfl, _⟩ := r
    exact ⟨numL_sok (by omega), .inr ⟨_, rfl, log_small hi.1 hi.2, str_num hi.1⟩⟩
  · cases h
theorem sok_len {s : Cs} (h : Sok s) : (toS s).length ≤ sizeLine := by rw [toS_len]; exact h.1
theorem fjs_run : ∀ {ms : List E} {acc : Cs} {ds : List D} {s : Cs} {σ : St} {H : Hp} {U : Addr → Prop} {env : Env} {Q : Str → Hp → Prop}, Dom H U → RepE G H U σ env → Sok acc → evs G.C ms env = .ok ds → fmts ds = .ok s → acc.length + s.length ≤ lim →
    (∀ H', Same H H' → Sok (acc ++ s) → Q (toS (acc ++ s)) H') → tJs (ms.map fun m => tFmt (tM G m)) (toS acc) σ H Q
  | [], acc, ds, s, σ, H, U, env, Q, hd, he, ka, h1, h2, hl, k => by
    cases h1
    cases h2
    have := k H (Same.refl H) (by rw [List.append_nil]; exact ka)
    rw [List.append_nil] at this
    exact this
  | m :: ms, acc, ds, s, σ, H, U, env, Q, hd, he, ka, h1, h2, hl, k => by
    obtain ⟨x, xs, e1, e2, rfl⟩ := evs_ok_cons h1
    obtain ⟨s1, s2, e3, e4, e5, rfl⟩ := fmts_cons h2
    rw [List.length_append] at hl
    show tM G m σ H _
    refine tM_then (k := fun d => d = x) hd he (by rw [e1]; rfl) fun d v H1 L ed ss f rr => ?_
    subst ed
    obtain ⟨k1, hv⟩ := fmt1_rep e3 rr
    have ka2 := sok_app ka k1 (by omega)
    have rest : ∃ y : Str, (V.str (toS s1)) = .str y ∧ (toS acc ++ y).length ≤ sizeLine ∧ tJs (ms.map fun m => tFmt (tM G m)) (toS acc ++ y) σ H1 Q := by
      refine ⟨_, rfl, ?_, ?_⟩
      · rw [toS_app]; exact sok_len ka2
      · rw [toS_app]
        refine fjs_run (U := U) (hd.same ss) (he.same ss) ka2 e2 e4 (by rw [List.length_append]; omega) fun H' s' kk => ?_
        rw [List.append_assoc] at kk ⊢
        exact k H' (ss.trans s') kk
    rcases hv with rfl | ⟨i, rfl, hlog, ei⟩
    · exact .inl ⟨_, rfl, sok_len k1, rest⟩
    · exact .inr ⟨i, rfl, hlog, by rw [ei]; exact rest⟩
theorem fmts_ne : ∀ (ds : List D) (y : Ex), fmts ds ≠ .exc y
  | [], y, e => by cases e
  | d :: r, y, e0 => by
    have e : ((fmt1 d).b fun s => (fmts r).b fun t => if s.length + t.length ≤ lim then .ok (s ++ t) else .bad) = .exc y := e0
    have h1 : ∀ z, fmt1 d ≠ .exc z := fun z => by unfold fmt1; split <;> (try split) <;> simp
    have ih := fmts_ne r
    cases e1 : fmt1 d with
    | ok s1 =>
      rw [e1] at e
      have e : ((fmts r).b fun t => if s1.length + t.length ≤ lim then .ok (s1 ++ t) else .bad) = .exc y := e
      cases e2 : fmts r with
      | ok s2 =>
        rw [e2] at e
        have e : (if s1.length + s2.length ≤ lim then R.ok (s1 ++ s2) else .bad) = .exc y := e
        split at e <;> cases e
      | exc w => exact ih w e2
      | bad => rw [e2] at e; cases e
    | exc w => exact h1 w e1
    | bad => rw [e1] at e; cases e
theorem fstr_quiet {σ : St} {H : Hp} {x : R (List D)} {k : D → Prop} (h : Res G σ H (x.quiet.b fun ds => (fmts ds).b fun s => .ok (.str s)) k) : ∃ ds s, x = .ok ds ∧ fmts ds = .ok s ∧ k (.str s) := by
  cases x with
  | ok ds =>
    have h : Res G σ H ((fmts ds).b fun s => .ok (.str s)) k := h
    cases e : fmts ds with
    | ok s => rw [e] at h; exact ⟨ds, s, rfl, e, h⟩
    | exc y => exact absurd e (fmts_ne ds y)
    | bad => rw [e] at h; exact h.elim
  | exc y => exact (show False from h).elim
  | bad => exact (show False from h).elim
/-- a part of an f-string -/
inductive PF (X : Cx) (G : Gx) : Expr → E → Prop where
  | txt {e : Expr} {x : Cs} (h : PE X e (tM G (.lit (.str x)))) : PF X G e (.lit (.str x))
  | fmt {e : Expr} {m : E} {pos : Pos} (h : PE X e (tM G m)) : PF X G (.FormattedValue e (-1) none pos) m
theorem PF.pe {e : Expr} {m : E} (h : PF X G e m) : PE X e (tFmt (tM G m)) := by
  cases h with
  | txt h =>
    refine h.imp fun σ H Q hq => ?_
    obtain ⟨U, env, hd, he, r⟩ := hq
    refine ⟨U, env, hd, he, r.mono fun d e1 q v H1 L s f rr => ?_⟩
    cases e1
    obtain ⟨rfl, k, rfl⟩ := rr
    rcases q _ H1 [] s f ⟨rfl, k, rfl⟩ with ⟨y, e2, _, q⟩ | ⟨i, e2, _⟩
    · cases e2; exact q
    · cases e2
  | fmt h => exact pe_fmt h
theorem sim_fstr {es : List Expr} (h : ∀ (i : Nat) (e : Expr) (m : E), es[i]? = some e → ms[i]? = some m → PF X G e m) (hl : es.length = ms.length) (h2 : 2 ≤ es.length) : PE X (.JoinedStr es pos) (tM G (.fstr ms)) := by
  have pj : ∀ {es : List Expr} {ms : List E}, (∀ (i : Nat) (e : Expr) (m : E), es[i]? = some e → ms[i]? = some m → PF X G e m) → es.length = ms.length → PJ X es (ms.map fun m => tFmt (tM G m)) := by
    intro es
    induction es with
    | nil => intro ms h hl; cases ms with
      | nil => exact .nil
      | cons _ _ => cases hl
    | cons e es ih => intro ms h hl; cases ms with
      | nil => cases hl
      | cons m ms => exact .cons (h 0 e m rfl rfl).pe (ih (fun i e' m' h1 h2 => h (i + 1) e' m' h1 h2) (Nat.succ.inj hl))
  match es, h, hl, h2 with
  | v1 :: v2 :: rest, h, hl, _ =>
    refine (pe_joined (pj h hl)).imp fun σ H Q ⟨U, env, hd, he, r⟩ => ?_
    have r' : Res G σ H ((evs G.C ms env).quiet.b fun ds => (fmts ds).b fun s => .ok (.str s)) fun d => Ok1 G.K H U d Q := r
    obtain ⟨ds, s, e1, e2, q⟩ := fstr_quiet r'
    have e0 : Str.empty = toS [] := rfl
    rw [e0]
    have hs : s.length ≤ lim := by
      cases ds with
      | nil => cases e2; exact Nat.zero_le _
      | cons d r =>
        obtain ⟨s1, s2, _, _, h5, rfl⟩ := fmts_cons e2
        rw [List.length_append]; exact h5
    exact fjs_run hd he ⟨Nat.zero_le _, fun _ hc => nomatch hc⟩ e1 e2 (by simpa using hs) fun H' ss kk => q _ H' [] ss .nil ⟨rfl, kk, rfl⟩
end
/-! ## () -/
theorem pe_emp {X : Cx} {k} {pos : Pos} : PE X (.Tuple [] k pos) (fun σ H Q => ∀ (p : Addr) (o : Obj), H p = none → o.cls = .type "tuple" → o.dict = none → Q (.ref p) (upd H p (.frz o (.tup [])))) := by
  refine ⟨fun pins s σ H Q I hq => ?_⟩
  refine wpAny_Tuple_spliced (thn (pa_nil.run pos pins s σ H (fun xs H1 => xs = [] ∧ H1 = H) I ⟨rfl, rfl⟩) fun us s1 ⟨xs, H1, I1, r, e1, e2⟩ => ?_)
  subst e1 e2
  cases r
  have hf : H1 s1.heap.objs.size = none := I1.hok.fresh (Nat.le_refl _)
  exact ⟨Nat.zero_le _, .ref s1.heap.objs.size, _, I1.laid (t' := s1.toks) (fun b u e => Heap.get?_push_of_some _ e) (Nat.le_refl _) (show ObjOk X.prog X.w _ _ _ (.frz { cls := .type "tuple", data := .seq [].toArray } (.tup [])) from ⟨Heap.get?_push_size _ rfl, Nat.zero_le _, [], .nil, ⟨_, Heap.get?_push_size _ rfl, rfl, _, rfl⟩⟩), rfl, hq _ _ hf rfl rfl⟩
theorem sim_emp {X : Cx} {G : Gx} {k} {pos : Pos} : PE X (.Tuple [] k pos) (tM G (.lit (.ptu []))) := pe_emp.imp fun σ H Q ⟨U, env, hd, he, r⟩ p o hp h1 h2 =>
  (show Ok1 G.K H U (.ptu []) Q from r) _ _ [] (same_upd hp) .nil ⟨p, [], ⟨rfl, Nat.zero_le _⟩, ⟨o, upd_same, h1, h2⟩, .nil, rfl⟩
end Q

set_option maxHeartbeats 1000000
namespace Q
open PySem PySem.Spec L2
open PyProof.Rows hiding St

/-! ## max(xs, default=d) -/
def rMaxd (K : PySem.W.Frag) : List V → Hp → VK → Prop := fun vs H Q => ∃ a ws ns d, vs = [.ref a, .int d] ∧ SqL K H a ws ∧ DpAll K H ws (pys (ns.map D.int)) ∧ Q (.int (match ns with
  | [] => d
  | n :: r => r.foldl max n)) H
theorem pys_ints : ∀ ns : List Int, pys (ns.map D.int) = ns.map PyData.int
  | [] => rfl
  | n :: r => congrArg (PyData.int n :: ·) (pys_ints r)
theorem depth_int1 : ∀ ns : List Int, PyData.depthAll (ns.map PyData.int) ≤ 1
  | [] => Nat.zero_le _
  | n :: r => by
    have := depth_int1 r
    show max (PyData.depth (.int n)) (PyData.depthAll (r.map PyData.int)) ≤ 1
    have : PyData.depth (.int n) ≤ 1 := by simp [PyData.depth]
    omega
theorem foldl_max : ∀ (ns : List Int) (n : Int), ns.foldl max n = maxL (n :: ns)
  | [], n => rfl
  | m :: r, n => by
    show r.foldl max (max n m) = max n (maxL (m :: r))
    rw [foldl_max r]
    cases r with
    | nil => rfl
    | cons k r =>
      show max (max n m) (maxL (k :: r)) = max n (max m (maxL (k :: r)))
      omega
theorem maxd_ok {K : PySem.W.Frag} : CallOk K (bfun .maxd) (rMaxd K) := by
  intro H U L ds d vs Q e rr n hu fin
  have e : fMaxd ds = .ok d := e
  have sp : ∃ o xs d0, ds = [.lst o xs, .int d0] := by
    unfold fMaxd at e
    split at e
    · exact ⟨_, _, _, rfl⟩
    · cases e
  obtain ⟨o, xs, d0, rfl⟩ := sp
  have e : (match intsOf xs with
    | some [] => R.ok (D.int d0)
    | some (n :: ns) => .ok (.int (maxL (n :: ns)))
    | none => .bad) = .ok d := e
  · obtain ⟨v, w, L1, L2, rfl, rfl, r1, ⟨rfl, rfl⟩⟩ := reps2 rr
    obtain ⟨a, ws, L', rfl, q, r2, _⟩ := sq_of_lst r1
    cases hi : intsOf xs with
    | none => rw [hi] at e; cases e
    | some ns =>
      rw [hi] at e
      rw [intsOf_some hi] at r2
      have hd : deps (ns.map D.int) < 100 := by
        have : ∀ ns : List Int, deps (ns.map D.int) = 0 := by
          intro ns
          induction ns with
          | nil => rfl
          | cons k r ih => show max 0 (deps (r.map D.int)) = 0; rw [ih]; rfl
        rw [this]; omega
      refine ⟨a, ws, ns, d0, rfl, q, dps_of _ _ _ hd r2, ?_⟩
      cases ns with
      | nil => cases e; exact fin.int
      | cons k r =>
        cases e
        show Q (.int (r.foldl max k)) H
        rw [foldl_max]
        exact fin.int
section
variable {X : Cx} {G : Gx} {p pos kp : Pos} {e e2 : Expr} {m m2 : E}
theorem pe_maxd {x nm : Str} (hx : x = Str.ofString "max") (hnm : nm = Str.ofString "default") (hc : X.calm = true) (hu : X.A.units + 65 < cLine) (hg : Gl X x) (hm : X.mg x = none) (hdb : (x == ("__debug__" : Str)) = false) (h1 : PE X e (tM G m)) (h2 : PE X e2 (tM G m2)) (hs : starEach [e] X.env = (false, eval e X.env) :: starEach [] X.env) :
    PE X (.Call (.Name x p) [e] [⟨some nm, e2, kp⟩] pos) (fun σ H Q => tM G m σ H fun y H1 => tM G m2 σ H1 fun z H2 => rMaxd X.K [y, z] H2 Q) := by
  subst hx hnm
  refine ⟨fun pins s σ H Q I h => ?_⟩
  refine wpAny_Call_Name_kw (ld_blt I hg hm (show bootBuiltins (Str.ofString "max") = some (.builtin "max") by decide +kernel) ?_ (by decide +kernel) hdb)
  have hb : backTo pos (starEach [e] X.env) = (false, eval e X.env) :: backTo pos (starEach [] X.env) := by rw [hs]; rfl
  refine PyProof.Rows.callWith_kw ?_ hb (by rw [hb]; simp [starEach, backTo]) (by rfl) (by rfl)
  refine thn ((pa_cons h1 pa_nil hs).run pos pins s σ H (fun vs H1 => ∃ y, vs = [y] ∧ tM G m2 σ H1 fun z H2 => rMaxd X.K [y, z] H2 Q) I (tM_mono h fun y H1 q => ⟨y, rfl, q⟩)) fun us s1 ⟨vs, H1, I1, r1, y, ev, q1⟩ => ?_
  subst ev
  refine thn ((pk_cons h2 pk_nil).run pos pins s1 σ H1 (fun zs H2 => ∃ z, zs = [z] ∧ rMaxd X.K [y, z] H2 Q) I1 (tM_mono q1 fun z H2 q => ⟨z, rfl, q⟩)) fun ws s2 ⟨zs, H2, I2, r2, z, ez, q2⟩ => ?_
  subst ez
  obtain ⟨a, ys, ns, d, ex, hq, hd, q⟩ := q2
  cases ex
  obtain ⟨u1, rfl, ru⟩ := vals1 r1
  cases ru
  obtain ⟨u2, rfl, t, rfl⟩ := vals1 r2
  obtain ⟨its, rv, hl, _⟩ := I2.list hq
  obtain ⟨as, hr⟩ := Dp.readsAll I2 _ ys its hd rv
  rw [pys_ints] at hr
  have hdp := depth_int1 ns
  show wpAny _ _ (call (.builtin "max") [.ref a] [(Str.ofString "default", .int d t)]) _ _ _
  refine PySem.W.max_list_default (xs := ns.map PyData.int) (as := as) (I2.ok.hd hc) hl.isList (show ReadsAll s2.heap its.toArray.toList (ns.map PyData.int) as from hr) ⟨fun y hy z hz => ?_, fun y hy => ?_⟩ (by omega) (fun e h' tk hk => ?_) fun y ys' i v h' tk bs e hv hR hk => ?_
  · obtain ⟨n, _, rfl⟩ := List.mem_map.mp hy
    obtain ⟨n2, _, rfl⟩ := List.mem_map.mp hz
    rfl
  · obtain ⟨n, _, rfl⟩ := List.mem_map.mp hy
    intro h; cases h
  · have : ns = [] := List.map_eq_nil_iff.mp e
    subst this
    exact ⟨.int d, H2, I2.kept (t' := tk) hk, ⟨t, rfl⟩, q⟩
  · cases ns with
    | nil => cases e
    | cons n r =>
      rw [List.map_cons] at e
      injection e with e1 e2
      subst e1 e2
      rw [PySem.W.maxD_ints] at hR
      cases hR
      exact ⟨.int _, H2, I2.kept (t' := tk) hk, ⟨_, rfl⟩, q⟩
end
section
variable {X : Cx} {G : Gx} {p pos kp : Pos} {e e2 : Expr} {m m2 : E}
theorem sim_maxd {x nm : Str} (hK : G.K = X.K) (hx : x = Str.ofString "max") (hnm : nm = Str.ofString "default") (hc : X.calm = true) (hu : X.A.units + 65 < cLine) (hg : Gl X x) (hm : X.mg x = none) (hdb : (x == ("__debug__" : Str)) = false) (h1 : PE X e (tM G m)) (h2 : PE X e2 (tM G m2)) (hs : starEach [e] X.env = (false, eval e X.env) :: starEach [] X.env) :
    PE X (.Call (.Name x p) [e] [⟨some nm, e2, kp⟩] pos) (tM G (.bf .maxd [m, m2])) :=
  (pe_maxd hx hnm hc hu hg hm hdb h1 h2 hs).imp fun σ H Q ⟨U, env, hd, hre, h⟩ => hK ▸ tMs_two (bf_run maxd_ok (bf_ne .maxd) hd hre h)
end
end Q

set_option maxHeartbeats 1000000
namespace Q
open PySem PySem.Spec L2
open PyProof.Rows hiding St

/-! ## the translation of expressions -/
/-- exceptions: the classes that are raised, by name; the clauses: the class that they take (by number), what isinstance tells of it -/
structure ExTb where
  exs : List (Str × Nat)
  trys : List (Str × Nat × List (Str × Bool))
  xfs : List (Str × List (Str × D))   -- defs that a clause asks about what it holds, and what they tell
  own : List Str                      -- defs whose first argument is handed over
def ExTb.xf (t : ExTb) (x : Str) : List (Str × D) := (t.xfs.lookup x).getD []
structure Tc where
  N : List Str
  M : List Nat
  zl : List (Nat × List Nat)
  glo : List (Str × D)
  fns : List (Str × Nat × Nat)
  blt : List Str
  xt : ExTb
  vfs : List (Str × Nat × Nat)   -- defs that are values
  cms : List (Str × Nat)           -- defs of two arguments that change the second one, as they are called so
  pin : Option Nat                 -- a name whose list the caller holds
  hot : Bool
  hq : Option Nat
  tbl : List (Str × Bool)
  xf : List (Str × D)
/-- in a suite -/
def Tc.hotC (c : Tc) (q : Option Nat) (tbl : List (Str × Bool)) (xf : List (Str × D)) : Tc := { c with hot := true, hq := q, tbl := tbl, xf := xf }
def slotOf (N : List Str) (x : Str) : Option Nat := match N with
  | [] => none
  | y :: r => if x = y then some 0 else (slotOf r x).map (· + 1)
theorem slotOf_get : ∀ {N : List Str} {x : Str} {i : Nat}, slotOf N x = some i → N[i]? = some x
  | [], x, i, h => nomatch h
  | y :: r, x, i, h => by
    unfold slotOf at h
    split at h
    · rename_i e
      cases h
      rw [e]; rfl
    · obtain ⟨j, h1, h2⟩ := Option.map_eq_some_iff.mp h
      subst h2
      have := slotOf_get h1
      exact this
def glN (c : Tc) (sc : Scope) (x : Str) : Bool := decide (sc.names.lookup x = some .globalImplicit)
/-- a built-in name -/
def isG (c : Tc) (sc : Scope) (x : Str) (n : String) : Bool := decide (x = Str.ofString n) && (decide (x ∈ c.blt) && glN c sc x)
def okN (x : Str) : Bool := !(x == ("__debug__" : Str)) && !(x == ("__classdict__" : Str))
def trN (c : Tc) (sc : Scope) (z : Nat → Bool) (x : Str) : Option E :=
  if okN x then (match sc.names.lookup x with
    | some .globalImplicit => (c.glo.lookup x).map .lit
    | some .globalExplicit => none
    | none => none
    | some _ => (slotOf c.N x).bind fun i => if c.M.contains i then (if z i then some (.mvar i) else none) else some (.var i)) else none
def trK (k : Const) : Option E := match k with
  | .int i => some (.lit (.int i))
  | .bool b => some (.lit (.bl b))
  | .none => some (.lit .non)
  | .str x => if x.cps.toList.length ≤ lim ∧ x.cps.toList.all (fun c => decide (c < 128)) = true then some (.lit (.str x.cps.toList)) else none
  | _ => none
def boOf : Operator → Option BO
  | .Add => some .add
  | .Sub => some .sub
  | .Mult => some .mul
  | .FloorDiv => some .fdiv
  | .Mod => some .mod
  | .Pow => some .pow
  | _ => none
theorem boOf_op {op : Operator} {o : BO} (h : boOf op = some o) : opOf o = op := by
  cases op <;> cases h <;> rfl
def coOf : CmpOp → CO
  | .Eq => .eq
  | .NotEq => .ne
  | .Lt => .lt
  | .LtE => .le
  | .Gt => .gt
  | .GtE => .ge
  | .Is => .is
  | .IsNot => .isnot
  | .In => .isin
  | .NotIn => .notin
theorem coOf_op (op : CmpOp) : cmpOf (coOf op) = op := by cases op <;> rfl
def isStar : Expr → Bool
  | .Starred _ _ => true
  | _ => false
def isIf : Expr → Bool
  | .IfExp _ _ _ _ => true
  | _ => false
def isSl : Expr → Bool
  | .Slice _ _ _ _ => true
  | _ => false
def trAll (f : Expr → Option E) : List Expr → Option (List E)
  | [] => some []
  | e :: r => if isStar e then none else (f e).bind fun m => (trAll f r).map fun ms => m :: ms
def trBool (f : Expr → Option E) (op : BoolOp) : List Expr → Option E
  | [] => none
  | [a] => if isIf a then none else f a
  | a :: b :: r => if isIf a then none else (f a).bind fun m => (trBool f op (b :: r)).map fun m2 => match op with
    | .And => .and_ m m2
    | .Or => .or_ m m2
def bfOf (c : Tc) (sc : Scope) (x : Str) : Option BF :=
  if isG c sc x "len" then some .len else if isG c sc x "sum" then some .sum else if isG c sc x "max" then some .max else if isG c sc x "min" then some .min else
  if isG c sc x "all" then some .all else if isG c sc x "any" then some .any else if isG c sc x "int" then some .int else if isG c sc x "str" then some .str else
  if isG c sc x "tuple" then some .tuple else if isG c sc x "list" then some .list else if isG c sc x "dict" then some .dict else
  if isG c sc x "sorted" then some .sorted else none
def tyOf (c : Tc) (sc : Scope) (x : Str) : Option Ty :=
  if isG c sc x "int" then some .int else if isG c sc x "bool" then some .bool else if isG c sc x "str" then some .str else if isG c sc x "list" then some .list else
  if isG c sc x "tuple" then some .tuple else if isG c sc x "dict" then some .dict else none
def trTys (c : Tc) (sc : Scope) : List Expr → Option (List Ty)
  | [] => some []
  | .Name y _ :: r => if okN y = true then (tyOf c sc y).bind fun t => (trTys c sc r).map fun ts => t :: ts else none
  | _ :: _ => none
/-- constant keys -/
def trKy : Option Expr → Option Ky
  | some (.Constant (.str x) _ _) => if x.cps.toList.length ≤ lim ∧ x.cps.toList.all (fun c => decide (c < 128)) = true then some (.inr x.cps.toList) else none
  | some (.Constant (.int i) _ _) => some (.inl i)
  | _ => none
def trKys : List (Option Expr) → Option (List Ky)
  | [] => some []
  | k :: r => (trKy k).bind fun q => (trKys r).map fun ks => q :: ks
/-- the exception that the suite holds -/
def hotE (c : Tc) (sc : Scope) : Expr → Bool
  | .Name x _ => c.hot && (okN x && (decide (sc.names.lookup x = some .local) && (match c.hq with
    | some q => decide (slotOf c.N x = some q)
    | none => false)))
  | _ => false
def hotTys (c : Tc) (sc : Scope) : List Expr → Option (List Bool)
  | [] => some []
  | .Name y _ :: r => if okN y = true ∧ glN c sc y = true then (c.tbl.lookup y).bind fun b => (hotTys c sc r).map fun bs => b :: bs else none
  | _ :: _ => none
/-- a name of the def's own -/
def isLoS (sc : Scope) (x : Str) : Bool := match sc.names.lookup x with
  | some .local => true
  | some .cell => true
  | _ => false
/-- tuple([(a, b) for ..]): a tuple of pairs even where it is empty -/
def bfX (b : BF) (ms : List E) : BF := match b, ms with
  | .tuple, [.comp _ _ _ (.tup [_, _])] => .tupx
  | b, _ => b
theorem bfX_ok (b : BF) (ms : List E) : bfK (bfX b ms) = bfK b ∧ (bfX b ms ≠ .int → b ≠ .int) := by
  unfold bfX
  split
  · exact ⟨rfl, fun _ => by decide⟩
  · exact ⟨rfl, fun h => h⟩
def trCall (c : Tc) (sc : Scope) (f : Expr → Option E) (x : Str) (es : List Expr) : Option E :=
  if okN x = true ∧ isLoS sc x = true ∧ c.hot = false then (match es with
    | [] => none
    | e :: r => (slotOf c.N x).bind fun i => if c.M.contains i then none else (trAll f (e :: r)).map fun ms => .callv i c.vfs ms)
  else if okN x = true ∧ glN c sc x = true then (match c.fns.lookup x with
    | some (j, np) => if c.hot = true then (match es with
        | [e] => if hotE c sc e = true then (c.xf.lookup x).map .lit else none
        | _ => none) else (match es with
      | [] => if np = 0 then some (.call0 j) else none
      | e :: r => (trAll f (e :: r)).bind fun ms => if ms.length = np then (if c.xt.own.contains x = true then some (.callo j ms) else some (.call j ms)) else none)
    | none => if isG c sc x "isinstance" then (match es with
        | [e, .Name y _] => if hotE c sc e = true then (if okN y = true ∧ glN c sc y = true then (c.tbl.lookup y).map fun b => .lit (.bl b) else none) else if isStar e = false ∧ okN y = true then (tyOf c sc y).bind fun t => (f e).map fun m => .isi m [t] else none
        | [e, .Tuple ys _ _] => if hotE c sc e = true then (if ys.length ≤ 1000 then (hotTys c sc ys).map fun bs => .lit (.bl (bs.any id)) else none) else if isStar e = false ∧ ys.length ≤ 1000 then (trTys c sc ys).bind fun ts => (f e).map fun m => .isi m ts else none
        | _ => none)
      else (bfOf c sc x).bind fun b => if c.hot = true ∧ b ≠ .int then none else (match es with
        | [] => none
        | e :: r => (trAll f (e :: r)).map fun ms => .bf (bfX b ms) ms)) else none
def trO (f : Expr → Option E) : Option Expr → Option (Option E)
  | none => some none
  | some e => (f e).map some
def trI (c : Tc) (sc : Scope) (f : Expr → Option E) (tup : Bool) (e : Expr) : Option It := match e with
  | .Call (.Name x _) es [] _ => if isG c sc x "range" then (match es with
      | [a] => if isStar a then none else (f a).map .r1
      | [a, b] => if isStar a || isStar b then none else (f a).bind fun m => (f b).map fun m2 => .r2 m m2
      | [a, b, d] => if isStar a || isStar b || isStar d then none else (f a).bind fun m => (f b).bind fun m2 => (f d).map fun m3 => .r3 m m2 m3
      | _ => none)
    else if isG c sc x "enumerate" then (match es with
      | [a] => if isStar a || !tup then none else (f a).map .enum
      | _ => none)
    else if isG c sc x "zip" then (match es with
      | [a, b] => if isStar a || isStar b || !tup then none else (f a).bind fun m => (f b).map fun m2 => .zip m m2
      | _ => none)
    else (f e).map .val
  | _ => (f e).map .val
/-- a target's names -/
def trNs (N : List Str) : List Expr → Option (List Nat)
  | [] => some []
  | .Name x _ :: r => (slotOf N x).bind fun i => (trNs N r).map fun is => i :: is
  | _ :: _ => none
def trP (N : List Str) : Expr → Option P
  | .Name x _ => (slotOf N x).map .n
  | .Tuple es _ _ => (trNs N es).map .t
  | _ => none
def isTup : Expr → Bool
  | .Tuple _ _ _ => true
  | _ => false
def isSet : Expr → Bool
  | .Set _ _ _ => true
  | _ => false
/-- the names of a target are the block's own -/
def ownT (scope : Scope) : Expr → Bool
  | .Name x _ => match scope.names.lookup x with
    | some .local => true
    | some .cell => true
    | _ => false
  | .Tuple es _ _ => es.all fun e => match e with
    | .Name x _ => match scope.names.lookup x with
      | some .local => true
      | some .cell => true
      | _ => false
    | _ => false
  | _ => false
def ownOf (N : List Str) (p : P) : List (Str × Nat) := (slots p).map fun i => (N.getD i "", i)
def trComp (c : Tc) (sc : Scope) (f : Scope → Expr → Option E) (elt tg iter : Expr) (ifs : List Expr) (scope : Scope) : Option E :=
  (trP c.N tg).bind fun p => if ownT scope tg = true ∧ isSet iter = false ∧ (slots p).all (fun i => !c.M.contains i) = true ∧ blkC c.N sc scope (ownOf c.N p) = true then
    (trI c sc (f sc) (isTup tg) iter).bind fun it => (f (relS scope sc) elt).bind fun m => match ifs with
      | [] => some (.comp p it [] m)
      | [t] => if isIf t then none else (f (relS scope sc) t).map fun mt => .comp p it [mt] m
      | _ => none
    else none
def isC0 : Expr → Bool
  | .Call (.Name _ _) [] [] _ => true
  | _ => false
def smOf (x : Str) : Option MF :=
  if x = Str.ofString "lower" then some .lower else if x = Str.ofString "upper" then some .upper else if x = Str.ofString "startswith" then some .starts else if x = Str.ofString "endswith" then some .ends else
  if x = Str.ofString "find" then some .find else if x = Str.ofString "index" then some .index else if x = Str.ofString "join" then some .join else
  if x = Str.ofString "partition" then some .part else if x = Str.ofString "count" then some .count else none
def trMeth (f : Expr → Option E) (o : Expr) (name : Str) (es : List Expr) : Option E :=
  if isC0 o = false ∧ es.length < 30 then (if name = Str.ofString "get" then (match es with
    | [e, d] => if isStar e || isStar d then none else (f o).bind fun mo => (f e).bind fun m => (f d).map fun m2 => .meth .get mo [m, m2]
    | _ => none) else (smOf name).bind fun mf => (f o).bind fun mo => (trAll f es).map fun ms => .meth mf mo ms) else none
/-- the parts of an f-string -/
def trF (f : Expr → Option E) : List Expr → Option (List E)
  | [] => some []
  | .FormattedValue e cv sp _ :: r => if cv = -1 ∧ sp.isNone = true then (f e).bind fun m => (trF f r).map fun ms => m :: ms else none
  | .Constant (.str x) _ _ :: r => if x.cps.toList.length ≤ lim ∧ x.cps.toList.all (fun c => decide (c < 128)) = true then (trF f r).map fun ms => .lit (.str x.cps.toList) :: ms else none
  | _ :: _ => none
def trE (c : Tc) : Nat → Scope → (Nat → Bool) → Expr → Option E
  | 0, _, _, _ => none
  | n + 1, sc, z, e => match e with
    | .Name x _ => trN c sc z x
    | .Constant k _ _ => trK k
    | .BinOp a op b _ => (boOf op).bind fun o => (trE c n sc z a).bind fun ma => (trE c n sc z b).map fun mb => .bin o ma mb
    | .UnaryOp .USub a _ => (trE c n sc z a).map .neg
    | .UnaryOp .Not a _ => if isIf a then none else (trE c n sc z a).map .not_
    | .BoolOp op es _ => trBool (trE c n sc z) op es
    | .Compare a [op] [b] _ => if behindInMarks op b then none else (trE c n sc z a).bind fun ma => (trE c n sc z b).map fun mb => .cmp (coOf op) ma mb
    | .Compare a [op, op'] [b, d] _ => if lastMarks [op, op'] [b, d] then none else (trE c n sc z a).bind fun ma => (trE c n sc z b).bind fun mb => (trE c n sc z d).map fun md => .chain (coOf op) (coOf op') ma mb md
    | .IfExp t a b _ => if isIf t then none else (trE c n sc z t).bind fun mt => (trE c n sc z a).bind fun ma => (trE c n sc z b).map fun mb => .ite mt ma mb
    | .Call (.Name x _) es [] _ => trCall c sc (trE c n sc z) x es
    | .Call (.Name x _) [e1] [⟨some nm, e2, _⟩] _ => if (okN x = true ∧ isG c sc x "max" = true) ∧ nm = Str.ofString "default" ∧ isStar e1 = false then (if c.hot = true then none else (trE c n sc z e1).bind fun m1 => (trE c n sc z e2).map fun m2 => .bf .maxd [m1, m2]) else none
    | .Call (.Attribute o name ap) es [] cp => if (ap.endLine == cp.line) = true then trMeth (trE c n sc z) o name es else none
    | .JoinedStr es _ => if 2 ≤ es.length then (trF (trE c n sc z) es).map .fstr else none
    | .Subscript a (.Slice none none (some (.UnaryOp .USub (.Constant (.int 1) _ _) _)) _) _ => (trE c n sc z a).map .rev
    | .Subscript a (.Slice lo hi none _) _ => (trE c n sc z a).bind fun ma => (trO (trE c n sc z) lo).bind fun ml => (trO (trE c n sc z) hi).map fun mh => .slice ma ml mh
    | .Subscript a b _ => if isSl b then none else (trE c n sc z a).bind fun ma => (trE c n sc z b).map fun mb => .sub ma mb
    | .Tuple [] _ _ => some (.lit (.ptu []))
    | .Tuple es _ _ => (trAll (trE c n sc z) es).bind fun ms => if ms.length ≤ 1000 then some (.tup ms) else none
    | .List es _ => (trAll (trE c n sc z) es).bind fun ms => if ms.length ≤ 1000 then some (.lst ms) else none
    | .Dict [] [] _ => some (.dict0 false)
    | .Dict (k :: ks) vs _ => if (k :: ks).length = vs.length ∧ (k :: ks).length ≤ 15 then (trKys (k :: ks)).bind fun kk => (trAll (trE c n sc z) vs).map fun ms => .dic kk ms else none
    | .ListComp elt [⟨tg, iter, ifs, 0⟩] scope _ => if c.hot = true ∨ c.pin.isSome = true then none else trComp c sc (fun sc' e => trE c n sc' z e) elt tg iter ifs scope
    | _ => none

/-! ## its soundness -/
/-- what a clause takes -/
structure TryR (X : Cx) (G : Gx) (x : Str) (j : Nat) (tbl : List (Str × Bool)) (xf : List (Str × D)) : Prop where
  ex : ∃ D cv, (X.mg x = some cv ∨ (X.mg x = none ∧ bootBuiltins x = some cv ∧ x ≠ "__name__")) ∧ ExcC X.K D ∧ (∀ c dd H, G.xr ⟨j, none⟩ c dd H → c = .ref D ∧ dd = none) ∧ PySem.W.exmOne X.K (.ref D) cv = some true ∧ (∀ y b, (y, b) ∈ tbl → ∃ v u, ClsN X y v u ∧ PySem.W.kitOne X.K (.ref D) u = some b) ∧
    ∀ f d, (f, d) ∈ xf → ∃ fa fd ps, FnX X.prog X.w X.K X.mg X.base D fa fd ps d ∧ ps.length = 1 ∧ X.mg f = some (.ref fa) ∧ PySem.W.keepIn X.K (.ref fa) = true ∧ Binds X.K fd ps []
structure Ctx (X : Cx) (G : Gx) (c : Tc) (sc : Scope) (k : Nat) : Prop where
  K : G.K = X.K
  N : X.N = c.N
  nd : c.N.Nodup
  sc : X.env.scope = sc
  calm : c.hot = false → X.calm = true
  tk : Takes X G.W
  room : c.hot = false → Room k X.A
  hu : X.A.units + 65 < cLine
  pinF : c.hot = false → ∀ q v, G.hot = some (q, v) → c.pin = some q
  hotF : c.hot = true → ∀ q, c.hq = some q → ∃ a, G.hot = some (q, .ref a) ∧ HotX X a c.tbl c.xf
  M : ∀ i, G.M i = c.M.contains i
  glo : ∀ x d, (x, d) ∈ c.glo → ∃ v u, X.mg x = some u ∧ RelV v u ∧ ∀ H U, rep G.K H U d v []
  fns : ∀ x j np, (x, j, np) ∈ c.fns → ∃ fa fd ps, FnOk X.prog X.w X.K X.mg X.base (L2.CX X.prog X.w) k fa fd ps (spM G.K G.xr (G.C j) np) ∧ X.mg x = some (.ref fa) ∧ PySem.W.keepIn X.K (.ref fa) = true ∧ Binds X.K fd ps []
  fnsO : ∀ x j np, (x, j, np) ∈ c.fns → c.xt.own.contains x = true → ∃ fa fd ps, FnOk X.prog X.w X.K X.mg X.base (L2.CX X.prog X.w) k fa fd ps (spO G.K G.xr (G.C j) np) ∧ X.mg x = some (.ref fa) ∧ PySem.W.keepIn X.K (.ref fa) = true ∧ Binds X.K fd ps []
  blt : ∀ x, x ∈ c.blt → X.mg x = none
  vfs : ∀ y j np, c.vfs.lookup y = some (j, np) → ∃ fd ps, FnOk X.prog X.w X.K X.mg X.base (L2.CX X.prog X.w) k (He.ga X.K y) fd ps (spM G.K G.xr (G.C j) np) ∧ PySem.W.keepIn X.K (.ref (He.ga X.K y)) = true ∧ Binds X.K fd ps []
  cms : ∀ x f, c.cms.lookup x = some f → ∃ fa fd ps, FnOk X.prog X.w X.K X.mg X.base (L2.CX X.prog X.w) k fa fd ps (spMm G.K (G.C f) 2 1) ∧ X.mg x = some (.ref fa) ∧ PySem.W.keepIn X.K (.ref fa) = true ∧ Binds X.K fd ps []
  exs : ∀ x j, (x, j) ∈ c.xt.exs → ExcR X G x j
  trys : ∀ x j tbl, (x, j, tbl) ∈ c.xt.trys → TryR X G x j tbl (c.xt.xf x)
section
variable {X : Cx} {G : Gx} {c : Tc} {sc : Scope} {k : Nat}
theorem Ctx.cold (h : Ctx X G c sc k) (hc : c.hot = false) (hp : c.pin = none) : G.hot = none := by
  cases e : G.hot with
  | none => rfl
  | some q => have := h.pinF hc q.1 q.2 e; rw [hp] at this; cases this
theorem Ctx.z (h : Ctx X G c sc k) (z : Nat → Bool) : Ctx X (G.z z) c sc k := ⟨h.K, h.N, h.nd, h.sc, h.calm, h.tk, h.room, h.hu, h.pinF, h.hotF, h.M, h.glo, h.fns, h.fnsO, h.blt, h.vfs, h.cms, fun x j m => ⟨(h.exs x j m).ex⟩, fun x j t m => ⟨(h.trys x j t m).ex⟩⟩
theorem okN_d {x : Str} (h : okN x = true) : (x == ("__debug__" : Str)) = false := by
  unfold okN at h
  have := (Bool.and_eq_true_iff.mp h).1
  simpa using this
theorem okN_c {x : Str} (h : okN x = true) : (x == ("__classdict__" : Str)) = false := by
  unfold okN at h
  have := (Bool.and_eq_true_iff.mp h).2
  simpa using this
theorem Ctx.gl (h : Ctx X G c sc k) {x : Str} (g : glN c sc x = true) : Gl X x := by
  have := of_decide_eq_true g
  show X.env.scope.names.lookup x = _
  rw [h.sc]; exact this
theorem Ctx.isG (h : Ctx X G c sc k) {x : Str} {n : String} (g : isG c sc x n = true) : x = Str.ofString n ∧ Gl X x ∧ X.mg x = none := by
  obtain ⟨g1, g2⟩ := Bool.and_eq_true_iff.mp g
  obtain ⟨g2, g3⟩ := Bool.and_eq_true_iff.mp g2
  exact ⟨of_decide_eq_true g1, h.gl g3, h.blt x (of_decide_eq_true g2)⟩
theorem star_cons {e : Expr} {es : List Expr} {env : PySem.Env} (h : isStar e = false) : starEach (e :: es) env = (false, eval e env) :: starEach es env := by
  cases e <;> first | rfl | cases h
theorem plain_all {pos : Pos} {env : PySem.Env} : ∀ {es : List Expr}, es.all (fun e => !isStar e) = true → (backTo pos (starEach es env)).any (·.1) = false
  | [], _ => by simp [starEach, backTo]
  | e :: es, h => by
    rw [List.all_cons] at h
    obtain ⟨h1, h2⟩ := Bool.and_eq_true_iff.mp h
    rw [star_cons (by simpa using h1)]
    have := plain_all (pos := pos) (env := env) h2
    unfold backTo at this ⊢
    rw [List.map_cons, List.any_cons, this]
    rfl
theorem trAll_ok {f : Expr → Option E} (hf : ∀ e m, f e = some m → PE X e (tM G m)) : ∀ {es : List Expr} {ms : List E}, trAll f es = some ms → PA X es (tMs G ms) ∧ ms.length = es.length ∧ es.all (fun e => !isStar e) = true
  | [], ms, h => by
    cases h
    exact ⟨sims_nil, rfl, rfl⟩
  | e :: es, ms, h => by
    unfold trAll at h
    split at h
    · cases h
    · rename_i hs
      obtain ⟨m, h1, h2⟩ := Option.bind_eq_some_iff.mp h
      obtain ⟨ms', h3, h4⟩ := Option.map_eq_some_iff.mp h2
      subst h4
      obtain ⟨p1, p2, p3⟩ := trAll_ok hf h3
      have hs : isStar e = false := by simpa using hs
      refine ⟨sims_cons (hf e m h1) p1 (star_cons hs), by rw [List.length_cons, List.length_cons, p2], ?_⟩
      rw [List.all_cons, p3, hs]; rfl
theorem trN_ok (h : Ctx X G c sc k) {z : Nat → Bool} {x : Str} {pos : Pos} {m : E} (e : trN c sc z x = some m) : PE X (.Name x pos) (tM (G.z z) m) := by
  unfold trN at e
  split at e
  · rename_i ok
    have vis : ∀ k, sc.names.lookup x = some k → (k = .local ∨ k = .cell ∨ k = .free) → Vis X.env.scope x := fun k e1 e2 => by
      unfold Vis
      rw [h.sc, e1]
      rcases e2 with e2 | e2 | e2 <;> subst e2
      · exact .inl rfl
      · exact .inr (.inl rfl)
      · exact .inr (.inr rfl)
    have fin : Vis X.env.scope x → ((slotOf c.N x).bind fun i => if c.M.contains i then (if z i then some (.mvar i) else none) else some (.var i)) = some m → PE X (.Name x pos) (tM (G.z z) m) := fun v e => by
      obtain ⟨i, e1, e2⟩ := Option.bind_eq_some_iff.mp e
      have hN : X.N[i]? = some x := by rw [h.N]; exact slotOf_get e1
      split at e2
      · rename_i hM
        split at e2
        · rename_i hz
          cases e2
          exact sim_mvar hN v ((h.M i).trans hM) hz (okN_d ok) (okN_c ok)
        · cases e2
      · rename_i hM
        cases e2
        exact sim_var hN v ((h.M i).trans (by simpa using hM)) (okN_d ok) (okN_c ok)
    split at e
    · rename_i hg
      obtain ⟨d, e1, e2⟩ := Option.map_eq_some_iff.mp e
      subst e2
      obtain ⟨v, u, g1, g2, g3⟩ := h.glo x d (mem_of_lookup e1)
      exact sim_glob (h.gl (decide_eq_true hg)) g1 g2 g3 (okN_d ok)
    · cases e
    · cases e
    · rename_i kk n1 n2 hg
      refine fin (vis kk hg ?_) e
      cases kk
      · exact .inl rfl
      · exact .inr (.inl rfl)
      · exact .inr (.inr rfl)
      · exact (n2 rfl).elim
      · exact (n1 rfl).elim
  · cases e
theorem trK_ok {kc : Const} {j : Nat} {pos : Pos} {m : E} (e : trK kc = some m) : PE X (.Constant kc j pos) (tM G m) := by
  unfold trK at e
  split at e
  · cases e; exact sim_int
  · cases e; exact sim_bl
  · cases e; exact sim_non
  · split at e
    · rename_i hk
      cases e
      exact sim_str rfl ⟨hk.1, fun c hc => of_decide_eq_true (List.all_eq_true.mp hk.2 c hc)⟩
    · cases e
  · cases e
theorem trBool_ok {f : Expr → Option E} (hf : ∀ e m, f e = some m → PE X e (tM G m) ∧ (isIf e = false → PT X e (tMt G m))) {op : BoolOp} {pos : Pos} : ∀ {es : List Expr} {m : E}, trBool f op es = some m → PE X (.BoolOp op es pos) (tM G m) ∧ PW X (.BoolOp op es pos) (tMt G m)
  | [], m, h => nomatch h
  | [a], m, h => by
    unfold trBool at h
    split at h
    · cases h
    · rename_i hi
      obtain ⟨h1, h2⟩ := hf a m h
      exact ⟨simv_one h1, simw_one (h2 (by simpa using hi))⟩
  | a :: b :: r, m, h => by
    unfold trBool at h
    split at h
    · cases h
    · rename_i hi
      obtain ⟨m1, e1, h⟩ := Option.bind_eq_some_iff.mp h
      obtain ⟨m2, e2, h⟩ := Option.map_eq_some_iff.mp h
      obtain ⟨h1, h2⟩ := hf a m1 e1
      obtain ⟨h3, h4⟩ := trBool_ok hf (pos := pos) e2
      have h2 := h2 (by simpa using hi)
      cases op with
      | And => subst h; exact ⟨sim_and h1 h3, simw_and h2 h4⟩
      | Or => subst h; exact ⟨sim_or h1 h3, simw_or h2 h4⟩
theorem plainIx {b : Expr} (h : isSl b = false) : PlainIx b := fun o i => by
  cases b <;> first | rfl | cases h
theorem trO_ok {f : Expr → Option E} (hf : ∀ e m, f e = some m → PE X e (tM G m)) {e : Option Expr} {m : Option E} (h : trO f e = some m) : PO X e (tMo G m) := by
  cases e with
  | none => cases h; exact simo_none
  | some e =>
    obtain ⟨m1, h1, h2⟩ := Option.map_eq_some_iff.mp h
    subst h2
    exact simo_some (hf e m1 h1)
theorem bfOf_ok (h : Ctx X G c sc k) {x : Str} {b : BF} (e : bfOf c sc x = some b) : ∃ n kk, bfK b = some (n, kk) ∧ x = Str.ofString n ∧ Gl X x ∧ X.mg x = none := by
  unfold bfOf at e
  repeat' split at e
  all_goals first
    | (cases e; rename_i hg; obtain ⟨g1, g2, g3⟩ := h.isG hg; exact ⟨_, _, rfl, g1, g2, g3⟩)
    | cases e
theorem tyOf_ok (h : Ctx X G c sc k) {x : Str} {t : Ty} (e : tyOf c sc x = some t) : x = Str.ofString (tyS t) ∧ Gl X x ∧ X.mg x = none := by
  unfold tyOf at e
  repeat' split at e
  all_goals first
    | (cases e; rename_i hg; exact h.isG hg)
    | cases e
theorem trTys_ok (h : Ctx X G c sc k) : ∀ {es : List Expr} {ts : List Ty}, trTys c sc es = some ts → PA X es (tTys ts) ∧ ts.length = es.length
  | [], ts, e => by cases e; exact ⟨pa_tys_nil, rfl⟩
  | e0 :: r, ts, e => by
    cases e0 with
    | Name y py =>
      have e : (if okN y = true then (tyOf c sc y).bind fun t => (trTys c sc r).map fun ts => t :: ts else none) = some ts := e
      split at e
      · rename_i hy
        obtain ⟨t, e1, e2⟩ := Option.bind_eq_some_iff.mp e
        obtain ⟨ts', e3, e4⟩ := Option.map_eq_some_iff.mp e2
        subst e4
        obtain ⟨p1, p2⟩ := trTys_ok h e3
        obtain ⟨t1, t2, t3⟩ := tyOf_ok h e1
        exact ⟨pa_tys_cons t1 t2 t3 (okN_d hy) p1, by rw [List.length_cons, List.length_cons, p2]⟩
      · cases e
    | _ => cases e
theorem trKy_ok {ke : Option Expr} {q : Ky} (h : trKy ke = some q) : ∃ e, ke = some e ∧ PE X e (tC (kV (kyK q))) := by
  unfold trKy at h
  split at h
  · split at h
    · cases h; exact ⟨_, rfl, pe_str⟩
    · cases h
  · cases h; exact ⟨_, rfl, pe_int⟩
  · cases h
theorem dic_ok {f : Expr → Option E} (hf : ∀ e m, f e = some m → PE X e (tM G m)) {pos : Pos} : ∀ {keys : List (Option Expr)} {vs : List Expr} {ks : List Ky} {ms : List E}, trKys keys = some ks → trAll f vs = some ms → keys.length = vs.length →
    PPs X pos keys vs (trsOf G ks ms) ∧ ks.length = ms.length ∧ ks.length = keys.length ∧ keys.all (·.isSome) = true
  | [], [], ks, ms, h1, h2, _ => by cases h1; cases h2; exact ⟨pps_nil, rfl, rfl, rfl⟩
  | [], _ :: _, _, _, _, _, h => nomatch h
  | _ :: _, [], _, _, _, _, h => nomatch h
  | ke :: keys, v :: vs, ks, ms, h1, h2, h3 => by
    unfold trAll at h2
    split at h2
    · cases h2
    · obtain ⟨m, e1, h2⟩ := Option.bind_eq_some_iff.mp h2
      obtain ⟨ms', e2, h2⟩ := Option.map_eq_some_iff.mp h2
      subst h2
      obtain ⟨q, e4, h1⟩ := Option.bind_eq_some_iff.mp (show ((trKy ke).bind fun q => (trKys keys).map fun ks => q :: ks) = some ks from h1)
      obtain ⟨ks', e3, h1⟩ := Option.map_eq_some_iff.mp h1
      subst h1
      obtain ⟨e0, rfl, pk⟩ := trKy_ok (X := X) e4
      obtain ⟨p1, p2, p3, p4⟩ := dic_ok hf (pos := pos) e3 e2 (Nat.succ.inj h3)
      exact ⟨pps_cons pk (hf _ _ e1) p1, congrArg (· + 1) p2, congrArg (· + 1) p3, by rw [List.all_cons, p4]; rfl⟩
theorem hotE_ok (h : Ctx X G c sc k) {e : Expr} (q : hotE c sc e = true) : ∃ x p i a, e = .Name x p ∧ X.N[i]? = some x ∧ Vis X.env.scope x ∧ okN x = true ∧ G.hot = some (i, .ref a) ∧ HotX X a c.tbl c.xf ∧ ∃ (hx : Vis X.env.scope x), True := by
  cases e with
  | Name x p =>
    unfold hotE at q
    obtain ⟨q1, q⟩ := Bool.and_eq_true_iff.mp q
    obtain ⟨q2, q⟩ := Bool.and_eq_true_iff.mp q
    obtain ⟨q3, q⟩ := Bool.and_eq_true_iff.mp q
    split at q
    · rename_i i hi
      obtain ⟨a, h1, h2⟩ := h.hotF q1 i hi
      have q3 := of_decide_eq_true q3
      exact ⟨x, p, i, a, rfl, by rw [h.N]; exact slotOf_get (of_decide_eq_true q), .inl (by rw [h.sc]; exact q3), q2, h1, h2, .inl (by rw [h.sc]; exact q3), trivial⟩
    · cases q
  | _ => cases q
theorem hotTys_ok (h : Ctx X G c sc k) {D : Addr} (hD : ∀ y b, (y, b) ∈ c.tbl → ∃ v u, ClsN X y v u ∧ PySem.W.kitOne X.K (.ref D) u = some b) : ∀ {es : List Expr} {bs : List Bool}, hotTys c sc es = some bs → ∃ vs us, ClsL X D es vs us bs
  | [], bs, e => by cases e; exact ⟨_, _, .nil⟩
  | e0 :: r, bs, e => by
    cases e0 with
    | Name y py =>
      have e : (if okN y = true ∧ glN c sc y = true then (c.tbl.lookup y).bind fun b => (hotTys c sc r).map fun bs => b :: bs else none) = some bs := e
      split at e
      · rename_i hy
        obtain ⟨b, e1, e2⟩ := Option.bind_eq_some_iff.mp e
        obtain ⟨bs', e3, e4⟩ := Option.map_eq_some_iff.mp e2
        subst e4
        obtain ⟨vs, us, p1⟩ := hotTys_ok h hD e3
        obtain ⟨v, u, h1, h2⟩ := hD y b (mem_of_lookup e1)
        exact ⟨_, _, .cons (h.gl hy.2) (okN_d hy.1) h1 h2 p1⟩
      · cases e
    | _ => cases e
theorem trCall_ok (h : Ctx X G c sc k) {f : Expr → Option E} (hf : ∀ e m, f e = some m → PE X e (tM G m)) {x : Str} {es : List Expr} {p pos : Pos} {m : E} (e : trCall c sc f x es = some m) : PE X (.Call (.Name x p) es [] pos) (tM G m) := by
  unfold trCall at e
  split at e
  · rename_i hx
    obtain ⟨ok, hl, hc⟩ := hx
    split at e
    · cases e
    · rename_i e0 r
      obtain ⟨i, e1, e⟩ := Option.bind_eq_some_iff.mp e
      split at e
      · cases e
      · rename_i hM
        obtain ⟨ms, e2, e3⟩ := Option.map_eq_some_iff.mp e
        subst e3
        obtain ⟨p1, p2, p3⟩ := trAll_ok hf e2
        rw [List.all_cons] at p3
        obtain ⟨p3, p4⟩ := Bool.and_eq_true_iff.mp p3
        have hv : Vis X.env.scope x := by
          unfold isLoS at hl
          unfold Vis
          rw [h.sc]
          split at hl
          · exact .inl (by assumption)
          · exact .inr (.inl (by assumption))
          · cases hl
        exact sim_callv h.K ((h.M i).trans (by simpa using hM)) h.tk h.vfs (h.room hc) (by rw [h.N]; exact slotOf_get e1) hv p1 (okN_d ok) (okN_c ok) (star_cons (by simpa using p3)) (plain_all p4)
  split at e
  · rename_i hx
    obtain ⟨ok, hg⟩ := hx
    split at e
    · rename_i j np hl
      obtain ⟨fa, fd, ps, F, q1, q2, q3⟩ := h.fns x j np (mem_of_lookup hl)
      split at e
      · split at e
        · rename_i e0
          split at e
          · rename_i hh
            obtain ⟨d, e1, e2⟩ := Option.map_eq_some_iff.mp e
            subst e2
            obtain ⟨n, pn, i, a, rfl, n1, n2, n3, n4, n5, _, _⟩ := hotE_ok h hh
            exact n5.f x d (mem_of_lookup e1) G n i p pn pos h.K n4 n1 n2 (h.gl hg) (okN_d n3) (okN_c n3) (okN_d ok)
          · cases e
        · cases e
      rename_i hcold
      have hcold : c.hot = false := by simpa using hcold
      split at e
      · split at e
        · rename_i hnp
          cases e
          subst hnp
          exact sim_call0 h.K F (h.room hcold) (h.gl hg) q1 q2 q3 (okN_d ok)
        · cases e
      · rename_i e0 r
        obtain ⟨ms, e1, e2⟩ := Option.bind_eq_some_iff.mp e
        split at e2
        · rename_i hnp
          obtain ⟨p1, p2, p3⟩ := trAll_ok hf e1
          rw [List.all_cons] at p3
          obtain ⟨p3, p4⟩ := Bool.and_eq_true_iff.mp p3
          split at e2
          · rename_i how
            cases e2
            obtain ⟨fa, fd, ps, F, q1, q2, q3⟩ := h.fnsO x j np (mem_of_lookup hl) how
            exact sim_callo h.K h.tk F hnp (by rw [p2]; exact Nat.succ_le_succ (Nat.zero_le _)) (h.room hcold) (h.gl hg) q1 q2 q3 p1 (okN_d ok) (star_cons (by simpa using p3)) (plain_all p4)
          cases e2
          exact sim_call h.K h.tk F hnp (h.room hcold) (h.gl hg) q1 q2 q3 p1 (okN_d ok) (star_cons (by simpa using p3)) (plain_all p4)
        · cases e2
    · split at e
      · rename_i hi
        obtain ⟨g1, g2, g3⟩ := h.isG hi
        split at e
        · rename_i e0 y py
          split at e
          · rename_i hh
            obtain ⟨n, pn, i, a, rfl, n1, n2, n3, n4, n5x, _, _⟩ := hotE_ok h hh
            have n5 := n5x.i
            split at e
            · rename_i hy
              obtain ⟨b, e1, e2⟩ := Option.map_eq_some_iff.mp e
              subst e2
              exact sim_isE n5 n4 n1 n2 (mem_of_lookup e1) g1 g2 g3 (h.gl hy.2) (okN_d n3) (okN_c n3) (okN_d ok) (okN_d hy.1)
            · cases e
          split at e
          · rename_i hc
            obtain ⟨t, e1, e2⟩ := Option.bind_eq_some_iff.mp e
            obtain ⟨m0, e3, e4⟩ := Option.map_eq_some_iff.mp e2
            subst e4
            obtain ⟨t1, t2, t3⟩ := tyOf_ok h e1
            exact sim_isi h.K t g1 t1 g2 g3 t2 t3 (hf _ _ e3) (star_cons hc.1) (okN_d ok) (okN_d hc.2)
          · cases e
        · split at e
          · rename_i hh
            obtain ⟨n, pn, i, a, rfl, n1, n2, n3, n4, n5x, _, _⟩ := hotE_ok h hh
            have n5 := n5x.i
            split at e
            · rename_i hy
              obtain ⟨bs, e1, e2⟩ := Option.map_eq_some_iff.mp e
              subst e2
              exact sim_isET n5 n4 n1 n2 (fun D hD => hotTys_ok h hD e1) hy g1 g2 g3 (okN_d n3) (okN_c n3) (okN_d ok)
            · cases e
          split at e
          · rename_i hc
            obtain ⟨ts, e1, e2⟩ := Option.bind_eq_some_iff.mp e
            obtain ⟨m0, e3, e4⟩ := Option.map_eq_some_iff.mp e2
            subst e4
            obtain ⟨t1, t2⟩ := trTys_ok h e1
            exact sim_isiT h.K g1 g2 g3 (hf _ _ e3) t1 (by rw [t2]; exact hc.2) (star_cons hc.1) (okN_d ok)
          · cases e
        · cases e
      · obtain ⟨b, e1, e2⟩ := Option.bind_eq_some_iff.mp e
        obtain ⟨n, kk, b1, b2, b3, b4⟩ := bfOf_ok h e1
        split at e2
        · cases e2
        rename_i hbf
        have hcb : b ≠ .int → X.calm = true := fun nb => h.calm (by
          cases hh : c.hot with
          | false => rfl
          | true => exact absurd ⟨hh, nb⟩ hbf)
        split at e2
        · cases e2
        · rename_i e0 r
          obtain ⟨ms, e3, e4⟩ := Option.map_eq_some_iff.mp e2
          subst e4
          obtain ⟨p1, p2, p3⟩ := trAll_ok hf e3
          rw [List.all_cons] at p3
          obtain ⟨p3, p4⟩ := Bool.and_eq_true_iff.mp p3
          exact sim_bf h.K (bfX b ms) (fun nb => hcb ((bfX_ok b ms).2 nb)) h.hu (by rw [(bfX_ok b ms).1]; exact b1) b2 b3 b4 p1 (okN_d ok) (star_cons (by simpa using p3)) (plain_all p4)
  · cases e
theorem mbase_ok {o : Expr} {nm : Str} {env : PySem.Env} {w : Sem Value} (h : isC0 o = false) : attributeBase o nm env w = w := by
  unfold attributeBase
  split
  · cases h
  · rfl
theorem few_all {pos : Pos} {env : PySem.Env} : ∀ {es : List Expr}, es.all (fun e => !isStar e) = true → (backTo pos (starEach es env)).all (fun x => !x.1) = true
  | [], _ => by simp [starEach, backTo]
  | e :: es, h => by
    rw [List.all_cons] at h
    obtain ⟨h1, h2⟩ := Bool.and_eq_true_iff.mp h
    rw [star_cons (by simpa using h1)]
    have := few_all (pos := pos) (env := env) h2
    unfold backTo at this ⊢
    rw [List.map_cons, List.all_cons, this]
    rfl
theorem mfew_ok {pos : Pos} {env : PySem.Env} {es : List Expr} (h : es.all (fun e => !isStar e) = true) (hl : es.length < 30) : ((backTo pos (starEach es env)).all (fun x => !x.1) && (backToKw pos (keywordEach [] env)).all (fun x => x.1.isSome)
      && decide (es.length + ([] : List Keyword).length + (if ([] : List Keyword).isEmpty then 0 else 1) < 30)) = true := by
  rw [few_all h]
  simp [keywordEach, backToKw, hl]
theorem smOf_ok {x : Str} {mf : MF} (h : smOf x = some mf) : ∃ n, mthS mf = some n ∧ x = Str.ofString n := by
  unfold smOf at h
  repeat' split at h
  all_goals first
    | (cases h; exact ⟨_, rfl, by assumption⟩)
    | cases h
theorem trMeth_ok (h : Ctx X G c sc k) {f : Expr → Option E} (hf : ∀ e m, f e = some m → PE X e (tM G m)) {o : Expr} {name : Str} {es : List Expr} {ap cp : Pos} {m : E} (hl : (ap.endLine == cp.line) = true) (e : trMeth f o name es = some m) : PE X (.Call (.Attribute o name ap) es [] cp) (tM G m) := by
  unfold trMeth at e
  split at e
  · rename_i hc
    obtain ⟨hc, hlen⟩ := hc
    split at e
    · rename_i hn
      split at e
      · rename_i e0 d0
        split at e
        · cases e
        · rename_i hs
          rw [Bool.or_eq_true, not_or] at hs
          obtain ⟨mo, e1, e⟩ := Option.bind_eq_some_iff.mp e
          obtain ⟨m1, e2, e⟩ := Option.bind_eq_some_iff.mp e
          obtain ⟨m2, e3, e⟩ := Option.map_eq_some_iff.mp e
          subst e
          have hs1 : isStar e0 = false := by simpa using hs.1
          have hs2 : isStar d0 = false := by simpa using hs.2
          have := h.hu
          refine sim_get h.K (by omega) hn (hf _ _ e1) (hf _ _ e2) (hf _ _ e3) ⟨mbase_ok hc, mfew_ok (by simp [hs1, hs2]) hlen, hl, ?_⟩
          rw [star_cons hs1, star_cons hs2]
          simp [starEach, backTo]
      · cases e
    · obtain ⟨mf, e1, e⟩ := Option.bind_eq_some_iff.mp e
      obtain ⟨mo, e2, e⟩ := Option.bind_eq_some_iff.mp e
      obtain ⟨ms, e3, e⟩ := Option.map_eq_some_iff.mp e
      subst e
      obtain ⟨n, n1, n2⟩ := smOf_ok e1
      obtain ⟨p1, p2, p3⟩ := trAll_ok hf e3
      cases es with
      | nil =>
        cases ms with
        | nil => exact sim_smeth0 h.K n1 n2 (hf _ _ e2) (mbase_ok hc) hl
        | cons _ _ => cases p2
      | cons e0 r =>
        have fw := mfew_ok (pos := cp) (env := X.env) p3 hlen
        rw [List.all_cons] at p3
        obtain ⟨p3, p4⟩ := Bool.and_eq_true_iff.mp p3
        exact sim_smeth h.K n1 n2 (hf _ _ e2) p1 (mbase_ok hc) fw hl (star_cons (by simpa using p3)) (plain_all p4)
  · cases e
theorem trF_ok {f : Expr → Option E} (hf : ∀ e m, f e = some m → PE X e (tM G m)) : ∀ {es : List Expr} {ms : List E}, trF f es = some ms → (∀ (i : Nat) (e : Expr) (m : E), es[i]? = some e → ms[i]? = some m → PF X G e m) ∧ es.length = ms.length
  | [], ms, h => by
    cases h
    exact ⟨fun i e m q => by simp at q, rfl⟩
  | e0 :: es, ms, h => by
    unfold trF at h
    split at h
    · rename_i q
      cases q
    · rename_i e1 cv sp pp r eq
      cases eq
      split at h
      · rename_i hc
        obtain ⟨rfl, hn⟩ := hc
        cases sp with
        | some _ => cases hn
        | none =>
        obtain ⟨m, h1, h2⟩ := Option.bind_eq_some_iff.mp h
        obtain ⟨ms', h3, h4⟩ := Option.map_eq_some_iff.mp h2
        subst h4
        obtain ⟨p1, p2⟩ := trF_ok hf h3
        refine ⟨fun i e m' q1 q2 => ?_, by rw [List.length_cons, List.length_cons, p2]⟩
        cases i with
        | zero => cases q1; cases q2; exact .fmt (hf _ _ h1)
        | succ i => exact p1 i e m' (by simpa using q1) (by simpa using q2)
      · cases h
    · rename_i x kk pp r eq
      cases eq
      split at h
      · rename_i hk
        obtain ⟨ms', h3, h4⟩ := Option.map_eq_some_iff.mp h
        subst h4
        obtain ⟨p1, p2⟩ := trF_ok hf h3
        refine ⟨fun i e m' q1 q2 => ?_, by rw [List.length_cons, List.length_cons, p2]⟩
        cases i with
        | zero => cases q1; cases q2; exact .txt (sim_str rfl ⟨hk.1, fun c hc => of_decide_eq_true (List.all_eq_true.mp hk.2 c hc)⟩)
        | succ i => exact p1 i e m' (by simpa using q1) (by simpa using q2)
      · cases h
    · cases h
theorem trNs_ok {X : Cx} (hN : X.N.Nodup) : ∀ {es : List Expr} {is : List Nat}, trNs X.N es = some is → (∀ e ∈ es, ∀ x p, e = .Name x p → Loc X.env.scope x ∧ (X.fn x = true ∨ X.env.scope.names.lookup x = some .local)) → PGs X es (gAll is) ∧ (assignEach es X.env).length = is.length ∧ (assignEach es X.env).findIdx? (·.1) = none
  | [], is, h, _ => by
    cases h
    exact ⟨simgs_nil, rfl, rfl⟩
  | e :: r, is, h, hx => by
    cases e with
    | Name x p =>
      obtain ⟨i, h1, h2⟩ := Option.bind_eq_some_iff.mp (show ((slotOf X.N x).bind fun i => (trNs X.N r).map fun is => i :: is) = some is from h)
      obtain ⟨js, h3, h4⟩ := Option.map_eq_some_iff.mp h2
      subst h4
      obtain ⟨p1, p2, p3⟩ := trNs_ok hN h3 fun e he => hx e (List.mem_cons_of_mem _ he)
      obtain ⟨q1, q2⟩ := hx _ List.mem_cons_self x p rfl
      refine ⟨simgs_cons hN (slotOf_get h1) q1 q2 p1 rfl, ?_, ?_⟩
      · show (assignEach r X.env).length + 1 = js.length + 1
        rw [p2]
      · show List.findIdx? _ ((false, assign (.Name x p) X.env) :: assignEach r X.env) = none
        rw [List.findIdx?_cons, p3]
        rfl
    | _ => cases h
theorem trP_ok {X : Cx} {K : PySem.W.Frag} (hK : K = X.K) (hc : X.calm = true) (hN : X.N.Nodup) {tg : Expr} {p : P} (h : trP X.N tg = some p)
    (hx : ∀ x pp, (tg = .Name x pp ∨ ∃ es kk p2, tg = .Tuple es kk p2 ∧ .Name x pp ∈ es) → Loc X.env.scope x ∧ (X.fn x = true ∨ X.env.scope.names.lookup x = some .local)) : PG X tg (tG K p) := by
  unfold trP at h
  split at h
  · obtain ⟨i, h1, h2⟩ := Option.map_eq_some_iff.mp h
    subst h2
    obtain ⟨q1, q2⟩ := hx _ _ (.inl rfl)
    exact simg_name hN (slotOf_get h1) q1 q2
  · obtain ⟨is, h1, h2⟩ := Option.map_eq_some_iff.mp h
    subst h2
    obtain ⟨p1, p2, p3⟩ := trNs_ok hN h1 fun e he x pp e1 => hx x pp (.inr ⟨_, _, _, rfl, e1 ▸ he⟩)
    exact simg_tup hK hc p1 p2 p3
  · cases h
theorem fold_ok {iter : Expr} {env : PySem.Env} (h : isSet iter = false) : ∀ x, foldedSetIterable iter env x = pure x := fun x => by
  cases iter <;> first | rfl | cases h
theorem trI_ok (h : Ctx X G c sc k) {f : Expr → Option E} (hf : ∀ e m, f e = some m → PE X e (tM G m)) {tg e : Expr} {it : It} (ei : trI c sc f (isTup tg) e = some it) : PI X tg e (tI G it) := by
  have val : ∀ e it, (f e).map It.val = some it → PI X tg e (tI G it) := fun e it q => by
    obtain ⟨m, h1, h2⟩ := Option.map_eq_some_iff.mp q
    subst h2
    exact simi_val h.K (hf e m h1)
  unfold trI at ei
  split at ei
  · split at ei
    · rename_i hg
      obtain ⟨g1, g2, g3⟩ := h.isG hg
      subst g1
      split at ei
      · split at ei
        · cases ei
        · rename_i a hs
          obtain ⟨m, h1, h2⟩ := Option.map_eq_some_iff.mp ei
          subst h2
          exact simi_r1 rfl g2 g3 (hf _ _ h1) (star_cons (by simpa using hs))
      · split at ei
        · cases ei
        · rename_i a b hs
          rw [Bool.or_eq_true, not_or] at hs
          obtain ⟨m, h1, ei⟩ := Option.bind_eq_some_iff.mp ei
          obtain ⟨m2, h2, h3⟩ := Option.map_eq_some_iff.mp ei
          subst h3
          have sa := star_cons (env := X.env) (es := [b]) (show isStar a = false by simpa using hs.1)
          have sb := star_cons (env := X.env) (es := []) (show isStar b = false by simpa using hs.2)
          exact simi_r2 rfl g2 g3 (hf _ _ h1) (hf _ _ h2) (by rw [sa, sb]; rfl) (by rw [sb]; rfl)
      · split at ei
        · cases ei
        · rename_i a b d hs
          rw [Bool.or_eq_true, not_or, Bool.or_eq_true, not_or] at hs
          obtain ⟨m, h1, ei⟩ := Option.bind_eq_some_iff.mp ei
          obtain ⟨m2, h2, ei⟩ := Option.bind_eq_some_iff.mp ei
          obtain ⟨m3, h3, h4⟩ := Option.map_eq_some_iff.mp ei
          subst h4
          have sb : isStar b = false := by simpa using hs.1.2
          have sd : isStar d = false := by simpa using hs.2
          exact simi_r3 rfl g2 g3 (hf _ _ h1) (hf _ _ h2) (hf _ _ h3) (star_cons (by simpa using hs.1.1)) (star_cons sb) (star_cons sd) (plain_all (by rw [List.all_cons, List.all_cons, sb, sd]; rfl))
      · cases ei
    · split at ei
      · rename_i hg
        obtain ⟨g1, g2, g3⟩ := h.isG hg
        subst g1
        split at ei
        · split at ei
          · cases ei
          · rename_i a hs
            rw [Bool.or_eq_true, not_or] at hs
            obtain ⟨m, h1, h2⟩ := Option.map_eq_some_iff.mp ei
            subst h2
            cases tg with
            | Tuple elts kk tpos => exact simi_enum h.K rfl g2 g3 (hf _ _ h1) (star_cons (by simpa using hs.1))
            | _ => exact absurd rfl hs.2
        · cases ei
      · split at ei
        · rename_i hg
          obtain ⟨g1, g2, g3⟩ := h.isG hg
          subst g1
          split at ei
          · split at ei
            · cases ei
            · rename_i a b hs
              rw [Bool.or_eq_true, not_or, Bool.or_eq_true, not_or] at hs
              obtain ⟨m, h1, ei⟩ := Option.bind_eq_some_iff.mp ei
              obtain ⟨m2, h2, h3⟩ := Option.map_eq_some_iff.mp ei
              subst h3
              have sb : isStar b = false := by simpa using hs.1.2
              cases tg with
              | Tuple elts kk tpos => exact simi_zip h.K rfl g2 g3 (hf _ _ h1) (hf _ _ h2) (star_cons (by simpa using hs.1.1)) (star_cons sb) (plain_all (by rw [List.all_cons, sb]; rfl))
              | _ => exact absurd rfl hs.2
          · cases ei
        · exact val _ _ ei
  · exact val _ _ ei
theorem relS_keep {scope sc : Scope} {x : Str} {kk : NameKind} (n : kk ≠ .free) (h : scope.names.lookup x = some kk) : (relS scope sc).names.lookup x = some kk := lookup_relS_keep n h
theorem ownT_ok {scope sc : Scope} {tg : Expr} (h : ownT scope tg = true) {x : Str} {pp : Pos} (e : tg = .Name x pp ∨ ∃ es kk p2, tg = .Tuple es kk p2 ∧ .Name x pp ∈ es) :
    Loc (relS scope sc) x ∧ ((scope.names.lookup x == some .cell) = true ∨ (relS scope sc).names.lookup x = some .local) := by
  have key : (match scope.names.lookup x with
    | some .local => true
    | some .cell => true
    | _ => false) = true := by
    rcases e with rfl | ⟨es, kk, p2, rfl, hm⟩
    · exact h
    · exact List.all_eq_true.mp h _ hm
  split at key
  · rename_i e1
    have := relS_keep (sc := sc) (by decide) e1
    exact ⟨.inl this, .inr this⟩
  · rename_i e1
    have := relS_keep (sc := sc) (by decide) e1
    exact ⟨.inr this, .inl (by rw [e1]; rfl)⟩
  · cases key
theorem ownOf_slots (N : List Str) (p : P) : (ownOf N p).map (·.2) = slots p := by
  unfold ownOf
  rw [List.map_map]
  exact List.map_id _
theorem Ctx.blk (h : Ctx X G c sc k) (hc : c.hot = false) (s : Shared) (H : Hp) (scope : Scope) (C : Addr) (cl : List (Str × Addr)) (fp : List Addr) : Ctx (X.blk s H scope (compEnvC scope cl C X.env) fp) G.q c (relS scope sc) k :=
  ⟨h.K, h.N, h.nd, by rw [← h.sc]; rfl, h.calm, L2.takes0, h.room, h.hu, h.pinF, (fun z => by rw [hc] at z; cases z), h.M, h.glo, h.fns, h.fnsO, h.blt, h.vfs, h.cms, fun x j m => ⟨(h.exs x j m).ex⟩, fun x j t m => ⟨(h.trys x j t m).ex⟩⟩
theorem trComp_ok (h : Ctx X G c sc k) (hcold : c.hot = false) {f : Scope → Expr → Option E} {z : Nat → Bool} (hf : ∀ {X : Cx} {G : Gx} {sc : Scope} {e : Expr} {m : E}, Ctx X G c sc k → f sc e = some m → PE X e (tM (G.z z) m) ∧ (isIf e = false → PT X e (tMt (G.z z) m))) {elt tg iter : Expr} {ifs : List Expr} {scope : Scope} {m : E} (e : trComp c sc f elt tg iter ifs scope = some m) :
    ∃ p it cs me, m = .comp p it cs me ∧ (∀ i ∈ slots p, (G.z z).M i = false) ∧ PI X tg iter (tI (G.z z) it) ∧ BlkOk X.N X.env.scope scope (ownOf c.N p) ∧ (ownOf c.N p).map (·.2) = slots p ∧ (∀ x, foldedSetIterable iter X.env x = pure x) ∧
      (∀ (s : Shared) (H : Hp) (C : Addr) (cl : List (Str × Addr)) (fp : List Addr), PG (X.blk s H scope (compEnvC scope cl C X.env) fp) tg (tG (G.z z).K p)) ∧
      (∀ (s : Shared) (H : Hp) (C : Addr) (cl : List (Str × Addr)) (fp : List Addr), PTs (X.blk s H scope (compEnvC scope cl C X.env) fp) ifs (tMc (G.z z).q cs)) ∧
      (∀ (s : Shared) (H : Hp) (C : Addr) (cl : List (Str × Addr)) (fp : List Addr), PE (X.blk s H scope (compEnvC scope cl C X.env) fp) elt (tM (G.z z).q me)) := by
  unfold trComp at e
  obtain ⟨p, e1, e⟩ := Option.bind_eq_some_iff.mp e
  split at e
  · rename_i hc
    obtain ⟨hc1, hc2, hc3, hc4⟩ := hc
    obtain ⟨it, e2, e⟩ := Option.bind_eq_some_iff.mp e
    obtain ⟨me, e3, e⟩ := Option.bind_eq_some_iff.mp e
    have fold := fold_ok (env := X.env) hc2
    have hM : ∀ i ∈ slots p, (G.z z).M i = false := fun i hi => (h.M i).trans (by simpa using List.all_eq_true.mp hc3 i hi)
    have pi : PI X tg iter (tI (G.z z) it) := trI_ok (h.z z) (fun e m q => (hf h q).1) e2
    have blk : BlkOk X.N X.env.scope scope (ownOf c.N p) := by rw [h.N, h.sc]; exact blkOk_by hc4
    have pg : ∀ (s : Shared) (H : Hp) (C : Addr) (cl : List (Str × Addr)) (fp : List Addr), PG (X.blk s H scope (compEnvC scope cl C X.env) fp) tg (tG (G.z z).K p) := fun s H C cl fp => by
      have hb := h.blk hcold s H scope C cl fp
      refine trP_ok (X := X.blk s H scope (compEnvC scope cl C X.env) fp) (h.K) (h.calm hcold) (by rw [hb.N]; exact h.nd) (by rw [hb.N]; exact e1) fun x pp ex => ?_
      rw [hb.sc]
      exact ownT_ok hc1 ex
    have pe : ∀ (s : Shared) (H : Hp) (C : Addr) (cl : List (Str × Addr)) (fp : List Addr), PE (X.blk s H scope (compEnvC scope cl C X.env) fp) elt (tM (G.z z).q me) := fun s H C cl fp => (hf (h.blk hcold s H scope C cl fp) e3).1
    split at e
    · cases e
      exact ⟨p, it, [], me, rfl, hM, pi, blk, ownOf_slots _ _, fold, pg, fun s H C cl fp => simc_nil, pe⟩
    · rename_i t
      split at e
      · cases e
      · rename_i hi
        obtain ⟨mt, e4, e5⟩ := Option.map_eq_some_iff.mp e
        subst e5
        exact ⟨p, it, [mt], me, rfl, hM, pi, blk, ownOf_slots _ _, fold, pg, fun s H C cl fp => simc_one ((hf (h.blk hcold s H scope C cl fp) e4).2 (by simpa using hi)), pe⟩
    · cases e
  · cases e
theorem isTrue_val {e : Expr} {env : PySem.Env} (h1 : isIf e = false) (h2 : ∀ a p, e ≠ .UnaryOp .Not a p) (h3 : ∀ op es p, e ≠ .BoolOp op es p) (h4 : ∀ a ops es p, e ≠ .Compare a ops es p) (whole : Sem Value) : isTrue e env whole = (do let v ← whole; standAt e.pos; holding [v] (truthy v)) := by
  cases e with
  | UnaryOp op a p =>
    cases op with
    | Not => exact absurd rfl (h2 a p)
    | _ => rfl
  | BoolOp op es p => exact absurd rfl (h3 op es p)
  | Compare a ops es p => exact absurd rfl (h4 a ops es p)
  | IfExp a b c p => cases h1
  | _ => rfl
theorem trE_ok : ∀ (n : Nat) {X : Cx} {G : Gx} {sc : Scope} {z : Nat → Bool} {e : Expr} {m : E}, Ctx X G c sc k → trE c n sc z e = some m → PE X e (tM (G.z z) m) ∧ (isIf e = false → PT X e (tMt (G.z z) m))
  | 0, X, G, sc, z, e, m, h, q => nomatch q
  | n + 1, X, G, sc, z, e, m, h, q => by
    have ih : ∀ e m, trE c n sc z e = some m → PE X e (tM (G.z z) m) ∧ (isIf e = false → PT X e (tMt (G.z z) m)) := fun e m q => trE_ok n h q
    have ih1 : ∀ e m, trE c n sc z e = some m → PE X e (tM (G.z z) m) := fun e m q => (ih e m q).1
    have hz := h.z z
    have val : PE X e (tM (G.z z) m) → (∀ a p, e ≠ .UnaryOp .Not a p) → (∀ op es p, e ≠ .BoolOp op es p) → (∀ a ops es p, e ≠ .Compare a ops es p) → PE X e (tM (G.z z) m) ∧ (isIf e = false → PT X e (tMt (G.z z) m)) := fun p h2 h3 h4 => ⟨p, fun h1 => simt_val p (isTrue_val h1 h2 h3 h4)⟩
    unfold trE at q
    split at q
    · exact val (trN_ok h q) (by simp) (by simp) (by simp)
    · exact val (trK_ok q) (by simp) (by simp) (by simp)
    · rename_i a op b pos
      obtain ⟨o, e1, q⟩ := Option.bind_eq_some_iff.mp q
      obtain ⟨ma, e2, q⟩ := Option.bind_eq_some_iff.mp q
      obtain ⟨mb, e3, q⟩ := Option.map_eq_some_iff.mp q
      subst q
      refine val ?_ (by simp) (by simp) (by simp)
      rw [← boOf_op e1]
      exact sim_bin hz.K o (ih1 _ _ e2) (ih1 _ _ e3)
    · obtain ⟨ma, e2, q⟩ := Option.map_eq_some_iff.mp q
      subst q
      exact val (sim_neg (ih1 _ _ e2)) (by simp) (by simp) (by simp)
    · split at q
      · cases q
      · rename_i a pos hi
        obtain ⟨ma, e2, q⟩ := Option.map_eq_some_iff.mp q
        subst q
        exact ⟨sim_not (ih1 _ _ e2), fun _ => simt_not ((ih _ _ e2).2 (by simpa using hi))⟩
    · obtain ⟨h1, h2⟩ := trBool_ok ih q
      exact ⟨h1, fun _ => h2.pt⟩
    · split at q
      · cases q
      · rename_i a op b pos hm
        obtain ⟨ma, e2, q⟩ := Option.bind_eq_some_iff.mp q
        obtain ⟨mb, e3, q⟩ := Option.map_eq_some_iff.mp q
        subst q
        have e4 := coOf_op op
        generalize coOf op = o at e4
        subst e4
        exact ⟨sim_cmpo hz.K h.hu o (ih1 _ _ e2) (ih1 _ _ e3) (by simpa using hm), fun _ => simt_cmpo hz.K h.hu o (ih1 _ _ e2) (ih1 _ _ e3) (by simpa using hm)⟩
    · split at q
      · cases q
      · rename_i a op op' b d pos hm
        obtain ⟨ma, e2, q⟩ := Option.bind_eq_some_iff.mp q
        obtain ⟨mb, e3, q⟩ := Option.bind_eq_some_iff.mp q
        obtain ⟨md, e4, q⟩ := Option.map_eq_some_iff.mp q
        subst q
        have e5 := coOf_op op
        have e6 := coOf_op op'
        generalize coOf op = o at e5
        generalize coOf op' = o' at e6
        subst e5 e6
        exact ⟨sim_chain hz.K h.hu o o' (ih1 _ _ e2) (ih1 _ _ e3) (ih1 _ _ e4) (by simpa using hm), fun _ => simt_chain hz.K h.hu o o' (ih1 _ _ e2) (ih1 _ _ e3) (ih1 _ _ e4) (by simpa using hm)⟩
    · split at q
      · cases q
      · rename_i t a b pos hi
        obtain ⟨mt, e2, q⟩ := Option.bind_eq_some_iff.mp q
        obtain ⟨ma, e3, q⟩ := Option.bind_eq_some_iff.mp q
        obtain ⟨mb, e4, q⟩ := Option.map_eq_some_iff.mp q
        subst q
        exact ⟨sim_ite ((ih _ _ e2).2 (by simpa using hi)) (ih1 _ _ e3) (ih1 _ _ e4), fun h1 => nomatch h1⟩
    · exact val (trCall_ok hz ih1 q) (by simp) (by simp) (by simp)
    · split at q
      · rename_i hh
        obtain ⟨⟨ok, hg⟩, hn, hs⟩ := hh
        split at q
        · cases q
        rename_i hcold
        have hcold : c.hot = false := by simpa using hcold
        obtain ⟨m1, e1, q⟩ := Option.bind_eq_some_iff.mp q
        obtain ⟨m2, e2, q⟩ := Option.map_eq_some_iff.mp q
        subst q
        obtain ⟨g1, g2, g3⟩ := hz.isG hg
        exact val (sim_maxd hz.K g1 hn (hz.calm hcold) hz.hu g2 g3 (okN_d ok) (ih1 _ _ e1) (ih1 _ _ e2) (star_cons hs)) (by simp) (by simp) (by simp)
      · cases q
    · split at q
      · rename_i hl
        exact val (trMeth_ok hz ih1 hl q) (by simp) (by simp) (by simp)
      · cases q
    · split at q
      · rename_i h2
        obtain ⟨ms, e1, q⟩ := Option.map_eq_some_iff.mp q
        subst q
        obtain ⟨p1, p2⟩ := trF_ok ih1 e1
        exact val (sim_fstr p1 p2 h2) (by simp) (by simp) (by simp)
      · cases q
    · obtain ⟨ma, e2, q⟩ := Option.map_eq_some_iff.mp q
      subst q
      exact val (sim_rev hz.K (ih1 _ _ e2)) (by simp) (by simp) (by simp)
    · obtain ⟨ma, e2, q⟩ := Option.bind_eq_some_iff.mp q
      obtain ⟨ml, e3, q⟩ := Option.bind_eq_some_iff.mp q
      obtain ⟨mh, e4, q⟩ := Option.map_eq_some_iff.mp q
      subst q
      exact val (sim_slice hz.K (ih1 _ _ e2) (trO_ok ih1 e3) (trO_ok ih1 e4)) (by simp) (by simp) (by simp)
    · split at q
      · cases q
      · rename_i a b pos _ hi
        obtain ⟨ma, e2, q⟩ := Option.bind_eq_some_iff.mp q
        obtain ⟨mb, e3, q⟩ := Option.map_eq_some_iff.mp q
        subst q
        have := h.hu
        exact val (sim_sub hz.K (by omega) (ih1 _ _ e2) (ih1 _ _ e3) (plainIx (by simpa using hi))) (by simp) (by simp) (by simp)
    · cases q
      exact val sim_emp (by simp) (by simp) (by simp)
    · obtain ⟨ms, e2, q⟩ := Option.bind_eq_some_iff.mp q
      split at q
      · rename_i hl
        cases q
        exact val (sim_tup (trAll_ok ih1 e2).1 hl) (by simp) (by simp) (by simp)
      · cases q
    · obtain ⟨ms, e2, q⟩ := Option.bind_eq_some_iff.mp q
      split at q
      · rename_i hl
        cases q
        exact val (sim_lst (trAll_ok ih1 e2).1 hl) (by simp) (by simp) (by simp)
      · cases q
    · cases q
      exact val sim_dict0 (by simp) (by simp) (by simp)
    · split at q
      · rename_i hh
        obtain ⟨kk, e1, q⟩ := Option.bind_eq_some_iff.mp q
        obtain ⟨ms, e2, q⟩ := Option.map_eq_some_iff.mp q
        subst q
        obtain ⟨p1, p2, p3, p4⟩ := dic_ok ih1 e1 e2 hh.1
        exact val (sim_dic p2 p1 p4 hh.1 (by simp) hh.2 (by rw [p3]; exact hh.2)) (by simp) (by simp) (by simp)
      · cases q
    · split at q
      · cases q
      rename_i hcold
      rw [not_or] at hcold
      have hpin : c.pin = none := by simpa using hcold.2
      have hcold : c.hot = false := by simpa using hcold.1
      obtain ⟨p, it, cs, me, rfl, h1, h2, h3, h4, h5, h6, h7, h8⟩ := trComp_ok h hcold (f := fun sc' e => trE c n sc' z e) (z := z) (fun {X G sc e m} hh qq => trE_ok n hh qq) q
      exact val (sim_comp (show (G.z z).hot = none from h.cold hcold hpin) h1 (h.calm hcold) (by rw [h.N]; exact h.nd) h2 h3 h4 h6 h7 h8 h5) (by simp) (by simp) (by simp)
    · cases q
end
end Q

set_option maxHeartbeats 1000000
namespace Q
open PySem PySem.Spec L2
open PyProof.Rows hiding St

/-! ## if d.setdefault(k, v) != x or c: -/
theorem sdD_some {k v x : D} {p : D × D} (h : sdD k v x = some p) : ∃ kvs q, x = .dic .w kvs ∧ keyD k = some q ∧ kvs.length < lim ∧ ((lookD kvs q = some p.1 ∧ flatD p.1 = true ∧ p.2 = .dic .w kvs) ∨ (lookD kvs q = none ∧ flatD v = true ∧ p.1 = v ∧ p.2 = .dic .w (putD kvs q v))) := by
  unfold sdD at h
  split at h
  · rename_i kvs
    obtain ⟨q, e, h⟩ := Option.bind_eq_some_iff.mp h
    split at h
    · rename_i hl
      refine ⟨kvs, q, rfl, e, hl, ?_⟩
      split at h
      · rename_i d hd
        split at h
        · cases h
          exact .inl ⟨hd, by assumption, rfl⟩
        · cases h
      · rename_i hd
        split at h
        · cases h
          exact .inr ⟨hd, by assumption, rfl, rfl⟩
        · cases h
    · cases h
  · cases h
section
variable {X : Cx} {G : Gx} {N : Nat} {i : Nat} {mx mc : E} {ma : List S}
theorem ifsd_go {R : R2} {U : Addr → Prop} {Lf : Own} {env : Env} {σ : St} {H : Hp} {De : Ends} {w : D} {v : V} (ok : OpOk G.K (fun x y => ofB (cmpop .ne x y)) R) (h : SE G U Lf H σ env)
    (r : RSok G U Lf H ((ev G.C mx env).quiet.s env fun xd => (cmpop .ne w xd).s env fun t => if t then evSs G.C N ma env else (asB (ev G.C mc env)).s env fun t2 => if t2 then evSs G.C N ma env else .ok env .nx) De)
    (rw : ∀ H U, rep G.K H U w v []) : tM (G.z allN) mx σ H fun y H4 => R v y H4 fun z H5 => ∃ k, z = .bl k ∧ if k = true then tSs G N ma De σ H5 else tMt (G.z allN) mc σ H5 fun b H6 => if b = true then tSs G N ma De σ H6 else De.nx σ H6 := by
  obtain ⟨xd, ex, r⟩ := quiet_s r
  refine tM_then (h.dom' _) (h.read _) (k := fun d => d = xd) (by rw [show ev (G.z allN).C mx env = .ok xd from ex]; rfl) fun d y H4 L e s f ry => ?_
  subst e
  cases hc : cmpop .ne w d with
  | exc x => exact absurd (show ofB (cmpop .ne w d) = .exc x by rw [hc]; rfl) (cmp_ne .ne _ _ _)
  | bad => rw [hc] at r; exact r.elim
  | ok t =>
    rw [hc] at r
    refine ok H4 _ [] L w d (.bl t) v y _ (by show ofB (cmpop .ne w d) = _; rw [hc]; rfl) (rw _ _) ry f.1 (fun a ha u => (h.dom' _) a u (f.2 a ha)) fun v5 H5 L5 s5 n5 i5 r5 => ?_
    obtain ⟨rfl, _⟩ := r5
    have s45 := s.trans s5
    refine ⟨t, rfl, ?_⟩
    cases t with
    | true =>
      rw [if_pos rfl]
      exact ⟨U, Lf, env, h.same s45, RSok.mono (.of_same s45) r⟩
    | false =>
      rw [if_neg Bool.false_ne_true]
      have r : RSok G U Lf H ((asB (ev G.C mc env)).s env fun t2 => if t2 then evSs G.C N ma env else .ok env .nx) De := r
      refine ⟨_, env, (h.same s45).dom' _, (h.same s45).read allN, (RSok.s allN (h.same s45) (RSok.mono (.of_same s45) r)).mono fun b _ q H6 s6 => ?_⟩
      cases b with
      | true =>
        rw [if_pos rfl]
        exact ⟨U, Lf, env, (h.same s45).same s6, RSok.mono (.of_same s6) q⟩
      | false =>
        rw [if_neg Bool.false_ne_true]
        exact (show nxOk G U Lf H5 env De.nx from q) σ H6 Lf (.of_same s6) ((h.same s45).same s6)
theorem sims_ifsd {pos p1 p2 apos cpos : Pos} {o ek ed ex ec : Expr} {mk md : E} {a : List Stmt} (hK : G.K = X.K) (hu : X.A.units + 65 < cLine) (ho : PE X o (tPa G i [])) (hk : PE X ek (tM (G.z allN) mk)) (hd : PE X ed (tM (G.z allN) md)) (hx : PE X ex (tM (G.z allN) mx)) (hc : PT X ec (tMt (G.z allN) mc))
    (ha : PSs X a (tSs G N ma)) (mm : M2 X o "setdefault" apos ek ed cpos) (hm : behindInMarks .NotEq ex = false) :
    PS X (.If (.BoolOp .Or [.Compare (.Call (.Attribute o "setdefault" apos) [ek, ed] [] cpos) [.NotEq] [ex] p1, ec] p2) a [] pos) (tS G N (.ifsd i mk md mx mc ma)) := by
  obtain ⟨R, hR, okR⟩ := cmp_rule X hu .ne
  have okR : OpOk G.K (fun x y => ofB (cmpop .ne x y)) R := hK ▸ okR
  refine PS.imp (ps_if (pw_or (pt_cmpR (op := .NotEq) hR (pe_dsetd ho hk hd mm) hx hm) (pw_or1 hc)).pt ha pss_nil) fun De σ H ⟨U, Lf, env, h, r⟩ => ?_
  obtain ⟨kd, e1, r⟩ := quiet_s r
  obtain ⟨vd, e2, r⟩ := quiet_s r
  have hup : ∃ dd p, env[i]? = some (some dd) ∧ sdD kd vd dd = some p ∧ RSok G U Lf H ((ev G.C mx (env.set i (some p.2))).quiet.s (env.set i (some p.2)) fun xd => (cmpop .ne p.1 xd).s (env.set i (some p.2)) fun t => if t then evSs G.C N ma (env.set i (some p.2)) else (asB (ev G.C mc (env.set i (some p.2)))).s (env.set i (some p.2)) fun t2 => if t2 then evSs G.C N ma (env.set i (some p.2)) else .ok (env.set i (some p.2)) .nx) De := by
    unfold sdS at r
    split at r
    · rename_i dd hd
      split at r
      · rename_i p hp
        exact ⟨dd, p, hd, hp, r⟩
      · exact r.elim
    · exact r.elim
  obtain ⟨dd, p, e3, e4, rz⟩ := hup
  clear r
  obtain ⟨kvs, q, rfl, ek', hl, cs⟩ := sdD_some e4
  have hfl : flatD p.1 = true := by
    rcases cs with ⟨_, h, _⟩ | ⟨_, h, e, _⟩
    · exact h
    · rw [e]; exact h
  open Classical in
  obtain ⟨v0, av, y, y', M, g1, g2, g3, g4, g5, g6, gn, g8⟩ := h.upd (f := fun x => if x = .dic .w kvs then some p.2 else none) (ks := []) (d' := p.2) (fun x x' q => by
    by_cases hx : x = .dic .w kvs
    · rw [hx]; trivial
    · rw [if_neg hx] at q; cases q) e3 (if_pos rfl)
  have gy : y = .dic .w kvs ∧ y' = p.2 := by
    by_cases hx : y = .dic .w kvs
    · rw [if_pos hx] at g3
      cases g3
      exact ⟨hx, rfl⟩
    · rw [if_neg hx] at g3; cases g3
  obtain ⟨rfl, rfl⟩ := gy
  obtain ⟨a', vs, L', ea, ⟨g7, gk⟩, g9, z9⟩ := g4
  cases ea
  have eM : M = av :: L' := by
    rcases z9 with ⟨_, e⟩ | ⟨e, _⟩
    · exact e
    · cases e
  subst eM
  refine ⟨_, env, [], v0, .ref av, h.dom' _, h.read allN, rfl, g1, g2, fun H1 s1 => ⟨av, rfl, .inl ⟨vs, .inl (s1 _ _ g9)⟩, ?_⟩⟩
  refine tM_then ((h.same s1).dom' _) ((h.same s1).read allN) (k := fun d => d = kd) (by rw [show ev (G.z allN).C mk env = .ok kd from e1]; rfl) fun d0 yk H2 Lk e s2 f2 rk => ?_
  subst e
  have s12 := s1.trans s2
  refine tM_then ((h.same s12).dom' _) ((h.same s12).read allN) (k := fun d => d = vd) (by rw [show ev (G.z allN).C md env = .ok vd from e2]; rfl) fun d1 yv H3 Lv e s3 f3 rv => ?_
  subst e
  have s13 := s12.trans s3
  have lz : vs.length < sizeLine := by rw [repk_length g7, ← lim_eq]; exact hl
  refine ⟨vs, kyK q, s13 _ _ g9, keyD_rep' ek' rk, lz, fun v hv => ?_, fun hv => ?_⟩
  · rcases cs with ⟨hlk, _, e5⟩ | ⟨hlk, _⟩
    · obtain ⟨w, M', ew, rw', _⟩ := repk_look g7 hlk
      rw [hv] at ew
      cases ew
      rw [e5, set_self e3] at rz
      exact ifsd_go okR (h.same s13) (RSok.mono (.of_same s13) rz) fun H U => rep_flat hfl rw'
    · rw [repk_lookN g7 hlk] at hv
      cases hv
  · rcases cs with ⟨hlk, _⟩ | ⟨hlk, hfv, e5, e6⟩
    · obtain ⟨w, M', ew, _⟩ := repk_look g7 hlk
      rw [hv] at ew
      cases ew
    · have eLv := flatN hfv rv
      subst eLv
      have anL' : av ∉ L' := (List.nodup_cons.mp gn).1
      have nL' := (List.nodup_cons.mp gn).2
      have rvA : ∀ H U, rep G.K H U d1 yv [] := fun H U => rep_flat hfv rv
      have rk2 : repk G.K (upd H3 av (.dK (putK vs (kyK q) yv))) (Or2 (UO U Lf allN) []) kvs vs L' := repk_go _ _ _ (Go.keep (.inr (.inl ⟨_, g9⟩)) g6 anL' (fun c u e n => by rw [upd_ne n]; exact s13 c u e) fun c u => u.imp id (fun z => nomatch z)) g7
      obtain ⟨N', n1, n2, n3⟩ := repk_put gk rk2 (rvA _ _) (by rw [List.append_nil]; exact nL')
      rw [List.append_nil] at n2
      obtain ⟨Lf', q1, q2⟩ := g8 H3 [] (upd H3 av (.dK (putK vs (kyK q) yv))) (av :: N') s13 .nil (fun b o e n => by rw [upd_ne n]; exact e) (fun c hc => .inl (by
          rcases List.mem_cons.mp hc with rfl | hc
          · exact List.mem_cons_self
          · exact List.mem_cons_of_mem _ (n2 c hc)))
        (List.nodup_cons.mpr ⟨fun m => anL' (n2 _ m), n3⟩)
        (by rw [e6]; exact ⟨av, _, N', rfl, ⟨n1, putD_keys gk⟩, upd_same, .inl ⟨rfl, rfl⟩⟩)
      exact ifsd_go okR q2 (RSok.mono q1 rz) fun H U => by rw [e5]; exact rep_flat hfv rv
end
end Q

set_option maxHeartbeats 1000000
namespace Q
open PySem PySem.Spec L2
open PyProof.Rows hiding St

/-! ## names that let go of what they hold -/
theorem offs_len : ∀ {z : List Nat} {env : Env}, (offs z env).length = env.length
  | [], _ => rfl
  | v :: z, env => (offs_len (z := z) (env := env.set v none)).trans List.length_set
theorem offs_some : ∀ {z : List Nat} {env : Env} {i : Nat} {d : D}, (offs z env)[i]? = some (some d) → i ∉ z ∧ env[i]? = some (some d)
  | [], env, i, d, h => ⟨by simp, h⟩
  | v :: z, env, i, d, h => by
    obtain ⟨h1, h2⟩ := offs_some (z := z) (env := env.set v none) h
    rw [List.getElem?_set] at h2
    split at h2
    · split at h2 <;> cases h2
    · rename_i hne
      exact ⟨by simp only [List.mem_cons, not_or]; exact ⟨fun e => hne e.symm, h1⟩, h2⟩
def cutH (M : List Addr) (H : Hp) : Hp := fun b => if b ∈ M then none else H b
theorem cutH_in {M : List Addr} {H : Hp} {b : Addr} (h : b ∈ M) : cutH M H b = none := if_pos h
theorem cutH_out {M : List Addr} {H : Hp} {b : Addr} (h : b ∉ M) : cutH M H b = H b := if_neg h
theorem cutH_same {M : List Addr} {H : Hp} : Same (cutH M H) H := fun b o e => by
  by_cases h : b ∈ M
  · rw [cutH_in h] at e; cases e
  · rw [cutH_out h] at e; exact e
theorem SE.move {G : Gx} {U : Addr → Prop} {Lf : Own} {H : Hp} {σ : St} {env : Env} (h : SE G U Lf H σ env) (z : List Nat) : SE G U (offL Lf z) (cutH (z.flatMap Lf) H) σ (offs z env) := by
  have inn : ∀ {b}, b ∈ z.flatMap Lf → ∃ j ∈ z, b ∈ Lf j := fun m => List.mem_flatMap.mp m
  have out : ∀ {i b}, i ∉ z → b ∈ Lf i → b ∉ z.flatMap Lf := fun {i b} n m q => by
    obtain ⟨j, hj, mj⟩ := inn q
    exact n (h.dis i j b m mj ▸ hj)
  refine ⟨offs_len.trans h.len, fun a u => ?_, fun i d e => ?_, fun i b m => h.fro i b (offL_mem m).1, fun i j b m m' => h.dis i j b (offL_mem m).1 (offL_mem m').1, fun i => ?_, fun i b m => ?_, fun i hm => ?_, h.cold⟩
  · rw [cutH_out fun m => by obtain ⟨j, _, m⟩ := inn m; exact h.fro j a m u]
    exact h.dom a u
  · obtain ⟨ni, e⟩ := offs_some e
    obtain ⟨v, h1, h2⟩ := h.val i d e
    refine ⟨v, h1, ?_⟩
    have eo : offL Lf z i = Lf i := if_neg ni
    rw [eo]
    refine rep_go _ _ _ (Go.keepM (M := z.flatMap Lf) (fun a m => ?_) (fun a m => ?_) (fun a m hb => out ni hb m) (fun b o e1 n => by rw [cutH_out n]; exact e1) fun b u => .inl ?_) h2
    · obtain ⟨j, _, m⟩ := inn m; exact h.muta j a m
    · obtain ⟨j, _, m⟩ := inn m; exact .inr ⟨j, rfl, m⟩
    · exact u.imp id fun ⟨j, q, m⟩ => ⟨j, q, (offL_mem m).1⟩
  · show (if i ∈ z then [] else Lf i).Nodup
    split
    · exact .nil
    · exact h.nod i
  · obtain ⟨m, ni⟩ := offL_mem m
    have e := cutH_out (H := H) (out ni m)
    have := h.muta i b m
    unfold MutA at this ⊢
    rw [e]; exact this
  · show (if i ∈ z then [] else Lf i) = []
    split
    · rfl
    · exact h.imm i hm
section
variable {X : Cx} {G : Gx} {N : Nat} {pos apos cpos : Pos} {o : Expr} {i : Nat}
theorem sims_appm {es : List Expr} {rs : List Re} {k : Nat} {tp : Pos} (hK : G.K = X.K) (ho : PE X o (tPa G i [])) (he : PA X es (tRe G rs)) (nd : (mvs rs).Nodup) (hs : swapsWith (.Call (.Attribute o "append" apos) [.Tuple es k tp] [] cpos) none pos.line X.env = pure false)
    (hbase : attributeBase o "append" X.env (eval o X.env) = eval o X.env)
    (hfew : ((backTo cpos (starEach [Expr.Tuple es k tp] X.env)).all (fun x => !x.1) && (backToKw cpos (keywordEach [] X.env)).all (fun x => x.1.isSome)
      && decide ([Expr.Tuple es k tp].length + ([] : List Keyword).length + (if ([] : List Keyword).isEmpty then 0 else 1) < 30)) = true)
    (hline : (apos.endLine == cpos.line) = true) (hst : starEach [Expr.Tuple es k tp] X.env = (false, eval (.Tuple es k tp) X.env) :: starEach [] X.env) (hpl : (backTo cpos (starEach [] X.env)).any (·.1) = false) :
    PS X (.Expr (.Call (.Attribute o "append" apos) [.Tuple es k tp] [] cpos) pos) (tS G N (.appm i rs)) :=
  PS.imp (ps_expr (pe_bm PySem.F.plainAttrs_list PySem.F.slot_list_append PySem.F.type_list_append mt_append ho (pa_cons (pe_tup he) pa_nil hst) hbase hfew hline hst hpl) hs) fun De σ H ⟨U, Lf, env, h, r⟩ => by
  obtain ⟨ds, eds, r⟩ := quiet_s r
  split at r
  · rename_i hc
    have hm := h.move (mvs rs)
    obtain ⟨d0, d', e1, e2, r4⟩ := upd1_ok r
    obtain ⟨v0, a, y, y', M, g1, g2, g3, g4, g5, g6, gn, g8⟩ := hm.upd (fun x x' q => by obtain ⟨ds, rfl, _⟩ := appD_some q; trivial) e1 e2
    obtain ⟨ds0, rfl, hl, rfl⟩ := appD_some g3
    obtain ⟨vs, L', _, g7, g9, rfl⟩ := rep_lstw g4
    have g7H : H a = some (.lst vs) := cutH_same _ _ g7
    refine ⟨_, env, [], v0, .ref a, h.dom' _, h.read allN, rfl, g1, g2, fun H1 s => ⟨.inl ⟨rfl, vs, .of (s _ _ g7H)⟩, ?_⟩⟩
    refine ⟨U, Lf, env, h.same s, nd, ?_⟩
    rw [show evr G.C env rs = .ok ds from eds]
    intro ws H2 L s2 i2 n2 rr
    refine ⟨by rw [reps_length rr]; exact small_line hc.2, fun pt hpt => ?_⟩
    have st := same_upd (o := HO.tup ws) hpt
    have s13 := s2.trans st
    have s03 : Same (cutH ((mvs rs).flatMap Lf) H) (upd H2 pt (.tup ws)) := cutH_same.trans (s.trans s13)
    have ha3 : upd H2 pt (.tup ws) a = some (.lst vs) := s03 _ _ g7
    have fr : Fresh (cutH ((mvs rs).flatMap Lf) H) L := ⟨n2, fun b hb => by
      rcases i2 b hb with ⟨j, hj, m⟩ | z
      · exact cutH_in (List.mem_flatMap.mpr ⟨j, hj, m⟩)
      · exact cutH_same.free (s.free z)⟩
    have anL' : a ∉ L' := (List.nodup_cons.mp gn).1
    have anL : a ∉ L := fun m => by have := fr.2 a m; rw [g7] at this; cases this
    have rv : rep G.K (upd H2 pt (.tup ws)) (Or2 (UO U (offL Lf (mvs rs)) allN) L) (.tup ds) (.ref pt) L :=
      ⟨pt, ws, ⟨rfl, Nat.le_trans hc.2 (by decide)⟩, .of upd_same, reps_same st (reps_set (fun b u => .inl (u.imp (fun w => w.imp id fun ⟨j, q, m⟩ => ⟨j, q, (offL_mem m).1⟩) id)) rr)⟩
    have disj : ∀ b ∈ L', ∀ c ∈ L, b ≠ c := fun b hb c hc e => by
      subst e
      exact reps_in _ _ _ g9 b hb (fr.2 b hc)
    refine ⟨a, vs, .ref pt, rfl, rfl, ha3, by rw [reps_length g9, ← lim_eq]; exact hl, ?_⟩
    obtain ⟨Lf', q1, q2⟩ := g8 (upd H2 pt (.tup ws)) L (upd (upd H2 pt (.tup ws)) a (.lst (vs ++ [.ref pt]))) (a :: (L' ++ L)) s03 fr (fun b u e n => by rw [upd_ne n]; exact e) (fun b hb => by
        rcases List.mem_cons.mp hb with rfl | hb
        · exact .inl List.mem_cons_self
        · exact (List.mem_append.mp hb).imp (List.mem_cons_of_mem _) id)
      (List.nodup_cons.mpr ⟨fun m => (List.mem_append.mp m).elim anL' anL, List.nodup_append.mpr ⟨(List.nodup_cons.mp gn).2, fr.1, disj⟩⟩)
      (rep_wlst (by rw [List.length_append]; exact hl) upd_same (reps_append (rep_chg s03 fr.2 (.inl ⟨_, g7⟩) g6 anL' g9) (reps_one (rep_go _ _ _ (Go.upd (.inl ⟨_, ha3⟩) (.inl g6) anL) rv))))
    refine r4 σ _ Lf' ⟨fun b u e n => q1.keep b u ?_ fun j m => n j (offL_mem m).1, fun j b m => ?_⟩ q2
    · rw [cutH_out fun m => by obtain ⟨j, _, m⟩ := List.mem_flatMap.mp m; exact n j m]
      exact e
    · rcases q1.from_ j b m with ⟨k, w⟩ | e0
      · exact .inl ⟨k, (offL_mem w).1⟩
      · by_cases hb : b ∈ (mvs rs).flatMap Lf
        · obtain ⟨k, _, w⟩ := List.mem_flatMap.mp hb
          exact .inl ⟨k, w⟩
        · rw [cutH_out hb] at e0
          exact .inr e0
  · exact r.elim
theorem sims_unpm {j : Nat} {e tg : Expr} {me : E} (hK : G.K = X.K) (hqi : ∀ q v, G.hot = some (q, v) → q ≠ i) (hqj : ∀ q v, G.hot = some (q, v) → q ≠ j) (hMi : G.M i = true) (hg : PG X tg (gTup X.K 2 (gAll [i, j]))) (he : PE X e (tM (G.z (inz [])) me)) (hs : swapsWithSole [tg] e pos.line X.env = pure false) (hw : swappedStores [tg] e X.env = pure none)
    (h1 : (assignEach [tg] X.env).map (·.2) = [assign tg X.env]) : PS X (.Assign [tg] e pos) (tS G N (.unpm i j me)) := PS.imp (ps_asg he hg hs hw h1) fun D σ H ⟨U, Lf, env, h, r⟩ => by
  refine tM_then (h.dom' _) (h.read _) (RSok.s (inz []) h r) fun d v H1 L q s f rr => ?_
  obtain ⟨z', h1, r1⟩ := h.after (z := []) rr
  replace h1 : SE G U (offL Lf z') H σ env := h1
  replace q : RSok G U Lf H (unpmS i j d env) D := q
  clear rr
  unfold unpmS at q
  split at q
  · rename_i x y
    split at q
    · rename_i hij
      obtain ⟨a, vs, ⟨rfl, _⟩, sq, rs⟩ := r1
      obtain ⟨vx, vr, L1, Lr, rfl, rfl, hx, rs⟩ := (show ∃ v vr L1 L2, vs = v :: vr ∧ L = L1 ++ L2 ∧ rep G.K H1 _ x v L1 ∧ reps G.K H1 _ [y] vr L2 from rs)
      obtain ⟨vy, vr', L3, L4, rfl, rfl, hy, e1, e2⟩ := (show ∃ v vr' L1 L2, vr = v :: vr' ∧ Lr = L1 ++ L2 ∧ rep G.K H1 _ y v L1 ∧ vr' = [] ∧ L2 = [] from rs)
      subst e1 e2
      have nd := List.nodup_append.mp f.1
      have f1 : Fresh H L1 := ⟨nd.1, fun b hb => f.2 b (List.mem_append_left _ hb)⟩
      refine ⟨a, [vx, vy], rfl, hK ▸ sq, rfl, rfl, ?_⟩
      have p1 := h1.put (i := i) s f1 (rep_set (fun b u => .inl (u.imp id (List.mem_append_left _))) hx) hqi (fun z => by rw [hMi] at z; cases z)
      have sub : ∀ b, UO U (putL (offL Lf z') i L1) allN b → UO U (offL Lf z') allN b ∨ b ∈ L1 := fun b u => by
        rcases u with u | ⟨k, _, m⟩
        · exact .inl (.inl u)
        · unfold putL at m
          split at m
          · exact .inr m
          · exact .inl (.inr ⟨k, rfl, m⟩)
      have ry : rep G.K H1 (UO U (putL (offL Lf z') i L1) allN) (sh y) vy [] := rep_sh y vy L3 (fun b hb u => by
          have hn := f.2 b (List.mem_append_right _ (List.mem_append_left _ hb))
          rcases sub b u with w | w
          · exact h1.dom' _ b w hn
          · exact nd.2.2 b w b (List.mem_append_left _ hb) rfl)
        (rep_set (fun b u => .inl ((sub b u).imp id (List.mem_append_left _))) hy)
      have p2 := p1.put (i := j) (Same.refl H1) .nil (rep_set (fun b u => .inl u.nil) ry) hqj (fun _ => rfl)
      exact (show nxOk G U Lf H _ D.nx from q) _ H1 _ ((putFr .off s f1).trans (.put (Same.refl H1) .nil)) p2
    · exact q.elim
  · exact q.elim
end
end Q

set_option maxHeartbeats 1000000
namespace Q
open PySem PySem.Spec L2
open PyProof.Rows hiding St

/-! ## the translation of statements -/
def isLoc (sc : Scope) (x : Str) : Bool := match sc.names.lookup x with
  | some .local => true
  | some .cell => true
  | _ => false
def locT (sc : Scope) : Expr → Bool
  | .Name x _ => isLoc sc x
  | .Tuple es _ _ => es.all fun e => match e with
    | .Name x _ => isLoc sc x
    | _ => false
  | _ => false
def zOn (c : Tc) (line : Nat) : List Nat := (c.zl.lookup line).getD []
def isComp : Expr → Bool
  | .ListComp _ _ _ _ => true
  | .SetComp _ _ _ _ => true
  | .DictComp _ _ _ _ _ => true
  | _ => false
def isTupE : Expr → Bool
  | .Tuple _ _ _ => true
  | _ => false
/-- a place that is changed -/
def trPa (c : Tc) (n : Nat) (sc : Scope) : Expr → Option (Nat × List E)
  | .Name x _ => if okN x = true ∧ isLoc sc x = true then (slotOf c.N x).bind fun i => if c.M.contains i then some (i, []) else none else none
  | .Subscript o b _ => if isSl b then none else (trPa c n sc o).bind fun q => (trE c n sc allN b).map fun m => (q.1, q.2 ++ [m])
  | _ => none
def mthOk (o : Expr) : Bool := match o with
  | .Call (.Name _ _) [] [] _ => false
  | _ => true
def trTs (c : Tc) (f : Stmt → Option S) : List Stmt → Option (List S)
  | [] => some []
  | s :: r => (f s).bind fun m => (trTs c f r).map fun ms => m :: ms
/-- the same line, a local name, not one of the block's -/
def swapC (sc scope : Scope) (x : Str) (l l' : Nat) : Bool := decide (sc.names.lookup x = some .local) && ((l == l') && !(scope.names.any fun (n, k) => n == x && (k == .local || k == .cell)))
def mkSet (c : Tc) (i : Nat) (z : List Nat) (m : E) : S := if c.M.contains i then .setm i z m else .set i z m
/-- a list of a changed name's own may be what is told -/
def mayM : Expr → Bool
  | .Name _ _ => true
  | .IfExp _ a b _ => mayM a || mayM b
  | .Tuple es _ _ => es.any fun e => match e with
    | .Name _ _ => true
    | _ => false
  | _ => false
/-- a name that holds what is changed -/
def mvOf (c : Tc) (sc : Scope) : Expr → Option Nat
  | .Name x _ => if (isLoc sc x && okN x) = true then (slotOf c.N x).bind fun i => if c.M.contains i then some i else none else none
  | _ => none
def trRs (c : Tc) (sc : Scope) (f : Expr → Option E) : List Expr → Option (List Re)
  | [] => some []
  | e :: r => match mvOf c sc e with
    | some i => (trRs c sc f r).map fun rs => .mv i :: rs
    | none => if isStar e then none else (f e).bind fun m => (trRs c sc f r).map fun rs => .e m :: rs
/-- a place within the loop's name -/
def trQ (c : Tc) (sc : Scope) (v : Nat) : Expr → Option (List Int)
  | .Name x _ => if okN x = true ∧ isLoc sc x = true ∧ slotOf c.N x = some v then some [] else none
  | .Subscript o (.Constant (.int k) _ _) _ => (trQ c sc v o).map fun q => q ++ [k]
  | _ => none
def trAs (c : Tc) (sc : Scope) (n v : Nat) : List Stmt → Option (List (List Int × E))
  | [] => some []
  | .Expr (.Call (.Attribute o a apos) [e] [] cpos) _ :: r => if a = "append" ∧ (mthOk o && !isStar e && (apos.endLine == cpos.line)) = true then
      (trQ c sc v o).bind fun q => (trE c n sc noN e).bind fun m => (trAs c sc n v r).map fun as => (q, m) :: as else none
  | _ :: _ => none
/-- for x in the place: x[..].append(e) .. -/
def trFa (c : Tc) (n : Nat) (sc : Scope) (tg iter : Expr) (a : List Stmt) : Option S := match tg with
  | .Name x _ => if isLoc sc x = true ∧ isSet iter = false ∧ a.isEmpty = false ∧ c.pin = none then (slotOf c.N x).bind fun v => (trPa c n sc iter).bind fun q => if q.1 = v then none else (trAs c sc n v a).map fun as => .fapp q.1 q.2 v as else none
  | _ => none
/-- a suite: names, then return -/
def trH (c : Tc) (sc : Scope) (n : Nat) : List Stmt → Option (List (Nat × E) × E)
  | [] => none
  | .Return (some e) _ :: r => if r.isEmpty = true then (trE c n sc allN e).map fun m => ([], m) else none
  | .Return none _ :: r => if r.isEmpty = true then some ([], .lit .non) else none
  | .If t [.Return (some e1) _] [] _ :: r => if isIf t = false then (trE c n sc allN t).bind fun mt => (trE c n sc allN e1).bind fun m1 => (trH c sc n r).bind fun q => if q.1 = [] then some ([], .ite mt m1 q.2) else none else none
  | .Assign [.Name x _] e _ :: r => if isComp e = false ∧ isLoc sc x = true then (slotOf c.N x).bind fun i => if c.M.contains i || c.hq == some i then none else (trE c n sc allN e).bind fun m => (trH c sc n r).map fun q => ((i, m) :: q.1, q.2) else none
  | _ :: _ => none
/-- a suite: one name -/
def trHc (c : Tc) (sc : Scope) (n : Nat) : List Stmt → Option (Nat × E)
  | [.Assign [.Name x _] e _] => if isComp e = false ∧ isLoc sc x = true then (slotOf c.N x).bind fun i => if c.M.contains i || c.hq == some i then none else (trE c n sc noN e).map fun m => (i, m) else none
  | _ => none
/-- append of a call that changes its second argument -/
def trAc (c : Tc) (n : Nat) (sc : Scope) (o e : Expr) : Option S := match o, e with
  | .Name xr _, .Call (.Name xf _) [e1, .Name xm _] [] _ => if (okN xr = true ∧ okN xf = true ∧ okN xm = true) ∧ (isLoc sc xr = true ∧ isLoc sc xm = true ∧ glN c sc xf = true) ∧ isStar e1 = false then
      (c.cms.lookup xf).bind fun f => (slotOf c.N xr).bind fun i => (slotOf c.N xm).bind fun m => if c.M.contains i = true ∧ c.M.contains m = true then (trE c n sc noN e1).map fun me => .appc i f me m else none else none
  | _, _ => none
/-- for .. in a name that holds what is changed, not frozen -/
def trFh (c : Tc) (sc : Scope) (tg iter : Expr) (line : Nat) : Option (P × Nat) := match iter with
  | .Name x _ => if (zOn c line).isEmpty = true ∧ (okN x = true ∧ isLoc sc x = true) ∧ c.pin = none ∧ locT sc tg = true then (slotOf c.N x).bind fun i => (trP c.N tg).bind fun p => if c.M.contains i = true ∧ (slots p).all (fun j => !c.M.contains j && decide (i ≠ j)) = true then some (p, i) else none else none
  | _ => none
/-- x.append((a, b ..)) where a, b let go of what they hold -/
def trAm (c : Tc) (n : Nat) (sc : Scope) (o e : Expr) (line : Nat) : Option S := match e with
  | .Tuple es _ _ => if (zOn c line).isEmpty = true then (trPa c n sc o).bind fun q => (trRs c sc (trE c n sc noN) es).bind fun rs => if q.2 = [] ∧ mvs rs ≠ [] ∧ (mvs rs).Nodup then some (.appm q.1 rs) else none else none
  | _ => none
/-- a, b = e where a gets what is its own -/
def trUm (c : Tc) (n : Nat) (sc : Scope) (is : List Nat) (e : Expr) (line : Nat) : Option S := match is with
  | [i, j] => if (zOn c line).isEmpty = true ∧ c.M.contains i = true ∧ c.pin ≠ some i ∧ c.pin ≠ some j then (trE c n sc (inz []) e).map fun m => .unpm i j m else none
  | _ => none
/-- d.setdefault(k, v) != x or c -/
def trSd (c : Tc) (n : Nat) (sc : Scope) (b : List Stmt) : Expr → Option (Nat × E × E × E × E)
  | .BoolOp .Or [.Compare (.Call (.Attribute (.Name x px) a apos) [e1, e2] [] cpos) [.NotEq] [e3] _, e4] _ => if (a = "setdefault" ∧ b.isEmpty = true) ∧ (apos.endLine == cpos.line) = true ∧ (isStar e1 = false ∧ isStar e2 = false) ∧ behindInMarks .NotEq e3 = false ∧ isIf e4 = false then
      (trPa c n sc (.Name x px)).bind fun q => if q.2 = [] then (trE c n sc allN e1).bind fun m1 => (trE c n sc allN e2).bind fun m2 => (trE c n sc allN e3).bind fun m3 => (trE c n sc allN e4).map fun m4 => (q.1, m1, m2, m3, m4) else none else none
  | _ => none
def trS (c : Tc) (sc : Scope) : Nat → Stmt → Option S
  | 0, _ => none
  | n + 1, s => match s with
    | .Expr (.Constant (.str _) _ _) _ => some .pass
    | .Expr (.Call (.Attribute o a apos) [e] [] cpos) pos =>
      if (mthOk o && !isStar e && (apos.endLine == cpos.line)) = true then (
        if a = "append" then match trAc c n sc o e with
          | some m => some m
          | none => match trAm c n sc o e pos.line with
            | some m => some m
            | none => if mayM e && !(zOn c pos.line).isEmpty then (trPa c n sc o).bind fun q => (trE c n sc (inz (zOn c pos.line)) e).map fun m => .apz q.1 q.2 (zOn c pos.line) m else (trPa c n sc o).bind fun q => (trE c n sc (zOf (!(zOn c pos.line).isEmpty)) e).map fun m => .app q.1 q.2 (!(zOn c pos.line).isEmpty) m
        else if a = "extend" then (trPa c n sc o).bind fun q => (trE c n sc (zOf (!(zOn c pos.line).isEmpty)) e).map fun m => .ext q.1 q.2 (!(zOn c pos.line).isEmpty) m
        else if a = "update" then (trPa c n sc o).bind fun q => (trE c n sc (zOf (!(zOn c pos.line).isEmpty)) e).map fun m => .upd q.1 q.2 (!(zOn c pos.line).isEmpty) m
        else if a = "pop" then (match e with
          | .Constant (.int k) _ _ => if k = 0 then (trPa c n sc o).map fun q => .pop0 q.1 q.2 else none
          | _ => none)
        else none) else none
    | .Expr (.Call (.Attribute o a apos) [] [] cpos) pos =>
      if (mthOk o && (apos.endLine == cpos.line)) = true then (if a = "clear" then (trPa c n sc o).map fun q => .clr q.1 q.2 else none) else none
    | .Expr e _ => if isComp e then none else (trE c n sc allN e).map .exp
    | .Assign [.Name x px] (.ListComp elt [⟨tg, iter, ifs, 0⟩] scope lp) pos => if isLoc sc x ∧ c.pin = none then (slotOf c.N x).bind fun i => if swapC sc scope x px.line lp.line = true then
        (trComp c sc (fun sc' e => trE c n sc' (inz (zOn c pos.line)) e) elt tg iter ifs scope).map fun m => mkSet c i (zOn c pos.line) m
      else none else none
    | .Assign [.Name x _] (.Dict [] [] _) pos => if isLoc sc x = true then (slotOf c.N x).bind fun i => if c.pin = some i then none else some (mkSet c i (zOn c pos.line) (.dict0 ((zOn c 0).contains i))) else none
    | .Assign [.Name x _] e pos => if isComp e = false ∧ isLoc sc x = true then (slotOf c.N x).bind fun i => if c.pin = some i then none else (trE c n sc (inz (zOn c pos.line)) e).map fun m => mkSet c i (zOn c pos.line) m else none
    | .Assign [.Tuple es kk tp] (.Call (.Attribute o a apos) [] [] cpos) _ => if a = "pop" ∧ (mthOk o && (apos.endLine == cpos.line)) = true ∧ locT sc (.Tuple es kk tp) = true then (trNs c.N es).bind fun is => if is.all (fun i => !c.M.contains i && decide (c.pin ≠ some i)) = true then (trPa c n sc o).bind fun q => if q.2 = [] then some (.popu is q.1) else none else none else none
    | .Assign [.Tuple es kk tp] e pos => if isComp e = false ∧ isTupE e = false ∧ locT sc (.Tuple es kk tp) = true then (trNs c.N es).bind fun is => if is.all (fun i => !c.M.contains i && decide (c.pin ≠ some i)) = true then (trE c n sc (inz (zOn c pos.line)) e).map fun m => .unp is (zOn c pos.line) m else trUm c n sc is e pos.line else none
    | .Assign [.Subscript (.Name x xp) (.Tuple es kk tp) _] e pos => (trPa c n sc (.Name x xp)).bind fun q => (trAll (trE c n sc allN) es).bind fun ks => if q.2 = [] ∧ ks.length ≤ 1000 then (trE c n sc allN e).map fun m => .stot q.1 ks m else none
    | .Assign [.Subscript o b _] e pos => if isSl b = false then (trPa c n sc o).bind fun q => (trE c n sc allN b).bind fun k => (trE c n sc (zOf (!(zOn c pos.line).isEmpty)) e).map fun m => .sto q.1 q.2 k (!(zOn c pos.line).isEmpty) m else none
    | .If t a b _ => match trSd c n sc b t with
      | some q => (trTs c (trS c sc n) a).map fun ma => .ifsd q.1 q.2.1 q.2.2.1 q.2.2.2.1 q.2.2.2.2 ma
      | none => if isIf t then none else (trE c n sc allN t).bind fun mt => (trTs c (trS c sc n) a).bind fun ma => (trTs c (trS c sc n) b).map fun mb => .ifs mt ma mb
    | .While t a [] _ => if isIf t then none else (trE c n sc allN t).bind fun mt => (trTs c (trS c sc n) a).map fun ma => .whl mt ma
    | .For tg iter a [] pos => match trFa c n sc tg iter a with
      | some m => some m
      | none => match trFh c sc tg iter pos.line with
        | some q => (trTs { c with pin := some q.2 } (trS { c with pin := some q.2 } sc n) a).map fun ma => .forh q.1 q.2 ma
        | none => (trP c.N tg).bind fun p => if locT sc tg = true ∧ isSet iter = false ∧ (slots p).all (fun i => !c.M.contains i && decide (c.pin ≠ some i)) = true then
        (trI c sc (trE c n sc (inz (zOn c pos.line))) (isTup tg) iter).bind fun it => (trTs c (trS c sc n) a).map fun ma => .for_ p it (zOn c pos.line) ma else none
    | .Return (some (.Name x px)) _ => if (isLoc sc x && okN x) = true then (slotOf c.N x).bind fun i => if c.M.contains i then some (.retm i) else (trE c n sc allN (.Name x px)).map .ret else (trE c n sc allN (.Name x px)).map .ret
    | .Return (some (.Tuple es kk tp)) _ => match trRs c sc (trE c n sc noN) es with
      | some rs => if mvs rs ≠ [] ∧ (mvs rs).Nodup ∧ rs.length ≤ 1000 then some (.rett rs) else (trE c n sc allN (.Tuple es kk tp)).map .ret
      | none => (trE c n sc allN (.Tuple es kk tp)).map .ret
    | .Return (some e) _ => (trE c n sc allN e).map .ret
    | .Return none _ => some (.ret (.lit .non))
    | .Pass _ => some .pass
    | .Break _ => some .brk
    | .Continue _ => some .cont
    | .Raise (some (.Call (.Name x _) [.Constant (.str _) _ _] [] _)) none _ => if c.hot = false ∧ okN x = true ∧ glN c sc x = true then (match c.xt.exs.lookup x with
      | some j => some (.raise j none)
      | none => some (.exp (.bf .sorted []))) else none
    | .Raise _ _ _ => some (.exp (.bf .sorted []))
    | .Try body [.ExceptHandler (some (.Name x _)) nm (b0 :: suite) _] [] [] _ => if (c.hot = false ∧ c.pin = none) ∧ okN x = true ∧ glN c sc x = true then (c.xt.trys.lookup x).bind fun jt => (trTs c (trS c sc n) body).bind fun mb => (match nm with
      | none => (trH (c.hotC none [] []) sc n (b0 :: suite)).map fun r => .tryx mb jt.1 none r.1 r.2
      | some e => if sc.names.lookup e = some .local then (slotOf c.N e).bind fun q => (match trHc (c.hotC (some q) jt.2 (c.xt.xf x)) sc n (b0 :: suite) with
        | some r => some (.tryc mb jt.1 q r.1 r.2)
        | none => (trH (c.hotC (some q) jt.2 (c.xt.xf x)) sc n (b0 :: suite)).map fun r => .tryx mb jt.1 (some q) r.1 r.2) else none) else none
    | _ => none

structure SCtx (X : Cx) (G : Gx) (c : Tc) (sc : Scope) (k : Nat) : Prop extends Ctx X G c sc k where
  fn : ∀ x, X.fn x = true
  kd : X.env.scope.kind = .function
  pass : PassesOwn (model X.prog X.w) X.A X.env X.xe
  hs : X.stack = X.env :: X.outer
  hf : X.env.frame = some X.env.locals
  nh : c.hot = false
section
variable {X : Cx} {G : Gx} {c : Tc} {sc : Scope} {k : Nat}
theorem SCtx.loc (h : SCtx X G c sc k) {x : Str} (e : isLoc sc x = true) : Loc X.env.scope x := by
  unfold isLoc at e
  rw [h.sc]
  split at e
  · exact .inl (by assumption)
  · exact .inr (by assumption)
  · cases e
theorem SCtx.vis (h : SCtx X G c sc k) {x : Str} (e : isLoc sc x = true) : Vis X.env.scope x := (h.loc e).elim .inl fun q => .inr (.inl q)
theorem SCtx.locT (h : SCtx X G c sc k) {tg : Expr} (e : _root_.Q.locT sc tg = true) {x : Str} {pp : Pos} (e1 : tg = .Name x pp ∨ ∃ es kk p2, tg = .Tuple es kk p2 ∧ .Name x pp ∈ es) : Loc X.env.scope x ∧ (X.fn x = true ∨ X.env.scope.names.lookup x = some .local) := by
  refine ⟨h.loc ?_, .inl (h.fn x)⟩
  rcases e1 with rfl | ⟨es, kk, p2, rfl, hm⟩
  · exact e
  · exact List.all_eq_true.mp e _ hm
theorem SCtx.hq (h : SCtx X G c sc k) {i : Nat} (hp : c.pin ≠ some i) : ∀ q v, G.hot = some (q, v) → q ≠ i := fun q v e z => hp (z ▸ h.pinF h.nh q v e)
theorem SCtx.hM (h : SCtx X G c sc k) {is : List Nat} (e : is.all (fun i => !c.M.contains i && decide (c.pin ≠ some i)) = true) : (∀ i ∈ is, ∀ q v, G.hot = some (q, v) → q ≠ i) ∧ ∀ i ∈ is, G.M i = false := by
  refine ⟨fun i hi => ?_, fun i hi => ?_⟩
  · have := List.all_eq_true.mp e i hi
    exact h.hq (of_decide_eq_true (Bool.and_eq_true_iff.mp this).2)
  · have := List.all_eq_true.mp e i hi
    exact (h.M i).trans (by simpa using (Bool.and_eq_true_iff.mp this).1)
theorem sw_pure {e : Expr} {t : Option Expr} {l : Nat} {env : PySem.Env} (h : isComp e = false) : swapsWith e t l env = pure false := by
  cases e <;> first | rfl | cases h
theorem sw_sub {e o b : Expr} {p : Pos} {l : Nat} {env : PySem.Env} : swapsWith e (some (.Subscript o b p)) l env = pure false := by
  cases e <;> rfl
theorem base_ok {o : Expr} {a : Str} {env : PySem.Env} {w : Sem Value} (h : mthOk o = true) : attributeBase o a env w = w := by
  unfold attributeBase
  unfold mthOk at h
  split at h
  · cases h
  · rename_i hh
    split
    · exact absurd rfl (hh _ _ _)
    · rfl
theorem trPa_ok (h : SCtx X G c sc k) (n : Nat) : ∀ (o : Expr) {q : Nat × List E}, trPa c n sc o = some q → PE X o (tPa G q.1 q.2)
  | .Name x p, q, e => by
    unfold trPa at e
    split at e
    · rename_i hh
      obtain ⟨i, e1, e2⟩ := Option.bind_eq_some_iff.mp e
      split at e2
      · cases e2
        exact simp_nil (by rw [h.N]; exact slotOf_get e1) (h.vis hh.2) (okN_d hh.1) (okN_c hh.1)
      · cases e2
    · cases e
  | .Subscript o b p, q, e => by
    unfold trPa at e
    split at e
    · cases e
    · rename_i hs
      obtain ⟨q1, e1, e⟩ := Option.bind_eq_some_iff.mp e
      obtain ⟨m, e2, e⟩ := Option.map_eq_some_iff.mp e
      subst e
      exact simp_snoc h.K (trPa_ok h n o e1) (trE_ok n h.toCtx e2).1 (plainIx (by simpa using hs))
  | .BoolOp _ _ _, q, e => by simp [trPa] at e
  | .NamedExpr _ _ _, q, e => by simp [trPa] at e
  | .BinOp _ _ _ _, q, e => by simp [trPa] at e
  | .UnaryOp _ _ _, q, e => by simp [trPa] at e
  | .Lambda _ _ _ _, q, e => by simp [trPa] at e
  | .IfExp _ _ _ _, q, e => by simp [trPa] at e
  | .Dict _ _ _, q, e => by simp [trPa] at e
  | .Set _ _ _, q, e => by simp [trPa] at e
  | .ListComp _ _ _ _, q, e => by simp [trPa] at e
  | .SetComp _ _ _ _, q, e => by simp [trPa] at e
  | .DictComp _ _ _ _ _, q, e => by simp [trPa] at e
  | .GeneratorExp _ _ _ _, q, e => by simp [trPa] at e
  | .Await _ _, q, e => by simp [trPa] at e
  | .Yield _ _, q, e => by simp [trPa] at e
  | .YieldFrom _ _, q, e => by simp [trPa] at e
  | .Compare _ _ _ _, q, e => by simp [trPa] at e
  | .Call _ _ _ _, q, e => by simp [trPa] at e
  | .FormattedValue _ _ _ _, q, e => by simp [trPa] at e
  | .JoinedStr _ _, q, e => by simp [trPa] at e
  | .Constant _ _ _, q, e => by simp [trPa] at e
  | .Attribute _ _ _, q, e => by simp [trPa] at e
  | .Starred _ _, q, e => by simp [trPa] at e
  | .List _ _, q, e => by simp [trPa] at e
  | .Tuple _ _ _, q, e => by simp [trPa] at e
  | .Slice _ _ _ _, q, e => by simp [trPa] at e
theorem trTs_ok {N : Nat} {f : Stmt → Option S} (hf : ∀ s m, f s = some m → PS X s (tS G N m)) : ∀ {ss : List Stmt} {ms : List S}, trTs c f ss = some ms → PSs X ss (tSs G N ms)
  | [], ms, h => by
    cases h
    exact sims_nilS
  | s :: ss, ms, h => by
    obtain ⟨m, h1, h2⟩ := Option.bind_eq_some_iff.mp (show ((f s).bind fun m => (trTs c f ss).map fun ms => m :: ms) = some ms from h)
    obtain ⟨ms', h3, h4⟩ := Option.map_eq_some_iff.mp h2
    subst h4
    exact sims_consS (hf s m h1) (trTs_ok hf h3)
theorem mk_run {N : Nat} (h : SCtx X G c sc k) {i : Nat} (hp : c.pin ≠ some i) {z : List Nat} {me : E} {De : Ends} {σ : St} {H : Hp} (r : tS G N (mkSet c i z me) De σ H) : tAsg (tM (G.z (inz z)) me) (gName i) De σ H := by
  unfold mkSet at r
  split at r
  · rename_i hm
    exact setm_run (h.hq hp) ((h.M i).trans hm) r
  · exact set_run (h.hq hp) r
theorem sims_mk {N : Nat} (h : SCtx X G c sc k) {i : Nat} {z : List Nat} {x : Str} {e : Expr} {me : E} {p2 pos : Pos} (hi : slotOf c.N x = some i) (hp : c.pin ≠ some i) (hx : isLoc sc x = true) (he : PE X e (tM (G.z (inz z)) me)) (hs : swapsWith e (some (.Name x p2)) pos.line X.env = pure false) :
    PS X (.Assign [.Name x p2] e pos) (tS G N (mkSet c i z me)) :=
  PS.imp (ps_set (by rw [h.N]; exact h.nd) (by rw [h.N]; exact slotOf_get hi) (h.loc hx) he hs (.inl (h.fn x))) fun De σ H r => mk_run h hp r
theorem few_ok {e : Expr} {cpos : Pos} (h : isStar e = false) : ((backTo cpos (starEach [e] X.env)).all (fun x => !x.1) && (backToKw cpos (keywordEach [] X.env)).all (fun x => x.1.isSome)
      && decide ([e].length + ([] : List Keyword).length + (if ([] : List Keyword).isEmpty then 0 else 1) < 30)) = true := by
  rw [star_cons h]
  rfl
theorem SCtx.res (h : SCtx X G c sc k) {f : Expr → Option E} (hf : ∀ e m, f e = some m → PE X e (tM (G.z noN) m)) : ∀ {es : List Expr} {rs : List Re}, trRs c sc f es = some rs → PA X es (tRe G rs)
  | [], rs, e => by cases e; exact pare_nil
  | e0 :: r, rs, e => by
    unfold trRs at e
    split at e
    · rename_i i hm
      obtain ⟨rs', e1, e2⟩ := Option.map_eq_some_iff.mp e
      subst e2
      unfold mvOf at hm
      split at hm
      · split at hm
        · rename_i hh
          obtain ⟨hl, ho⟩ := Bool.and_eq_true_iff.mp hh
          obtain ⟨j, e3, hm⟩ := Option.bind_eq_some_iff.mp hm
          split at hm <;> cases hm
          exact pare_m (by rw [h.N]; exact slotOf_get e3) (h.vis hl) (okN_d ho) (okN_c ho) (SCtx.res h hf e1)
        · cases hm
      · cases hm
    · split at e
      · cases e
      · rename_i hs
        obtain ⟨m, e1, e⟩ := Option.bind_eq_some_iff.mp e
        obtain ⟨rs', e2, e3⟩ := Option.map_eq_some_iff.mp e
        subst e3
        exact pare_e (hf _ _ e1) (SCtx.res h hf e2) (star_cons (by simpa using hs))
theorem trQ_ok (h : SCtx X G c sc k) {v : Nat} : ∀ (o : Expr) {q : List Int}, trQ c sc v o = some q → PE X o (tPa G v (q.map fun k => .lit (.int k)))
  | .Name x p, q, e => by
    unfold trQ at e
    split at e
    · rename_i hh
      cases e
      exact simp_nil (by rw [h.N]; exact slotOf_get hh.2.2) (h.vis hh.2.1) (okN_d hh.1) (okN_c hh.1)
    · cases e
  | .Subscript o b p, q, e => by
    unfold trQ at e
    split at e
    · rename_i e1; cases e1
    · rename_i o' k j p1 p2 e1
      cases e1
      obtain ⟨q1, e2, e3⟩ := Option.map_eq_some_iff.mp e
      subst e3
      rw [List.map_append]
      exact simp_snoc h.K (trQ_ok h o e2) sim_int (plainIx rfl)
    · cases e
  | .BoolOp _ _ _, q, e => by simp [trQ] at e
  | .NamedExpr _ _ _, q, e => by simp [trQ] at e
  | .BinOp _ _ _ _, q, e => by simp [trQ] at e
  | .UnaryOp _ _ _, q, e => by simp [trQ] at e
  | .Lambda _ _ _ _, q, e => by simp [trQ] at e
  | .IfExp _ _ _ _, q, e => by simp [trQ] at e
  | .Dict _ _ _, q, e => by simp [trQ] at e
  | .Set _ _ _, q, e => by simp [trQ] at e
  | .ListComp _ _ _ _, q, e => by simp [trQ] at e
  | .SetComp _ _ _ _, q, e => by simp [trQ] at e
  | .DictComp _ _ _ _ _, q, e => by simp [trQ] at e
  | .GeneratorExp _ _ _ _, q, e => by simp [trQ] at e
  | .Await _ _, q, e => by simp [trQ] at e
  | .Yield _ _, q, e => by simp [trQ] at e
  | .YieldFrom _ _, q, e => by simp [trQ] at e
  | .Compare _ _ _ _, q, e => by simp [trQ] at e
  | .Call _ _ _ _, q, e => by simp [trQ] at e
  | .FormattedValue _ _ _ _, q, e => by simp [trQ] at e
  | .JoinedStr _ _, q, e => by simp [trQ] at e
  | .Constant _ _ _, q, e => by simp [trQ] at e
  | .Attribute _ _ _, q, e => by simp [trQ] at e
  | .Starred _ _, q, e => by simp [trQ] at e
  | .List _ _, q, e => by simp [trQ] at e
  | .Tuple _ _ _, q, e => by simp [trQ] at e
  | .Slice _ _ _ _, q, e => by simp [trQ] at e
theorem trAs_ok (h : SCtx X G c sc k) (hpin : c.pin = none) {n v : Nat} : ∀ {ss : List Stmt} {as : List (List Int × E)}, trAs c sc n v ss = some as → PSs X ss (tAs G v as)
  | [], as, e => by cases e; exact simsA_nil
  | s :: ss, as, e => by
    unfold trAs at e
    split at e
    · rename_i q; cases q
    · rename_i o a apos e0 cpos pos r q
      cases q
      split at e
      · rename_i hh
        obtain ⟨ha, hh⟩ := hh
        subst ha
        rw [Bool.and_eq_true_iff, Bool.and_eq_true_iff] at hh
        obtain ⟨⟨h1, h2⟩, h3⟩ := hh
        have h2 : isStar e0 = false := by simpa using h2
        obtain ⟨q1, e1, e⟩ := Option.bind_eq_some_iff.mp e
        obtain ⟨m, e2, e⟩ := Option.bind_eq_some_iff.mp e
        obtain ⟨as', e3, e4⟩ := Option.map_eq_some_iff.mp e
        subst e4
        exact simsA_cons (sims_app1 (h.cold h.nh hpin) (trQ_ok h o e1) (trE_ok n h.toCtx e2).1 (sw_pure rfl) (base_ok h1) (few_ok h2) h3 (star_cons h2) rfl) (trAs_ok h hpin e3)
      · cases e
    · cases e
/-- in the suite -/
theorem SCtx.suite (h : SCtx X G c sc k) {q : Option Nat} {tbl : List (Str × Bool)} {xf : List (Str × D)} {a : Addr} {pn : List (Addr × Obj)} (hI : ∀ i, q = some i → HotX (X.suite a pn) a tbl xf) : Ctx (X.suite a pn) (G.ht q a) (c.hotC q tbl xf) sc k where
  K := h.K
  N := h.N
  nd := h.nd
  sc := h.sc
  calm := fun z => nomatch z
  tk := L2.takes0
  room := fun z => nomatch z
  hu := h.hu
  pinF := fun z => nomatch z
  hotF := fun _ i e => ⟨a, by
    have e : q = some i := e
    subst e
    rfl, hI i e⟩
  M := h.M
  glo := h.glo
  fns := h.fns
  fnsO := h.fnsO
  blt := h.blt
  vfs := h.vfs
  cms := h.cms
  exs := fun x j m => ⟨(h.exs x j m).ex⟩
  trys := fun x j t m => ⟨(h.trys x j t m).ex⟩
theorem SCtx.body (h : SCtx X G c sc k) {W : WX} {pn : List (Addr × Obj)} {xe : Value → Shared → Prop} (tk : Takes (X.tr pn xe) W) (ps : PassesOwn (model X.prog X.w) X.A X.env xe) : SCtx (X.tr pn xe) (G.wx W) c sc k where
  K := h.K
  N := h.N
  nd := h.nd
  sc := h.sc
  calm := h.calm
  tk := tk
  room := h.room
  hu := h.hu
  pinF := h.pinF
  hotF := fun z => by rw [h.nh] at z; cases z
  M := h.M
  glo := h.glo
  fns := h.fns
  fnsO := h.fnsO
  blt := h.blt
  vfs := h.vfs
  cms := h.cms
  exs := fun x j m => ⟨(h.exs x j m).ex⟩
  trys := fun x j t m => ⟨(h.trys x j t m).ex⟩
  fn := h.fn
  kd := h.kd
  pass := ps
  hs := h.hs
  hf := h.hf
  nh := h.nh
theorem trH_ok (h : Ctx X G c sc k) (hfn : ∀ x, X.fn x = true) (hhq : ∀ q v, G.hot = some (q, v) → c.hq = some q) (n : Nat) : ∀ {ss : List Stmt} {r : List (Nat × E) × E}, trH c sc n ss = some r → PSs X ss (tH (G.z allN) r.1 r.2)
  | [], r, e => nomatch e
  | s :: ss, r, e => by
    unfold trH at e
    split at e
    · rename_i q; cases q
    · rename_i e0 p0 r0 q
      cases q
      split at e
      · rename_i hn
        have hn : ss = [] := List.isEmpty_iff.mp hn
        subst hn
        obtain ⟨m, e1, e2⟩ := Option.map_eq_some_iff.mp e
        subst e2
        exact simh_ret (trE_ok n h e1).1
      · cases e
    · rename_i p0 r0 q
      cases q
      split at e
      · rename_i hn
        have hn : ss = [] := List.isEmpty_iff.mp hn
        subst hn
        cases e
        exact simh_retN
      · cases e
    · rename_i t e1 p1 p2 r0 q
      cases q
      split at e
      · rename_i hi
        obtain ⟨mt, t1, e⟩ := Option.bind_eq_some_iff.mp e
        obtain ⟨m1, t2, e⟩ := Option.bind_eq_some_iff.mp e
        obtain ⟨q1, t3, e⟩ := Option.bind_eq_some_iff.mp e
        split at e
        · rename_i hq1
          cases e
          have r := trH_ok h hfn hhq n t3
          rw [hq1] at r
          exact simh_if ((trE_ok n h t1).2 hi) (simh_ret (trE_ok n h t2).1) r
        · cases e
      · cases e
    · rename_i x px e0 p0 r0 q
      cases q
      split at e
      · rename_i hh
        obtain ⟨i, e1, e⟩ := Option.bind_eq_some_iff.mp e
        split at e
        · cases e
        · rename_i hM
          rw [Bool.or_eq_true, not_or] at hM
          obtain ⟨m, e2, e⟩ := Option.bind_eq_some_iff.mp e
          obtain ⟨q1, e3, e4⟩ := Option.map_eq_some_iff.mp e
          subst e4
          have hl : Loc X.env.scope x := by
            have hx := hh.2
            unfold isLoc at hx
            rw [h.sc]
            split at hx
            · exact .inl (by assumption)
            · exact .inr (by assumption)
            · cases hx
          exact simh_set (by rw [h.N]; exact h.nd) (by rw [h.N]; exact slotOf_get e1) hl ((h.M i).trans (by simpa using hM.1)) (fun q v z e5 => hM.2 (by rw [hhq q v z, e5]; simp)) (trE_ok n h e2).1 (sw_pure hh.1) (hfn x) (trH_ok h hfn hhq n e3)
      · cases e
    · cases e
theorem trHc_ok {G0 : Gx} {q : Nat} {a : Addr} (h : Ctx X (G0.ht (some q) a) c sc k) (hcold : G0.hot = none) (hfn : ∀ x, X.fn x = true) (n : Nat) {ss : List Stmt} {r : Nat × E} (e : trHc c sc n ss = some r) : PSs X ss (tHn G0 q r.1 r.2 a) := by
  unfold trHc at e
  split at e
  · rename_i x px e0 p0
    split at e
    · rename_i hh
      obtain ⟨i, e1, e⟩ := Option.bind_eq_some_iff.mp e
      split at e
      · cases e
      · rename_i hM
        rw [Bool.or_eq_true, not_or] at hM
        obtain ⟨m, e2, e⟩ := Option.map_eq_some_iff.mp e
        subst e
        have hl : Loc X.env.scope x := by
          have hx := hh.2
          unfold isLoc at hx
          rw [h.sc]
          split at hx
          · exact .inl (by assumption)
          · exact .inr (by assumption)
          · cases hx
        exact simhn_set hcold (by rw [h.N]; exact h.nd) (by rw [h.N]; exact slotOf_get e1) hl (show (G0.ht (some q) a).M i = false from (h.M i).trans (by simpa using hM.1)) (trE_ok n h e2).1 (sw_pure hh.1) (hfn x)
    · cases e
  · cases e
/-- a name pinned -/
theorem SCtx.pin (h : SCtx X G c sc k) (i : Nat) (v : V) : SCtx X (G.pin i v) { c with pin := some i } sc k where
  K := h.K
  N := h.N
  nd := h.nd
  sc := h.sc
  calm := h.calm
  tk := h.tk
  room := h.room
  hu := h.hu
  pinF := fun _ q w e => by
    have e : some (i, v) = some (q, w) := e
    cases e; rfl
  hotF := fun z => by
    have z : c.hot = true := z
    rw [h.nh] at z; cases z
  M := h.M
  glo := h.glo
  fns := h.fns
  fnsO := h.fnsO
  blt := h.blt
  vfs := h.vfs
  cms := h.cms
  exs := fun x j m => ⟨(h.exs x j m).ex⟩
  trys := fun x j t m => ⟨(h.trys x j t m).ex⟩
  fn := h.fn
  kd := h.kd
  pass := h.pass
  hs := h.hs
  hf := h.hf
  nh := h.nh
theorem sims_um (h : SCtx X G c sc k) {N n : Nat} {es : List Expr} {kk : Nat} {tp pos : Pos} {e : Expr} {is : List Nat} {m : S} (e1 : trNs c.N es = some is) (hc : isComp e = false) (ht : isTupE e = false) (hl : locT sc (.Tuple es kk tp) = true) (ef : trUm c n sc is e pos.line = some m) : PS X (.Assign [.Tuple es kk tp] e pos) (tS G N m) := by
  unfold trUm at ef
  split at ef
  · rename_i i j
    split at ef
    · rename_i hh
      obtain ⟨_, hM, hi, hj⟩ := hh
      obtain ⟨me, e2, ef⟩ := Option.map_eq_some_iff.mp ef
      subst ef
      have nd : X.N.Nodup := by rw [h.N]; exact h.nd
      obtain ⟨p1, p2, p3⟩ := trNs_ok nd (show trNs X.N es = some [i, j] by rw [h.N]; exact e1) fun e he x pp ee => h.locT hl (.inr ⟨_, _, _, rfl, ee ▸ he⟩)
      refine sims_unpm h.K (h.hq hi) (h.hq hj) ((h.M i).trans hM) (pg_tup (h.calm h.nh) p1 p2 p3) (trE_ok n h.toCtx e2).1 (show swapsWithSole [.Tuple es kk tp] e pos.line X.env = pure false from sw_pure (t := some (.Tuple es kk tp)) (l := pos.line) (env := X.env) hc) ?_ rfl
      cases e <;> first | rfl | exact nomatch ht
    · cases ef
  · cases ef
theorem sims_am (h : SCtx X G c sc k) {N n : Nat} {o e : Expr} {apos cpos pos : Pos} {m : S} (h1 : mthOk o = true) (h3 : (apos.endLine == cpos.line) = true) (ef : trAm c n sc o e pos.line = some m) : PS X (.Expr (.Call (.Attribute o "append" apos) [e] [] cpos) pos) (tS G N m) := by
  unfold trAm at ef
  split at ef
  · rename_i es kk tp
    split at ef
    · obtain ⟨q, g1, ef⟩ := Option.bind_eq_some_iff.mp ef
      obtain ⟨rs, g2, ef⟩ := Option.bind_eq_some_iff.mp ef
      split at ef
      · rename_i hh
        cases ef
        have ho := trPa_ok h n _ g1
        rw [hh.1] at ho
        exact sims_appm h.K ho (h.res (fun e m q => (trE_ok n h.toCtx q).1) g2) hh.2.2 (sw_pure rfl) (base_ok h1) (few_ok rfl) h3 (star_cons rfl) rfl
      · cases ef
    · cases ef
  · cases ef
theorem sims_sdif (h : SCtx X G c sc k) {N n : Nat} {t : Expr} {a b : List Stmt} {ma : List S} {pos : Pos} {r : Nat × E × E × E × E} (ef : trSd c n sc b t = some r) (te : ∀ e m, trE c n sc allN e = some m → PE X e (tM (G.z allN) m) ∧ (isIf e = false → PT X e (tMt (G.z allN) m))) (ha : PSs X a (tSs G N ma)) :
    PS X (.If t a b pos) (tS G N (.ifsd r.1 r.2.1 r.2.2.1 r.2.2.2.1 r.2.2.2.2 ma)) := by
  unfold trSd at ef
  split at ef
  · rename_i x px a' apos e1 e2 cpos e3 p1 e4 p2
    split at ef
    · rename_i hh
      obtain ⟨⟨rfl, hb⟩, hl, ⟨hs1, hs2⟩, hm, hi⟩ := hh
      have hb := List.isEmpty_iff.mp hb
      subst hb
      obtain ⟨q, g1, ef⟩ := Option.bind_eq_some_iff.mp ef
      split at ef
      · rename_i hq
        obtain ⟨m1, g2, ef⟩ := Option.bind_eq_some_iff.mp ef
        obtain ⟨m2, g3, ef⟩ := Option.bind_eq_some_iff.mp ef
        obtain ⟨m3, g4, ef⟩ := Option.bind_eq_some_iff.mp ef
        obtain ⟨m4, g5, ef⟩ := Option.map_eq_some_iff.mp ef
        subst ef
        have ho := trPa_ok h n _ g1
        rw [hq] at ho
        exact sims_ifsd h.K h.hu ho (te _ _ g2).1 (te _ _ g3).1 (te _ _ g4).1 ((te _ _ g5).2 hi) ha ⟨mbase_ok rfl, mfew_ok (by simp [hs1, hs2]) (by simp), hl, by rw [star_cons hs1, star_cons hs2]; simp [starEach, backTo]⟩ hm
      · cases ef
    · cases ef
  · cases ef
theorem trS_ok {N : Nat} : ∀ (n : Nat) {c : Tc} {X : Cx} {G : Gx} (h : SCtx X G c sc k) {s : Stmt} {m : S}, trS c sc n s = some m → PS X s (tS G N m)
  | 0, c, X, G, h, s, m, q => nomatch q
  | n + 1, c, X, G, h, s, m, q => by
    have te : ∀ {z : Nat → Bool} {e : Expr} {me : E}, trE c n sc z e = some me → PE X e (tM (G.z z) me) ∧ (isIf e = false → PT X e (tMt (G.z z) me)) := fun q => trE_ok n h.toCtx q
    have ts : ∀ {ss : List Stmt} {ms : List S}, trTs c (trS c sc n) ss = some ms → PSs X ss (tSs G N ms) := fun q => trTs_ok (fun s m q => trS_ok n h q) q
    have nd : X.N.Nodup := by rw [h.N]; exact h.nd
    have hu := h.toCtx.hu
    unfold trS at q
    split at q
    · cases q; exact sims_doc
    · split at q
      · rename_i o a apos e cpos pos hh
        rw [Bool.and_eq_true_iff, Bool.and_eq_true_iff] at hh
        obtain ⟨⟨h1, h2⟩, h3⟩ := hh
        have h2 : isStar e = false := by simpa using h2
        split at q
        · rename_i ha
          subst ha
          split at q
          · rename_i m' ef
            cases q
            unfold trAc at ef
            split at ef
            · rename_i xr pr xf pf e1 xm pm cp2
              split at ef
              · rename_i hh
                obtain ⟨⟨k1, k2, k3⟩, ⟨k4, k5, k6⟩, k7⟩ := hh
                obtain ⟨f, f1, ef⟩ := Option.bind_eq_some_iff.mp ef
                obtain ⟨i, f2, ef⟩ := Option.bind_eq_some_iff.mp ef
                obtain ⟨mm, f3, ef⟩ := Option.bind_eq_some_iff.mp ef
                split at ef
                · rename_i hM
                  obtain ⟨me, f4, f5⟩ := Option.map_eq_some_iff.mp ef
                  subst f5
                  obtain ⟨fa, fd, ps, F, q1, q2, q3⟩ := h.cms _ f f1
                  exact sims_appc h.K ((h.M i).trans hM.1) ((h.M mm).trans hM.2) F (h.room h.nh) (h.toCtx.gl k6) q1 q2 q3 (by rw [h.N]; exact slotOf_get f2) (h.vis k4) (okN_d k1) (okN_c k1) (by rw [h.N]; exact slotOf_get f3) (h.vis k5) (okN_d k3) (okN_c k3) (te f4).1 (okN_d k2) (star_cons k7) rfl h3
                · cases ef
              · cases ef
            · cases ef
          split at q
          · rename_i m' ef
            cases q
            exact sims_am h h1 h3 ef
          split at q
          · obtain ⟨r, e1, q⟩ := Option.bind_eq_some_iff.mp q
            obtain ⟨me, e2, q⟩ := Option.map_eq_some_iff.mp q
            subst q
            exact sims_apz h.K (trPa_ok h n o e1) (te e2).1 (sw_pure rfl) (base_ok h1) (few_ok h2) h3 (star_cons h2) rfl
          obtain ⟨r, e1, q⟩ := Option.bind_eq_some_iff.mp q
          obtain ⟨me, e2, q⟩ := Option.map_eq_some_iff.mp q
          subst q
          exact sims_app h.K (trPa_ok h n o e1) (te e2).1 (sw_pure rfl) (base_ok h1) (few_ok h2) h3 (star_cons h2) rfl
        · split at q
          · rename_i ha
            subst ha
            obtain ⟨r, e1, q⟩ := Option.bind_eq_some_iff.mp q
            obtain ⟨me, e2, q⟩ := Option.map_eq_some_iff.mp q
            subst q
            exact sims_ext h.K (trPa_ok h n o e1) (te e2).1 (sw_pure rfl) (base_ok h1) (few_ok h2) h3 (star_cons h2) rfl
          · split at q
            · rename_i ha
              subst ha
              obtain ⟨r, e1, q⟩ := Option.bind_eq_some_iff.mp q
              obtain ⟨me, e2, q⟩ := Option.map_eq_some_iff.mp q
              subst q
              exact sims_upd h.K (trPa_ok h n o e1) (te e2).1 (sw_pure rfl) (base_ok h1) (few_ok h2) h3 (star_cons h2) rfl
            · split at q
              · rename_i ha
                subst ha
                split at q
                · split at q
                  · rename_i hk
                    subst hk
                    obtain ⟨r, e1, q⟩ := Option.map_eq_some_iff.mp q
                    subst q
                    exact sims_pop0 h.K (trPa_ok h n o e1) (sw_pure rfl) (base_ok h1) (few_ok h2) h3 (star_cons h2) rfl
                  · cases q
                · cases q
              · cases q
      · cases q
    · split at q
      · rename_i o a apos cpos pos hh
        rw [Bool.and_eq_true_iff] at hh
        obtain ⟨h1, h3⟩ := hh
        split at q
        · rename_i ha
          subst ha
          obtain ⟨r, e1, q⟩ := Option.map_eq_some_iff.mp q
          subst q
          exact sims_clr h.K (trPa_ok h n o e1) (sw_pure rfl) (base_ok h1) h3
        · cases q
      · cases q
    · split at q
      · cases q
      · rename_i hc
        obtain ⟨me, e2, q⟩ := Option.map_eq_some_iff.mp q
        subst q
        exact sims_exp (te e2).1 (sw_pure (by simpa using hc))
    · split at q
      · rename_i y py elt tg iter ifs scope lp pos hx
        obtain ⟨i, e1, q⟩ := Option.bind_eq_some_iff.mp q
        split at q
        · rename_i hsw
          obtain ⟨mm, e2, q⟩ := Option.map_eq_some_iff.mp q
          subst q
          obtain ⟨p, it, cs, me, rfl, h1, h2, h3, h4, h5, h6, h7, h8⟩ := trComp_ok h.toCtx h.nh (fun {X G sc e m} hh qq => trE_ok n hh qq) e2
          unfold swapC at hsw
          obtain ⟨s1, s2⟩ := Bool.and_eq_true_iff.mp hsw
          obtain ⟨s2, s3⟩ := Bool.and_eq_true_iff.mp s2
          have s1 := of_decide_eq_true s1
          have yl : X.env.scope.names.lookup y = some .local := by rw [h.sc]; exact s1
          refine PS.imp (ps_setLc (h.calm h.nh) nd (by rw [h.N]; exact slotOf_get e1) yl (sw_true h.kd yl s2 (by simpa using s3)) h2 h3 h6 h7 h8 h5) fun De σ H r => ?_
          have r1 := mk_run h (by rw [hx.2]; simp) r
          show tLc _ _ _ _ _ _ _ _
          rw [h4]
          exact comp_run (show (G.z (inz _)).hot = none from h.cold h.nh hx.2) h1 r1
        · cases q
      · cases q
    · split at q
      · rename_i hh
        obtain ⟨i, e1, q⟩ := Option.bind_eq_some_iff.mp q
        split at q
        · cases q
        rename_i hpin
        cases q
        cases hb : (zOn c 0).contains i with
        | true => exact sims_mk h e1 hpin hh sim_dict0T (sw_pure rfl)
        | false => exact sims_mk h e1 hpin hh sim_dict0 (sw_pure rfl)
      · cases q
    · split at q
      · rename_i hh
        obtain ⟨i, e1, q⟩ := Option.bind_eq_some_iff.mp q
        split at q
        · cases q
        rename_i hpin
        obtain ⟨me, e2, q⟩ := Option.map_eq_some_iff.mp q
        subst q
        exact sims_mk h e1 hpin hh.2 (te e2).1 (sw_pure hh.1)
      · cases q
    · split at q
      · rename_i es kk tp o a apos cpos pos hh
        obtain ⟨ha, hh1, hh2⟩ := hh
        subst ha
        obtain ⟨hb, hl⟩ := Bool.and_eq_true_iff.mp hh1
        obtain ⟨is, e1, q⟩ := Option.bind_eq_some_iff.mp q
        split at q
        · rename_i hM
          obtain ⟨r, e2, q⟩ := Option.bind_eq_some_iff.mp q
          split at q
          · rename_i hr
            cases q
            have pg : PG X (.Tuple es kk tp) (tG X.K (.t is)) := trP_ok rfl (h.calm h.nh) nd (show trP X.N (.Tuple es kk tp) = some (.t is) by
              show (trNs X.N es).map P.t = _
              rw [h.N, e1]; rfl) fun x pp ex => h.locT hh2 ex
            have ho := trPa_ok h n o e2
            rw [hr] at ho
            exact sims_popu h.K (h.hM hM).1 (h.hM hM).2 ho pg (show swapsWithSole [.Tuple es kk tp] (.Call (.Attribute o "pop" apos) [] [] cpos) pos.line X.env = pure false from sw_pure (e := .Call (.Attribute o "pop" apos) [] [] cpos) (t := some (.Tuple es kk tp)) (l := pos.line) (env := X.env) rfl) rfl rfl (base_ok hb) hl
          · cases q
        · cases q
      · cases q
    · split at q
      · rename_i es kk tp e pos _ hh
        obtain ⟨is, e1, q⟩ := Option.bind_eq_some_iff.mp q
        split at q
        · rename_i hM
          obtain ⟨me, e2, q⟩ := Option.map_eq_some_iff.mp q
          subst q
          have pg : PG X (.Tuple es kk tp) (tG X.K (.t is)) := trP_ok rfl (h.calm h.nh) nd (show trP X.N (.Tuple es kk tp) = some (.t is) by
            show (trNs X.N es).map P.t = _
            rw [h.N, e1]; rfl) fun x pp ex => h.locT hh.2.2 ex
          refine sims_unp h.K (h.hM hM).1 (h.hM hM).2 pg (te e2).1 (show swapsWithSole [.Tuple es kk tp] e pos.line X.env = pure false from sw_pure (t := some (.Tuple es kk tp)) (l := pos.line) (env := X.env) hh.1) ?_ rfl
          cases e <;> first | rfl | exact nomatch hh.2.1
        · exact sims_um h e1 hh.1 hh.2.1 hh.2.2 q
      · cases q
    · obtain ⟨r, e1, q⟩ := Option.bind_eq_some_iff.mp q
      obtain ⟨kk, e2, q⟩ := Option.bind_eq_some_iff.mp q
      split at q
      · rename_i hh
        obtain ⟨me, e3, q⟩ := Option.map_eq_some_iff.mp q
        subst q
        have ho := trPa_ok h n _ e1
        rw [hh.1] at ho
        have hpa := trAll_ok (fun e m q => (te q).1) e2
        exact sims_stot h.K (by omega) ho hpa.1 hh.2 (te e3).1 sw_sub
      · cases q
    · split at q
      · rename_i hh
        obtain ⟨r, e1, q⟩ := Option.bind_eq_some_iff.mp q
        obtain ⟨kk, e2, q⟩ := Option.bind_eq_some_iff.mp q
        obtain ⟨me, e3, q⟩ := Option.map_eq_some_iff.mp q
        subst q
        exact sims_sto h.K (by omega) (trPa_ok h n _ e1) (te e2).1 (te e3).1 sw_sub
      · cases q
    · split at q
      · rename_i r ef
        obtain ⟨ma, e2, q⟩ := Option.map_eq_some_iff.mp q
        subst q
        exact sims_sdif h ef (fun e1 m q => te q) (ts e2)
      split at q
      · cases q
      · rename_i hi
        obtain ⟨mt, e1, q⟩ := Option.bind_eq_some_iff.mp q
        obtain ⟨ma, e2, q⟩ := Option.bind_eq_some_iff.mp q
        obtain ⟨mb, e3, q⟩ := Option.map_eq_some_iff.mp q
        subst q
        exact sims_if ((te e1).2 (by simpa using hi)) (ts e2) (ts e3)
    · split at q
      · cases q
      · rename_i hi
        obtain ⟨mt, e1, q⟩ := Option.bind_eq_some_iff.mp q
        obtain ⟨ma, e2, q⟩ := Option.map_eq_some_iff.mp q
        subst q
        exact sims_while h.pass ((te e1).2 (by simpa using hi)) (ts e2)
    · split at q
      · rename_i m' ef
        cases q
        unfold trFa at ef
        split at ef
        · rename_i x px
          split at ef
          · rename_i hh
            obtain ⟨v, e1, ef⟩ := Option.bind_eq_some_iff.mp ef
            obtain ⟨r, e2, ef⟩ := Option.bind_eq_some_iff.mp ef
            split at ef
            · cases ef
            · obtain ⟨as, e3, e4⟩ := Option.map_eq_some_iff.mp ef
              subst e4
              exact sims_fapp (h.cold h.nh hh.2.2.2) h.K h.pass (h.calm h.nh) nd (by rw [h.N]; exact slotOf_get e1) (h.loc hh.1) (h.fn _) (trPa_ok h n _ e2) (trAs_ok h hh.2.2.2 e3) (fold_ok hh.2.1)
          · cases ef
        · cases ef
      split at q
      · rename_i r ef
        obtain ⟨ma, e3, q⟩ := Option.map_eq_some_iff.mp q
        subst q
        unfold trFh at ef
        split at ef
        · rename_i x px _
          split at ef
          · rename_i hh
            obtain ⟨_, ⟨hok, hlo⟩, hpin, hlt⟩ := hh
            obtain ⟨i, e1, ef⟩ := Option.bind_eq_some_iff.mp ef
            obtain ⟨p, e2, ef⟩ := Option.bind_eq_some_iff.mp ef
            split at ef
            · rename_i hm
              cases ef
              have hcold : G.hot = none := h.cold h.nh hpin
              have hm2 := List.all_eq_true.mp hm.2
              have ho : PE X (.Name x px) (tPa G i []) := trPa_ok h n (.Name x px) (q := (i, [])) (by
                show (if okN x = true ∧ isLoc sc x = true then (slotOf c.N x).bind fun i => if c.M.contains i then some (i, []) else none else none) = some (i, [])
                rw [if_pos ⟨hok, hlo⟩, e1]
                show (if c.M.contains i then some (i, ([] : List E)) else none) = some (i, [])
                rw [if_pos hm.1])
              exact sims_forh hcold h.K ((h.M i).trans hm.1) (fun j hj => of_decide_eq_true (Bool.and_eq_true_iff.mp (hm2 j hj)).2) (fun j hj => (h.M j).trans (by simpa using (Bool.and_eq_true_iff.mp (hm2 j hj)).1)) h.pass (h.calm h.nh) ho (trP_ok rfl (h.calm h.nh) nd (by rw [h.N]; exact e2) fun x pp ex => h.locT hlt ex)
                (fun v => trTs_ok (fun s m q => trS_ok n (h.pin i v) q) e3) (fold_ok rfl)
            · cases ef
          · cases ef
        · cases ef
      obtain ⟨p, e1, q⟩ := Option.bind_eq_some_iff.mp q
      split at q
      · rename_i hh
        obtain ⟨h1, h2, h3⟩ := hh
        obtain ⟨it, e2, q⟩ := Option.bind_eq_some_iff.mp q
        obtain ⟨ma, e3, q⟩ := Option.map_eq_some_iff.mp q
        subst q
        exact sims_for h.K (h.hM h3).1 (h.hM h3).2 h.pass (h.calm h.nh) (trI_ok (h.toCtx.z _) (fun e m q => (te q).1) e2) (trP_ok rfl (h.calm h.nh) nd (by rw [h.N]; exact e1) fun x pp ex => h.locT h1 ex) (ts e3) (fold_ok h2)
      · cases q
    · split at q
      · rename_i hh
        obtain ⟨hl, ho⟩ := Bool.and_eq_true_iff.mp hh
        obtain ⟨i, e1, q⟩ := Option.bind_eq_some_iff.mp q
        split at q
        · cases q
          exact sims_retm (by rw [h.N]; exact slotOf_get e1) (h.vis hl) (okN_d ho) (okN_c ho)
        · obtain ⟨me, e2, q⟩ := Option.map_eq_some_iff.mp q
          subst q
          exact sims_ret (te e2).1
      · obtain ⟨me, e2, q⟩ := Option.map_eq_some_iff.mp q
        subst q
        exact sims_ret (te e2).1
    · split at q
      · rename_i rs e1
        split at q
        · rename_i hh
          cases q
          exact sims_rett (h.res (fun e m q => (te q).1) e1) hh.2.1 hh.2.2
        · obtain ⟨me, e2, q⟩ := Option.map_eq_some_iff.mp q
          subst q
          exact sims_ret (te e2).1
      · obtain ⟨me, e2, q⟩ := Option.map_eq_some_iff.mp q
        subst q
        exact sims_ret (te e2).1
    · obtain ⟨me, e2, q⟩ := Option.map_eq_some_iff.mp q
      subst q
      exact sims_ret (te e2).1
    · cases q; exact sims_retN
    · cases q; exact sims_pass
    · cases q; exact sims_break
    · cases q; exact sims_cont
    · split at q
      · rename_i hh
        split at q
        · rename_i j hl
          cases q
          exact sims_raise (h.calm h.nh) h.tk (h.exs _ _ (mem_of_lookup hl)) (h.toCtx.gl hh.2.2) (okN_d hh.2.1)
        · cases q; exact sims_bad
      · cases q
    · cases q; exact sims_bad
    · rename_i body x np nm b0 suite pos' pos
      split at q
      · rename_i hh
        obtain ⟨jt, e1, q⟩ := Option.bind_eq_some_iff.mp q
        obtain ⟨mb, e2, q⟩ := Option.bind_eq_some_iff.mp q
        obtain ⟨D, cv, n1, n2, n3, n4, n5, n6⟩ := (h.trys x jt.1 jt.2 (mem_of_lookup e1)).ex
        have nm1 : Names X x cv := ⟨h.toCtx.gl hh.2.2, okN_d hh.2.1, n1⟩
        have body : ∀ (W : WX) (pn : List (Addr × Obj)) (xe : Value → Shared → Prop), Takes (X.tr pn xe) W → PassesOwn (model X.prog X.w) X.A X.env xe → PSs (X.tr pn xe) body (tSs (G.wx W) N mb) := fun W pn xe tk ps => trTs_ok (fun s m q => trS_ok n (h.body tk ps) q) e2
        cases nm with
        | none =>
          obtain ⟨r, e3, q⟩ := Option.map_eq_some_iff.mp q
          subst q
          exact sims_tryOnly h.hs h.hf nm1 h.tk n3 n4 body fun a oe pn hz hv => trH_ok (X := X.suite a ((a, oe) :: pn)) (G := G.ht none a) (c := c.hotC none [] []) (h.suite (q := none) (tbl := []) (xf := []) fun i e => nomatch e) h.fn (fun q v e => nomatch e) n e3
        | some en =>
          have q : (if sc.names.lookup en = some .local then (slotOf c.N en).bind fun q => (match trHc (c.hotC (some q) jt.2 (c.xt.xf x)) sc n (b0 :: suite) with
            | some r => some (S.tryc mb jt.1 q r.1 r.2)
            | none => (trH (c.hotC (some q) jt.2 (c.xt.xf x)) sc n (b0 :: suite)).map fun r => S.tryx mb jt.1 (some q) r.1 r.2) else none) = some m := q
          split at q
          · rename_i hl
            obtain ⟨i, e3, q⟩ := Option.bind_eq_some_iff.mp q
            have hl2 : X.env.kindOf en = some .local := by
              show X.env.scope.names.lookup en = _
              rw [h.sc]; exact hl
            have hcold : G.hot = none := h.cold h.nh hh.1.2
            have hx : ∀ (a : Addr) (oe : Obj) (pn : List (Addr × Obj)), Zc (.ref D) none oe → (∃ vs, oe.data = .fields vs) → Ctx (X.suite a ((a, oe) :: pn)) (G.ht (some i) a) (c.hotC (some i) jt.2 (c.xt.xf x)) sc k := fun a oe pn hz hv => h.suite (q := some i) (tbl := jt.2) (xf := c.xt.xf x) fun i' e => ⟨⟨D, call_isE n2 hz hv, call_isET n2 hz hv, n5⟩, fun f d mfd => by
              obtain ⟨fa, fd, ps, F, f1, f2, f3, f4⟩ := n6 f d mfd
              have room := h.room h.nh
              exact callX_ok F ⟨by have := room.dp; omega, by have := room.un; omega⟩ hz hv f1 f2 f3 f4⟩
            split at q
            · rename_i r e4
              cases q
              exact sims_trycAs h.hs h.hf nd (by rw [h.N]; exact slotOf_get e3) hl2 nm1 h.tk n3 n4 body fun a oe pn hz hv => trHc_ok (X := X.suite a ((a, oe) :: pn)) (c := c.hotC (some i) jt.2 (c.xt.xf x)) (hx a oe pn hz hv) hcold h.fn n e4
            obtain ⟨r, e4, q⟩ := Option.map_eq_some_iff.mp q
            subst q
            exact sims_tryAs h.hs h.hf nd (by rw [h.N]; exact slotOf_get e3) hl2 nm1 h.tk n3 n4 body fun a oe pn hz hv => trH_ok (X := X.suite a ((a, oe) :: pn)) (G := G.ht (some i) a) (c := c.hotC (some i) jt.2 (c.xt.xf x)) (hx a oe pn hz hv) h.fn (fun q v e => by
              have e : some (i, V.ref a) = some (q, v) := e
              cases e; rfl) n e4
          · cases q
      · cases q
    · cases q
/-- a body with a last statement of another kind -/
theorem trTs_end {N : Nat} {f : Stmt → Option S} (hf : ∀ s m, f s = some m → PS X s (tS G N m)) {last : Stmt} {t : Ends → St → Hp → Prop} (hl : PS X last t) : ∀ {ss : List Stmt} {ms : List S}, trTs c f ss = some ms → PSs X (ss ++ [last]) (fun D σ H => tSs G N ms { D with nx := t D } σ H)
  | [], ms, h => by
    cases h
    exact (pss_one hl).imp fun D σ H ⟨U, Lf, env, h, r⟩ => (show nxOk G U Lf H env (t D) from r) σ H Lf .refl h
  | s :: ss, ms, h => by
    obtain ⟨m, h1, h2⟩ := Option.bind_eq_some_iff.mp (show ((f s).bind fun m => (trTs c f ss).map fun ms => m :: ms) = some ms from h)
    obtain ⟨ms', h3, h4⟩ := Option.map_eq_some_iff.mp h2
    subst h4
    exact PSs.imp (pss_cons (hf s m h1) (trTs_end hf hl h3)) fun D σ H ⟨U, Lf, env, h, r⟩ =>
      ⟨U, Lf, env, h, RSok.seq (De := { D with nx := t D }) (show RSok G U Lf H ((evS G.C N m env).b fun env' => evSs G.C N ms' env') { D with nx := t D } from r) fun env' σ' H' Lf' s q => ⟨U, Lf', env', s, q⟩⟩
end
end Q

set_option maxHeartbeats 1000000
namespace Q
open PySem PySem.Spec L2
open PyProof.Rows hiding St

/-! ## the table of the defs -/
structure DefI where
  g : Str
  nm : Str
  st : Stmt
  N : List Str
  np : Nat
  M : List Nat
  zl : List (Nat × List Nat)
def fnsFrom : Nat → List DefI → List (Str × Nat × Nat)
  | _, [] => []
  | j, d :: r => (d.g, j, d.np) :: fnsFrom (j + 1) r
theorem fnsFrom_mem : ∀ {tb : List DefI} {n : Nat} {x : Str} {j np : Nat}, (x, j, np) ∈ fnsFrom n tb → ∃ i d, j = n + i ∧ tb[i]? = some d ∧ d.g = x ∧ d.np = np
  | [], n, x, j, np, h => nomatch h
  | d :: r, n, x, j, np, h => by
    rcases List.mem_cons.mp h with e | h
    · cases e
      exact ⟨0, d, rfl, rfl, rfl, rfl⟩
    · obtain ⟨i, d', e1, e2, e3, e4⟩ := fnsFrom_mem h
      exact ⟨i + 1, d', by omega, e2, e3, e4⟩
/-- the defs that are values: those among the module's data -/
def vfsOf (fns : List (Str × Nat × Nat)) (glo : List (Str × D)) : List (Str × Nat × Nat) := fns.filter fun f => glo.any fun g => match g.2 with
  | .fn x => decide (x = f.1 ∧ g.1 = f.1)
  | _ => false
def tcOf (fns : List (Str × Nat × Nat)) (glo : List (Str × D)) (blt : List Str) (xt : ExTb) (cms : List (Str × Nat)) (d : DefI) : Tc := ⟨d.N, d.M, d.zl, glo, fns, blt, xt, vfsOf fns glo, cms, none, false, none, [], []⟩
/-- a def that clauses ask about what they hold -/
def skipX (xt : ExTb) (g : Str) : Bool := xt.xfs.any fun t => t.2.any fun q => decide (q.1 = g)
def trBody (fns : List (Str × Nat × Nat)) (glo : List (Str × D)) (blt : List Str) (xt : ExTb) (cms : List (Str × Nat)) (d : DefI) : Option (List S) :=
  if skipX xt d.g = true then some [.exp (.bf .sorted [])] else trTs (tcOf fns glo blt xt cms d) (trS (tcOf fns glo blt xt cms d) (defScope d.st) 60) (defBody d.st)
theorem trBody_ok {X : Cx} {G : Gx} {k N : Nat} {fns : List (Str × Nat × Nat)} {glo : List (Str × D)} {blt : List Str} {xt : ExTb} {cms : List (Str × Nat)} {d : DefI} {ms : List S} (h : SCtx X G (tcOf fns glo blt xt cms d) (defScope d.st) k) (e : trBody fns glo blt xt cms d = some ms) : PSs X (defBody d.st) (tSs G N ms) := by
  unfold trBody at e
  split at e
  · cases e
    exact ⟨fun pins s σ H De I ⟨U, Lf, env, _, r⟩ => (show False from r).elim⟩
  · exact trTs_ok (c := tcOf fns glo blt xt cms d) (fun s m q => trS_ok (sc := defScope d.st) (k := k) 60 h q) e
def fnScC (N P : List Str) (sc : Scope) : Bool :=
  decide (sc.kind = .function) && (!sc.isCoroutine && (!sc.isGenerator && (decide N.Nodup && (decide (N.take P.length = P) && ((P.all fun x => isLoc sc x) && (sc.names.all fun y => decide (y.2 ≠ .free)))))))
theorem fnSc_by {N P : List Str} {sc : Scope} (h : fnScC N P sc = true) : FnScope N P sc := by
  unfold fnScC at h
  simp only [Bool.and_eq_true, List.all_eq_true, decide_eq_true_eq, Bool.not_eq_true'] at h
  obtain ⟨h1, h2, h3, h4, h5, h6, h7⟩ := h
  refine ⟨h1, h2, h3, h4, h5, fun x hx => ?_, h7⟩
  have := h6 x hx
  unfold isLoc at this
  split at this
  · exact .inl (by assumption)
  · exact .inr (by assumption)
  · cases this
def trDef (fns : List (Str × Nat × Nat)) (glo : List (Str × D)) (blt : List Str) (xt : ExTb) (cms : List (Str × Nat)) (d : DefI) : Option Def :=
  if (fnScC d.N (d.N.take d.np) (defScope d.st) && (decide (d.np ≤ d.N.length) && (!xt.own.contains d.g || d.M.contains 0))) = true then (trBody fns glo blt xt cms d).map fun ms => ⟨d.np, d.N.length, ms⟩ else none
def trDefs (fns : List (Str × Nat × Nat)) (glo : List (Str × D)) (blt : List Str) (xt : ExTb) (cms : List (Str × Nat)) : List DefI → Option (List Def)
  | [] => some []
  | d :: r => (trDef fns glo blt xt cms d).bind fun f => (trDefs fns glo blt xt cms r).map fun fs => f :: fs
theorem trDefs_get {fns : List (Str × Nat × Nat)} {glo : List (Str × D)} {blt : List Str} {xt : ExTb} {cms : List (Str × Nat)} : ∀ {tb : List DefI} {fs : List Def} {j : Nat} {d : DefI}, trDefs fns glo blt xt cms tb = some fs → tb[j]? = some d → ∃ f, trDef fns glo blt xt cms d = some f ∧ fs[j]? = some f
  | [], fs, j, d, h, e => by simp at e
  | d0 :: r, fs, j, d, h, e => by
    obtain ⟨f, h1, h2⟩ := Option.bind_eq_some_iff.mp (show ((trDef fns glo blt xt cms d0).bind fun f => (trDefs fns glo blt xt cms r).map fun fs => f :: fs) = some fs from h)
    obtain ⟨fs', h3, h4⟩ := Option.map_eq_some_iff.mp h2
    subst h4
    cases j with
    | zero => cases e; exact ⟨f, h1, rfl⟩
    | succ j => exact trDefs_get (j := j) h3 e
/-- a class, by name -/
def ClsM (mg : Str → Option Value) (y : Str) (v : V) (u : Value) : Prop := ClsV v u ∧ RelV v u ∧ (mg y = some u ∨ (mg y = none ∧ bootBuiltins y = some u ∧ y ≠ "__name__"))
def ExcRM (K : PySem.W.Frag) (mg : Str → Option Value) (xr : Ex → Value → Option Addr → Hp → Prop) (x : Str) (j : Nat) : Prop :=
  ∃ C, mg x = some (.ref C) ∧ PySem.W.excIn K C He.veBase "ValueError.__new__" = true ∧ PySem.W.keepIn K (.ref C) = true ∧ PySem.W.subIn K (.ref C) (.type "BaseException") = some true ∧ PySem.W.typeIn K (.ref C) = some (.type "type") ∧ ∀ H, xr ⟨j, none⟩ (.ref C) none H
def TryRM (K : PySem.W.Frag) (mg : Str → Option Value) (xr : Ex → Value → Option Addr → Hp → Prop) (x : Str) (j : Nat) (tbl : List (Str × Bool)) : Prop :=
  ∃ D cv, (mg x = some cv ∨ (mg x = none ∧ bootBuiltins x = some cv ∧ x ≠ "__name__")) ∧ ExcC K D ∧ (∀ c dd H, xr ⟨j, none⟩ c dd H → c = .ref D ∧ dd = none) ∧ PySem.W.exmOne K (.ref D) cv = some true ∧ ∀ y b, (y, b) ∈ tbl → ∃ v u, ClsM mg y v u ∧ PySem.W.kitOne K (.ref D) u = some b
/-- a def that changes its second argument, and how it is called so -/
def CmOk (fns : List (Str × Nat × Nat)) (glo : List (Str × D)) (blt : List Str) (xt : ExTb) (cms : List (Str × Nat)) (tb : List DefI) (fs : List Def) (x : Str) (jm : Nat) : Prop :=
  ∃ j d f pre preS y py pos r, jm = 2000 + j ∧ j < 1000 ∧ tb[j]? = some d ∧ d.g = x ∧ d.np = 2 ∧ fs[j]? = some f ∧ splitR f.body = some (pre, r) ∧ r ≠ 1 ∧ d.M.contains 1 = true ∧ defBody d.st = preS ++ [.Return (some (.Name y py)) pos] ∧ slotOf d.N y = some r ∧ okN y = true ∧ isLoc (defScope d.st) y = true ∧
    trTs { tcOf fns glo blt xt cms d with pin := some 1 } (trS { tcOf fns glo blt xt cms d with pin := some 1 } (defScope d.st) 60) preS = some pre
/-- how such a def is translated, what it tells -/
def tcX (blt : List Str) (d : DefI) (tbl : List (Str × Bool)) : Tc := ⟨d.N, [], [], [], [], blt, ⟨[], [], [], []⟩, [], [], none, true, some 0, tbl, []⟩
def XfOk (blt : List Str) (tb : List DefI) (tbl : List (Str × Bool)) (x : Str) (v : D) : Prop :=
  ∃ (j : Nat) (d : DefI) (e : E), tb[j]? = some d ∧ d.g = x ∧ d.np = 1 ∧ trH (tcX blt d tbl) (defScope d.st) 60 (defBody d.st) = some ([], e) ∧ ∀ C : Nat → List D → R D, ev C e (List.replicate d.N.length none) = .ok v
def xfE (blt : List Str) (d : DefI) (tbl : List (Str × Bool)) : E := match trH (tcX blt d tbl) (defScope d.st) 60 (defBody d.st) with
  | some q => q.2
  | none => .lit .non
theorem xf_ok {P : Program} {w : World} {K : PySem.W.Frag} {mg : Str → Option Value} {base : Heap} {blt : List Str} {d : DefI} {tbl : List (Str × Bool)} {T fa : Addr} {fd : FuncData} {e : E} {v : D} (F : FunD K d.nm d.nm (defArgs d.st) (defBody d.st) (defScope d.st) [] [] fa fd) (Sc : FnScope d.N (d.N.take d.np) (defScope d.st)) (h1 : (d.N.take d.np).length = 1)
    (C : ExcC K T) (ht : ∀ y b, (y, b) ∈ tbl → ∃ v u, ClsM mg y v u ∧ PySem.W.kitOne K (.ref T) u = some b) (hblt : ∀ x, x ∈ blt → mg x = none) (he : trH (tcX blt d tbl) (defScope d.st) 60 (defBody d.st) = some ([], e)) (hv : ∀ C : Nat → List D → R D, ev C e (List.replicate d.N.length none) = .ok v) :
    FnX P w K mg base T fa fd (d.N.take d.np) v := by
  refine fnx_ok (G := ⟨K, fun _ _ => .bad, fun _ => false, allN, fun _ _ _ _ => False, fun _ _ _ _ => False, none⟩) rfl F Sc h1 (hv _) fun cdv A outer s H a oe room hz hf => ?_
  refine trH_ok (X := cxX P w K mg base d.N d.nm (defScope d.st) fa cdv A outer s H a oe) (c := tcX blt d tbl) (k := 0) ⟨rfl, rfl, Sc.nd, rfl, (fun z => nomatch z), L2.takes0, (fun z => nomatch z), ?_, (fun z => nomatch z), fun _ q z => ?_, fun i => rfl, (fun _ _ z => nomatch z), (fun _ _ _ z => nomatch z), (fun _ _ _ z _ => nomatch z), hblt, (fun _ _ _ z => nomatch z), (fun _ _ z => nomatch z), (fun _ _ z => nomatch z), (fun _ _ _ z => nomatch z)⟩ (fun _ => rfl) (fun q v z => ?_) 60 he
  · have := room.un
    show A.units + 3 + 65 < cLine
    omega
  · have z : some 0 = some q := z
    cases z
    exact ⟨a, rfl, ⟨T, call_isE C hz hf, call_isET C hz hf, ht⟩, fun _ _ z => nomatch z⟩
  · have z : some (0, V.ref a) = some (q, v) := z
    cases z
    rfl
def lastR : List Stmt → Pos × Pos
  | [] => (⟨0, 0, 0, 0⟩, ⟨0, 0, 0, 0⟩)
  | [.Return (some (.Name _ py)) pos] => (py, pos)
  | _ :: t => lastR t
theorem trDefs_len {fns : List (Str × Nat × Nat)} {glo : List (Str × D)} {blt : List Str} {xt : ExTb} {cms : List (Str × Nat)} : ∀ {tb : List DefI} {fs : List Def}, trDefs fns glo blt xt cms tb = some fs → fs.length = tb.length
  | [], fs, h => by cases h; rfl
  | d :: r, fs, h => by
    obtain ⟨f, h1, h2⟩ := Option.bind_eq_some_iff.mp (show ((trDef fns glo blt xt cms d).bind fun f => (trDefs fns glo blt xt cms r).map fun fs => f :: fs) = some fs from h)
    obtain ⟨fs', h3, h4⟩ := Option.map_eq_some_iff.mp h2
    subst h4
    rw [List.length_cons, List.length_cons, trDefs_len h3]
theorem table_ok {P : Program} {w : World} {K : PySem.W.Frag} {mg : Str → Option Value} {base : Heap} {tb : List DefI} {fs : List Def} {glo : List (Str × D)} {blt : List Str} {fu : Nat} {xr : Ex → Value → Option Addr → Hp → Prop} {xt : ExTb} {cms : List (Str × Nat)}
    (hT : trDefs (fnsFrom 0 tb) glo blt xt cms tb = some fs)
    (hF : ∀ (j : Nat) (d : DefI), tb[j]? = some d → ∃ fa fd, FunD K d.nm d.nm (defArgs d.st) (defBody d.st) (defScope d.st) [] [] fa fd ∧ mg d.g = some (.ref fa) ∧ Binds K fd (d.N.take d.np) [])
    (hglo : ∀ (x : Str) (d : D), (x, d) ∈ glo → ∃ v u, mg x = some u ∧ RelV v u ∧ ∀ H U, rep K H U d v []) (hblt : ∀ x, x ∈ blt → mg x = none)
    (hexs : ∀ x j, (x, j) ∈ xt.exs → ExcRM K mg xr x j) (htrys : ∀ x j tbl, (x, j, tbl) ∈ xt.trys → TryRM K mg xr x j tbl)
    (hxf : ∀ x j tbl, (x, j, tbl) ∈ xt.trys → ∀ f v, (f, v) ∈ xt.xf x → XfOk blt tb tbl f v) (hlen : tb.length ≤ 1000) (hcm : ∀ x jm, cms.lookup x = some jm → CmOk (fnsFrom 0 tb) glo blt xt cms tb fs x jm) :
    ∀ l : Nat, (∀ (j : Nat) (d : DefI) (fa : Addr) (fd : FuncData), tb[j]? = some d → FunD K d.nm d.nm (defArgs d.st) (defBody d.st) (defScope d.st) [] [] fa fd → FnOk P w K mg base (L2.CX P w) l fa fd (d.N.take d.np) (spM K xr (callL fu fs l j) d.np) ∧ (xt.own.contains d.g = true → FnOk P w K mg base (L2.CX P w) l fa fd (d.N.take d.np) (spO K xr (callL fu fs l j) d.np))) ∧ ∀ (x : Str) (jm : Nat), CmOk (fnsFrom 0 tb) glo blt xt cms tb fs x jm → ∃ fa fd ps, FnOk P w K mg base (L2.CX P w) l fa fd ps (spMm K (callL fu fs l jm) 2 1) ∧ mg x = some (.ref fa) ∧ PySem.W.keepIn K (.ref fa) = true ∧ Binds K fd ps [] := by
  have npOf : ∀ (j : Nat) (d : DefI), tb[j]? = some d → ∃ f ms, fs[j]? = some f ∧ f = ⟨d.np, d.N.length, ms⟩ ∧ d.np ≤ d.N.length ∧ FnScope d.N (d.N.take d.np) (defScope d.st) ∧ trBody (fnsFrom 0 tb) glo blt xt cms d = some ms ∧ (xt.own.contains d.g = true → d.M.contains 0 = true) := by
    intro j d hj
    obtain ⟨f, t1, t2⟩ := trDefs_get hT hj
    unfold trDef at t1
    split at t1
    · rename_i hh
      obtain ⟨hh1, hh2⟩ := Bool.and_eq_true_iff.mp hh
      obtain ⟨ms, e1, e2⟩ := Option.map_eq_some_iff.mp t1
      obtain ⟨hh2, hh3⟩ := Bool.and_eq_true_iff.mp hh2
      exact ⟨f, ms, t2, e2.symm, of_decide_eq_true hh2, fnSc_by hh1, e1, fun q => by rw [q] at hh3; simpa using hh3⟩
    · cases t1
  intro l
  induction l with
  | zero =>
    refine ⟨fun j d fa fd hj F => ?_, fun x jm hx => ?_⟩
    · obtain ⟨f, ms, t2, e2, hnp, Sc, e1, _⟩ := npOf j d hj
      exact ⟨⟨fun vs H Q E h => h.1.trans (by rw [List.length_take, Nat.min_eq_left hnp]), fun A outer s H args us vs Q E _ _ _ _ h => by
        obtain ⟨_, U, ds, _, _, h⟩ := h
        exact h.elim⟩, fun _ => ⟨fun vs H Q E h => h.1.trans (by rw [List.length_take, Nat.min_eq_left hnp]), fun A outer s H args us vs Q E _ _ _ _ h => by
        obtain ⟨_, U, d, ds, v, vr, L1, _, _, _, _, _, _, _, h⟩ := h
        exact h.elim⟩⟩
    · obtain ⟨j, d, f, pre, preS, y, py, pos, r, rfl, hj, hd, hx, hn, _⟩ := hx
      obtain ⟨fa, fd, F, m, b⟩ := hF j d hd
      obtain ⟨f, ms, t2, e2, hnp, Sc, e1, _⟩ := npOf j d hd
      refine ⟨fa, fd, _, ⟨fun vs H Q E h => h.1.trans (by rw [List.length_take, Nat.min_eq_left hnp, hn]), fun A outer s H args us vs Q E _ _ _ _ h => ?_⟩, hx ▸ m, F.kp, b⟩
      obtain ⟨_, U, ds, Lk, vk, _, _, _, _, _, _, _, d0, x0, hg, _⟩ := h
      have hg : (R.bad : R D) = R.ok (D.tup [d0, x0]) := hg
      cases hg
  | succ l ih =>
    obtain ⟨ihA, ihB⟩ := ih
    have ctx : ∀ (d : DefI) (hsc : FnScope d.N (d.N.take d.np) (defScope d.st)) (fa : Addr) (cdv : Value) (A : Around) (outer : List PySem.Env) (s0 : Shared) (H : Hp) (E : XK) (pin : Option Nat) (ht : Option (Nat × V)), (∀ q v, ht = some (q, v) → pin = some q) → Room l (A.deeper (envOfC d.nm (defScope d.st) s0.heap.objs.size fa cdv)) →
        SCtx (cxOf (L2.CX P w) P w K mg base d.N d.nm (defScope d.st) fa cdv A outer s0 H E) { (⟨K, callL fu fs l, fun i => d.M.contains i, allN, fun _ _ _ _ => False, xr, none⟩ : Gx).w E with hot := ht } { tcOf (fnsFrom 0 tb) glo blt xt cms d with pin := pin } (defScope d.st) l := by
      intro d Sc fa cdv A outer s0 H E pin ht hpin hr
      refine ⟨⟨rfl, rfl, Sc.nd, rfl, fun _ => rfl, L2.takes_of rfl rfl rfl rfl, fun _ => hr, (by have := hr.un; show (A.deeper (envOfC d.nm (defScope d.st) s0.heap.objs.size fa cdv)).units + 65 < cLine; omega), fun _ => hpin, (fun z => Bool.noConfusion (show false = true from z)), fun i => rfl, hglo, fun x j np hm => ?_, fun x j np hm how => ?_, hblt, fun y j np hl => ?_, fun x f hl => ?_, fun x j m => ⟨by exact hexs x j m⟩, fun x j t m => ⟨?_⟩⟩, fun _ => rfl, Sc.kind, L2.passes_of rfl, rfl, rfl, rfl⟩
      · obtain ⟨i, d', i1, i2, i3, i4⟩ := fnsFrom_mem hm
        obtain ⟨fa', fd', F', m', b'⟩ := hF i d' i2
        have i1 : j = i := by omega
        subst i1 i3 i4
        exact ⟨fa', fd', _, (ihA j d' fa' fd' i2 F').1, m', F'.kp, b'⟩
      · obtain ⟨i, d', i1, i2, i3, i4⟩ := fnsFrom_mem hm
        obtain ⟨fa', fd', F', m', b'⟩ := hF i d' i2
        have i1 : j = i := by omega
        subst i1 i3 i4
        exact ⟨fa', fd', _, (ihA j d' fa' fd' i2 F').2 how, m', F'.kp, b'⟩
      · have hm := mem_of_lookup hl
        unfold tcOf vfsOf at hm
        dsimp only at hm
        obtain ⟨hm1, hm2⟩ := List.mem_filter.mp hm
        obtain ⟨i, d', i1, i2, i3, i4⟩ := fnsFrom_mem hm1
        obtain ⟨fa', fd', F', m', b'⟩ := hF i d' i2
        have i1 : j = i := by omega
        subst i1 i4
        obtain ⟨g, hg1, hg2⟩ := List.any_eq_true.mp hm2
        have ey : g.2 = .fn y ∧ g.1 = y := by
          split at hg2
          · rename_i x hx
            obtain ⟨z1, z2⟩ := of_decide_eq_true hg2
            exact ⟨by rw [hx]; exact congrArg D.fn z1, z2⟩
          · cases hg2
        obtain ⟨ey, ey2⟩ := ey
        obtain ⟨v, u, q1, q2, q3⟩ := hglo g.1 g.2 hg1
        rw [ey] at q3
        have q4 : fa' = He.ga K y := by
          obtain ⟨rfl, _⟩ := q3 (fun _ => none) (fun _ => False)
          rw [ey2] at q1
          have m2 := m'
          rw [i3] at m2
          cases q2
          exact Value.ref.inj (Option.some.inj (m2.symm.trans q1))
        subst q4
        exact ⟨fd', _, (ihA j d' _ fd' i2 F').1, F'.kp, b'⟩
      · exact ihB x f (hcm x f hl)
      · obtain ⟨T, cv, n1, n2, n3, n4, n5⟩ := htrys x j t m
        refine ⟨T, cv, n1, n2, n3, n4, n5, fun f v mf => ?_⟩
        obtain ⟨j', d', e', i1, i2, i3, i4, i5⟩ := hxf x j t m f v mf
        obtain ⟨fa', fd', F', m', b'⟩ := hF j' d' i1
        obtain ⟨_, _, _, _, hnp, Sc', _, _⟩ := npOf j' d' i1
        have hl1 : (d'.N.take d'.np).length = 1 := by rw [List.length_take, Nat.min_eq_left hnp, i3]
        exact ⟨fa', fd', _, xf_ok F' Sc' hl1 n2 n5 hblt i4 i5, hl1, i2 ▸ m', F'.kp, b'⟩
    refine ⟨fun j d fa fd hj F => ?_, fun x jm hx => ?_⟩
    · obtain ⟨f, ms, t2, e2, hnp, Sc, e1, how⟩ := npOf j d hj
      subst e2
      have hps : (d.N.take d.np).length = d.np := by rw [List.length_take, Nat.min_eq_left hnp]
      have eC : callL fu fs (l + 1) j = runD (callL fu fs l) fu ⟨(d.N.take d.np).length, d.N.length, ms⟩ := funext fun ds => by
        show (match fs[j]? with
          | some d => runD (callL fu fs l) fu d ds
          | none => match fs[j % 1000]? with
            | some d => if 1000 ≤ j then runM (callL fu fs l) fu d (j / 1000 - 1) ds else .bad
            | none => .bad) = _
        rw [t2, hps]
      have main := fn_ok (P := P) (w := w) (mg := mg) (base := base) (k := l) (fu := fu) (G := ⟨K, callL fu fs l, fun i => d.M.contains i, allN, fun _ _ _ _ => False, xr, none⟩) rfl (ms := ms) F Sc (fun cdv A outer s0 H E hr =>
        trBody_ok (ctx d Sc fa cdv A outer s0 H E none none (fun q v e => nomatch e) hr) e1)
      rw [← eC, hps] at main
      refine ⟨main, fun q => ?_⟩
      have main := fn_okO (P := P) (w := w) (mg := mg) (base := base) (k := l) (fu := fu) (G := ⟨K, callL fu fs l, fun i => d.M.contains i, allN, fun _ _ _ _ => False, xr, none⟩) rfl (how q) (ms := ms) F Sc (fun cdv A outer s0 H E hr =>
        trBody_ok (ctx d Sc fa cdv A outer s0 H E none none (fun q v e => nomatch e) hr) e1)
      rw [← eC, hps] at main
      exact main
    · obtain ⟨j, d, f, pre, preS, y, py, pos, r, rfl, hj, hd, hx, hn, hf, hsp, hr1, hM1, hbody, hy, hok, hloc, htr⟩ := hx
      obtain ⟨fa, fd, F, mm, b⟩ := hF j d hd
      obtain ⟨f', ms, t2, e2, hnp, Sc, e1, _⟩ := npOf j d hd
      rw [hf] at t2
      cases t2
      subst e2
      have hps : (d.N.take d.np).length = d.np := by rw [List.length_take, Nat.min_eq_left hnp]
      have hnone : fs[2000 + j]? = none := List.getElem?_eq_none (by rw [trDefs_len hT]; omega)
      have eC : callL fu fs (l + 1) (2000 + j) = runM (callL fu fs l) fu ⟨(d.N.take d.np).length, d.N.length, ms⟩ 1 := funext fun ds => by
        show (match fs[2000 + j]? with
          | some d => runD (callL fu fs l) fu d ds
          | none => match fs[(2000 + j) % 1000]? with
            | some d => if 1000 ≤ 2000 + j then runM (callL fu fs l) fu d ((2000 + j) / 1000 - 1) ds else .bad
            | none => .bad) = _
        rw [hnone]
        dsimp only
        rw [show (2000 + j) % 1000 = j by omega, hf]
        dsimp only
        rw [if_pos (by omega), show (2000 + j) / 1000 - 1 = 1 by omega, hps]
      have main := fn_okM (P := P) (w := w) (mg := mg) (base := base) (l := l) (fu := fu) (k := 1) (G := ⟨K, callL fu fs l, fun i => d.M.contains i, allN, fun _ _ _ _ => False, xr, none⟩) hsp hr1 hM1 F Sc (fun cdv A outer s0 H E vk hr => by
        have hc := ctx d Sc fa cdv A outer s0 H E (some 1) (some (1, vk)) (fun q v e => by cases e; rfl) hr
        have hbb : PSs (cxOf (L2.CX P w) P w K mg base d.N d.nm (defScope d.st) fa cdv A outer s0 H E) (preS ++ [.Return (some (.Name y py)) pos]) _ := trTs_end (c := { tcOf (fnsFrom 0 tb) glo blt xt cms d with pin := some 1 }) (fun s m q => trS_ok (N := fu) (sc := defScope d.st) (k := l) 60 hc q) (ps_end (r := r) (slotOf_get hy) (hc.vis hloc) (okN_d hok) (okN_c hok)) htr
        rw [hbody]
        exact hbb)
      rw [← eC, hps, hn] at main
      exact ⟨fa, fd, _, main, hx ▸ mm, F.kp, hn ▸ b⟩
end Q

set_option maxHeartbeats 1000000
namespace Q
open PySem PySem.Spec L2
open PyProof.Rows hiding St

/-! ## the law's end -/
theorem intsD {K : PySem.W.Frag} {H : Hp} {U : Addr → Prop} : ∀ ns : List Int, reps K H U (ns.map D.int) (ns.map V.int) []
  | [] => ⟨rfl, rfl⟩
  | n :: ns => ⟨_, _, [], [], rfl, rfl, ⟨rfl, rfl⟩, intsD ns⟩
def scriptD (ns : List Int) : D := .lst .f (ns.map D.int)
theorem law_sp {K : PySem.W.Frag} {xr : Ex → Value → Option Addr → Hp → Prop} {g : List D → R D} {n : Nat} (hn : n ≤ 1000) (hg : ∀ ns : List Int, ns.length ≤ n → g [scriptD ns] = .ok (.bl true)) (H : Hp) (a : Addr) (ns : List Int) (hl : ns.length ≤ n) (ho : Only H) (hS : SqL K H a (ns.map V.int)) :
    spM K xr g 1 [.ref a] H (fun v _ => v = .bl true) fun _ _ _ => False := by
  have fz : Frz K H a (ns.map V.int) := by
    rcases hS with (h | ⟨o, h⟩) | h
    · rcases ho a with q | ⟨o, xs, q⟩ <;> rw [q] at h <;> cases h
    · exact .inl ⟨o, h⟩
    · exact .inr h
  refine ⟨rfl, fun _ => False, [scriptD ns], fun _ z => z.elim, ⟨_, _, [], [], rfl, rfl, ⟨a, _, [], ⟨rfl, ?_⟩, intsD ns, .inr (.inr ⟨rfl, fz, rfl, rfl⟩)⟩, rfl, rfl⟩, ?_⟩
  · rw [List.length_map]; unfold lim; omega
  · rw [hg ns hl]
    exact fun v H' L _ _ r => r.1
/-- what the head says of the table -/
theorem table_facts {K : PySem.W.Frag} {h : Heap} {mg : Str → Option Value} {fa : List He.Fa} {fn : List He.DefD} {tb : List DefI} (X : K.In h) (Gg : h.Ns mainGlobals mg) (c : He.SaysD fa fn K)
    (hm : ∀ (j : Nat) (d : DefI), tb[j]? = some d → (⟨(d.g, none), d.nm, d.nm, defArgs d.st, defBody d.st, defScope d.st, [], []⟩ : He.DefD) ∈ fn ∧ He.Fa.glo d.g ∈ fa ∧
      ∀ (kV doc pm : Value) (an : Option Addr) (cdv ct : Value) (us : List Value), us.length = (d.N.take d.np).length → bindArgs (PySem.W.fnOf d.nm d.nm (defArgs d.st) (defBody d.st) (defScope d.st) .none kV doc pm an cdv ct) ⟨us, []⟩ = pure ((d.N.take d.np).zip us)) :
    ∀ (j : Nat) (d : DefI), tb[j]? = some d → ∃ fa fd, FunD K d.nm d.nm (defArgs d.st) (defBody d.st) (defScope d.st) [] [] fa fd ∧ mg d.g = some (.ref fa) ∧ Binds K fd (d.N.take d.np) [] := by
  intro j d hj
  obtain ⟨h1, h2, h3⟩ := hm j d hj
  obtain ⟨fd, F⟩ := He.SaysD.defs c h1
  exact ⟨_, fd, F, He.glo_ok X Gg (He.SaysD.facts c h2), F.bindsN h3⟩
end Q

set_option maxHeartbeats 1000000
namespace Q

/-! ## working the evaluator out -/
section
variable {C : Nat → List D → R D} {N : Nat} {env : Env}
@[simp] theorem x_lit {d : D} : ev C (.lit d) env = .ok d := (rfl)
@[simp] theorem x_var {i : Nat} : ev C (.var i) env = look env i := (rfl)
@[simp] theorem x_mvar {i : Nat} : ev C (.mvar i) env = (look env i).b fun d => .ok (sh d) := (rfl)
@[simp] theorem x_bin {o : BO} {a b : E} : ev C (.bin o a b) env = (ev C a env).b fun x => (ev C b env).b fun y => binop o x y := (rfl)
@[simp] theorem x_neg {a : E} : ev C (.neg a) env = (asI (ev C a env)).b fun i => .ok (.int (-i)) := (rfl)
@[simp] theorem x_cmp {o : CO} {a b : E} : ev C (.cmp o a b) env = (ev C a env).b fun x => (ev C b env).b fun y => ofB (cmpop o x y) := (rfl)
@[simp] theorem x_chain {o o' : CO} {a b c : E} : ev C (.chain o o' a b c) env = (ev C a env).b fun x => (ev C b env).b fun y => (cmpop o x y).b fun t => if t then (ev C c env).b fun z => ofB (cmpop o' y z) else .ok (.bl false) := (rfl)
@[simp] theorem x_and {a b : E} : ev C (.and_ a b) env = (asB (ev C a env)).b fun t => if t then ofB (asB (ev C b env)) else .ok (.bl false) := (rfl)
@[simp] theorem x_or {a b : E} : ev C (.or_ a b) env = (asB (ev C a env)).b fun t => if t then .ok (.bl true) else ofB (asB (ev C b env)) := (rfl)
@[simp] theorem x_not {a : E} : ev C (.not_ a) env = (asB (ev C a env)).b fun t => .ok (.bl (!t)) := (rfl)
@[simp] theorem x_ite {c a b : E} : ev C (.ite c a b) env = (asB (ev C c env)).b fun t => if t then ev C a env else ev C b env := (rfl)
@[simp] theorem x_call {f : Nat} {es : List E} : ev C (.call f es) env = (evs C es env).b fun ds => C f (shs ds) := (rfl)
@[simp] theorem x_call0 {f : Nat} : ev C (.call0 f) env = (C f []).quiet := (rfl)
@[simp] theorem x_bf {f : BF} {es : List E} : ev C (.bf f es) env = (evs C es env).b fun ds => bfun f ds := (rfl)
@[simp] theorem x_isi {a : E} {ts : List Ty} : ev C (.isi a ts) env = (ev C a env).b fun x => if isOk x then .ok (.bl (ts.any (isTy x))) else .bad := (rfl)
@[simp] theorem x_sub {a i : E} : ev C (.sub a i) env = (ev C a env).b fun x => (ev C i env).b fun y => getD x y := (rfl)
@[simp] theorem x_slice {a : E} {lo hi : Option E} : ev C (.slice a lo hi) env = (ev C a env).b fun x => (evo C lo env).b fun l => (evo C hi env).b fun h => slic x l h := (rfl)
@[simp] theorem x_tup {es : List E} : ev C (.tup es) env = (evs C es env).b fun ds => .ok (.tup ds) := (rfl)
@[simp] theorem x_lst {es : List E} : ev C (.lst es) env = (evs C es env).b fun ds => .ok (.lst .w ds) := (rfl)
@[simp] theorem x_dic {ks : List Ky} {es : List E} : ev C (.dic ks es) env = (evs C es env).b fun ds => .ok (.dic .w (mergeD [] (ks.zip ds))) := (rfl)
@[simp] theorem x_comp {p : P} {it : It} {cs : List E} {e : E} : ev C (.comp p it cs e) env = (evi C it env).b fun ds => (compL (stepC C p cs e env) ds).b fun xs => .ok (.lst .w xs) := (rfl)
@[simp] theorem x_nil : evs C [] env = .ok [] := (rfl)
@[simp] theorem x_cons {e : E} {r : List E} : evs C (e :: r) env = (ev C e env).b fun x => (evs C r env).b fun xs => .ok (x :: xs) := (rfl)
@[simp] theorem x_onone : evo C none env = .ok none := (rfl)
@[simp] theorem x_osome {e : E} : evo C (some e) env = (asI (ev C e env)).b fun i => .ok (some i) := (rfl)
@[simp] theorem x_cnil : evc C [] env = .ok true := (rfl)
@[simp] theorem x_ccons {e : E} {r : List E} : evc C (e :: r) env = (asB (ev C e env)).b fun t => if t then evc C r env else .ok false := (rfl)
@[simp] theorem x_val {e : E} : evi C (.val e) env = (ev C e env).b itemsOf := (rfl)
@[simp] theorem x_r1 {e : E} : evi C (.r1 e) env = (asI (ev C e env)).b fun n => if sized n then .ok (rngUp 0 n) else .bad := (rfl)
@[simp] theorem x_r2 {a b : E} : evi C (.r2 a b) env = (asI (ev C a env)).b fun i => (asI (ev C b env)).b fun j => if sized i && sized j then .ok (rngUp i j) else .bad := (rfl)
@[simp] theorem x_r3 {a b c : E} : evi C (.r3 a b c) env = (asI (ev C a env)).b fun i => (asI (ev C b env)).b fun j => (asI (ev C c env)).b fun k => if sized i && sized j && decide (k = -1) then .ok (rngDn i j) else .bad := (rfl)
@[simp] theorem x_enum {e : E} : evi C (.enum e) env = (ev C e env).b enumD := (rfl)
@[simp] theorem x_zip {a b : E} : evi C (.zip a b) env = (ev C a env).b fun d => (ev C b env).b fun c => zipD d c := (rfl)
@[simp] theorem y_nil : evSs C N [] env = .ok env .nx := (rfl)
@[simp] theorem y_cons {s : S} {r : List S} : evSs C N (s :: r) env = (evS C N s env).b fun env' => evSs C N r env' := (rfl)
@[simp] theorem y_set {i : Nat} {z : List Nat} {e : E} : evS C N (.set i z e) env = (ev C e env).s env fun d => .ok ((if z.isEmpty || noSh d then env else frz z env).set i (some (sh d))) .nx := (rfl)
@[simp] theorem y_setm {i : Nat} {z : List Nat} {e : E} : evS C N (.setm i z e) env = (ev C e env).s env fun d => .ok ((if z.isEmpty || noSh d then env else frz z env).set i (some d)) .nx := (rfl)
@[simp] theorem y_unp {is z : List Nat} {e : E} : evS C N (.unp is z e) env = (ev C e env).s env fun d => (bindP (.t is) d (if z.isEmpty || noSh d then env else frz z env)).s env fun env' => .ok env' .nx := (rfl)
@[simp] theorem y_apz {i : Nat} {p : List E} {z : List Nat} {e : E} : evS C N (.apz i p z e) env = (evs C p env).quiet.s env fun ks => if pathOk i ks env then (ev C e env).s env fun d => upd1 (appD d) i ks (if z.isEmpty || noSh d then env else frz z env) else .bad := (rfl)
@[simp] theorem y_app {i : Nat} {p : List E} {z : Bool} {e : E} : evS C N (.app i p z e) env = (evs C p env).quiet.s env fun ks => if pathOk i ks env then (ev C e env).s env fun d => if !z || noSh d then upd1 (appD d) i ks env else .bad else .bad := (rfl)
@[simp] theorem y_sto {i : Nat} {p : List E} {k e : E} {z : Bool} : evS C N (.sto i p k z e) env = (ev C e env).s env fun d => (evs C p env).quiet.s env fun ks => (ev C k env).quiet.s env fun q => if !z || noSh d then upd1 (stoD q d) i ks env else .bad := (rfl)
@[simp] theorem y_exp {e : E} : evS C N (.exp e) env = (ev C e env).s env fun _ => .ok env .nx := (rfl)
@[simp] theorem y_ifs {c : E} {a b : List S} : evS C N (.ifs c a b) env = (asB (ev C c env)).s env fun t => if t then evSs C N a env else evSs C N b env := (rfl)
theorem y_for {p : P} {it : It} {z : List Nat} {b : List S} : evS C N (.for_ p it z b) env = (evi C it env).s env fun ds => loopL (fun d env => (bindP p d env).s env fun env' => evSs C N b env') ds (frz z env) := (rfl)
theorem y_whl {c : E} {b : List S} : evS C N (.whl c b) env = loopW (fun env => asB (ev C c env)) (fun env => evSs C N b env) N env := (rfl)
@[simp] theorem y_ret {e : E} : evS C N (.ret e) env = (ev C e env).s env fun d => .ok env (.rt d) := (rfl)
@[simp] theorem y_retm {i : Nat} : evS C N (.retm i) env = (look env i).s env fun d => .ok env (.rt d) := (rfl)
@[simp] theorem y_pass : evS C N .pass env = .ok env .nx := (rfl)
@[simp] theorem y_brk : evS C N .brk env = .ok env .bk := (rfl)
@[simp] theorem y_cont : evS C N .cont env = .ok env .ct := (rfl)
end
@[simp] theorem rs_ok {f : Env → RS} {env : Env} : (RS.ok env .nx).b f = f env := (rfl)
@[simp] theorem rs_rt {f : Env → RS} {env : Env} {d : D} : (RS.ok env (.rt d)).b f = .ok env (.rt d) := (rfl)
@[simp] theorem rs_bk {f : Env → RS} {env : Env} : (RS.ok env .bk).b f = .ok env .bk := (rfl)
@[simp] theorem rs_ct {f : Env → RS} {env : Env} : (RS.ok env .ct).b f = .ok env .ct := (rfl)
@[simp] theorem rs_exc {f : Env → RS} {env : Env} {x : Ex} : (RS.exc x env).b f = .exc x env := (rfl)
@[simp] theorem r_s {α : Type} {a : α} {env : Env} {f : α → RS} : (R.ok a).s env f = f a := (rfl)
@[simp] theorem r_sx {α : Type} {x : Ex} {env : Env} {f : α → RS} : (R.exc x : R α).s env f = .exc x env := (rfl)
@[simp] theorem r_q {α : Type} {a : α} : (R.ok a).quiet = .ok a := (rfl)
@[simp] theorem l_zero {d : D} {r : Env} : look (some d :: r) 0 = .ok d := (rfl)
@[simp] theorem l_succ {o : Option D} {r : Env} {n : Nat} : look (o :: r) (n + 1) = look r n := (rfl)
@[simp] theorem asB_ok {b : Bool} : asB (.ok (.bl b)) = .ok b := (rfl)
@[simp] theorem asI_ok {b : Int} : asI (.ok (.int b)) = .ok b := (rfl)
@[simp] theorem ofB_ok' {b : Bool} : ofB (.ok b) = .ok (.bl b) := (rfl)
@[simp] theorem f_nil {env : Env} : frz [] env = env := (rfl)
@[simp] theorem o_add {i j : Int} : binop .add (.int i) (.int j) = .ok (.int (i + j)) := (rfl)
@[simp] theorem o_sub {i j : Int} : binop .sub (.int i) (.int j) = .ok (.int (i - j)) := (rfl)
@[simp] theorem o_mul {i j : Int} : binop .mul (.int i) (.int j) = if small i || small j then .ok (.int (i * j)) else .bad := (rfl)
@[simp] theorem o_mod {i j : Int} : binop .mod (.int i) (.int j) = if 0 < j then .ok (.int (i % j)) else .bad := (rfl)
@[simp] theorem o_fdiv {i j : Int} : binop .fdiv (.int i) (.int j) = if 0 < j ∧ j < 1073741824 then .ok (.int (i / j)) else .bad := (rfl)
@[simp] theorem o_cat {a b : Cs} : binop .add (.str a) (.str b) = if a.length + b.length ≤ lim then .ok (.str (a ++ b)) else .bad := (rfl)
@[simp] theorem c_lt {i j : Int} : cmpop .lt (.int i) (.int j) = .ok (decide (i < j)) := (rfl)
@[simp] theorem c_gt {i j : Int} : cmpop .gt (.int i) (.int j) = .ok (decide (j < i)) := (rfl)
@[simp] theorem c_le {i j : Int} : cmpop .le (.int i) (.int j) = .ok (decide (i ≤ j)) := (rfl)
@[simp] theorem c_ge {i j : Int} : cmpop .ge (.int i) (.int j) = .ok (decide (j ≤ i)) := (rfl)
@[simp] theorem c_eqi {i j : Int} : cmpop .eq (.int i) (.int j) = .ok (i == j) := (rfl)
@[simp] theorem c_eqs {i j : Cs} : cmpop .eq (.str i) (.str j) = .ok (i == j) := (rfl)
@[simp] theorem c_nei {i j : Int} : cmpop .ne (.int i) (.int j) = .ok (!(i == j)) := (rfl)
@[simp] theorem c_nes {i j : Cs} : cmpop .ne (.str i) (.str j) = .ok (!(i == j)) := (rfl)
@[simp] theorem g_tup {ds : List D} {i : Int} : getD (.tup ds) (.int i) = match L2.atI ds i with
  | some d => .ok d
  | none => .bad := (rfl)
@[simp] theorem g_lst {o : O} {ds : List D} {i : Int} : getD (.lst o ds) (.int i) = match L2.atI ds i with
  | some d => .ok d
  | none => .bad := (rfl)
@[simp] theorem g_str {s : Cs} {i : Int} : getD (.str s) (.int i) = match L2.atI s i with
  | some c => .ok (.str [c])
  | none => .bad := (rfl)
@[simp] theorem g_dic {o : O} {kvs : List (Ky × D)} {s : Cs} : getD (.dic o kvs) (.str s) = match lookD kvs (.inr s) with
  | some d => .ok d
  | none => .bad := (rfl)
theorem atI_nat {α : Type} {xs : List α} {n : Nat} (h : n < xs.length) : L2.atI xs (n : Int) = some xs[n] := by
  unfold L2.atI L2.ixN
  rw [if_pos (Int.natCast_nonneg n), if_pos (by exact_mod_cast h)]
  show xs[(n : Int).toNat]? = _
  rw [Int.toNat_natCast, List.getElem?_eq_getElem h]
/-- an index that is whole and within -/
theorem atI_in {α : Type} {xs : List α} {i : Int} (h0 : 0 ≤ i) (h : i < xs.length) : ∃ x, L2.atI xs i = some x ∧ xs[i.toNat]? = some x ∧ x ∈ xs := by
  have e : i = ((i.toNat : Nat) : Int) := by omega
  have hl : i.toNat < xs.length := by omega
  rw [e, atI_nat hl]
  refine ⟨_, rfl, ?_, List.getElem_mem hl⟩
  rw [Int.toNat_natCast, List.getElem?_eq_getElem hl]
/-- a loop that always goes on -/
theorem loop_ind {f : D → Env → RS} (Pv : Nat → Env → Prop) : ∀ {ds : List D} {n : Nat} {env : Env}, Pv n env → (∀ i d env, ds[i]? = some d → Pv (n + i) env → ∃ env', f d env = .ok env' .nx ∧ Pv (n + i + 1) env') →
    ∃ env', loopL f ds env = .ok env' .nx ∧ Pv (n + ds.length) env'
  | [], n, env, h, _ => ⟨env, rfl, h⟩
  | d :: r, n, env, h, hs => by
    obtain ⟨env1, e1, h1⟩ := hs 0 d env rfl h
    obtain ⟨env2, e2, h2⟩ := loop_ind Pv (ds := r) (n := n + 1) (env := env1) h1 fun i d' env' e p => by
      obtain ⟨env3, e3, h3⟩ := hs (i + 1) d' env' e (by rw [show n + (i + 1) = n + 1 + i by omega]; exact p)
      exact ⟨env3, e3, by rw [show n + 1 + i + 1 = n + (i + 1) + 1 by omega]; exact h3⟩
    refine ⟨env2, ?_, by rw [List.length_cons, show n + (r.length + 1) = n + 1 + r.length by omega]; exact h2⟩
    show (match f d env with
      | .ok env' .nx => loopL f r env'
      | .ok env' .ct => loopL f r env'
      | .ok env' .bk => .ok env' .nx
      | x => x) = _
    rw [e1]
    exact e2
theorem comp_map {f : D → R (Option D)} {g : D → D} : ∀ {ds : List D}, (∀ d ∈ ds, f d = .ok (some (g d))) → compL f ds = .ok (ds.map g)
  | [], _ => rfl
  | d :: r, h => by
    show ((f d).quiet.b fun x => (compL f r).b fun ys => match x with
      | some y => R.ok (y :: ys)
      | none => .ok ys) = _
    rw [h d List.mem_cons_self, comp_map fun d' hd => h d' (List.mem_cons_of_mem _ hd)]
    rfl
theorem comp_filter {f : D → R (Option D)} {p : D → Bool} {g : D → D} : ∀ {ds : List D}, (∀ d ∈ ds, f d = .ok (if p d then some (g d) else none)) → compL f ds = .ok ((ds.filter p).map g)
  | [], _ => rfl
  | d :: r, h => by
    show ((f d).quiet.b fun x => (compL f r).b fun ys => match x with
      | some y => R.ok (y :: ys)
      | none => .ok ys) = _
    rw [h d List.mem_cons_self, comp_filter fun d' hd => h d' (List.mem_cons_of_mem _ hd), List.filter_cons]
    cases p d <;> rfl
theorem rngUp_len {a b : Int} : (rngUp a b).length = (b - a).toNat := by unfold rngUp; rw [List.length_map, List.length_range]
theorem rngUp_get {a b : Int} {i : Nat} {d : D} (h : (rngUp a b)[i]? = some d) : d = .int (a + i) ∧ i < (b - a).toNat := by
  unfold rngUp at h
  rw [List.getElem?_map] at h
  obtain ⟨c, h1, h2⟩ := Option.map_eq_some_iff.mp h
  obtain ⟨h3, h4⟩ := List.getElem?_eq_some_iff.mp h1
  rw [List.length_range] at h3
  rw [List.getElem_range] at h4
  subst h4
  exact ⟨h2.symm, h3⟩
end Q
namespace Q
theorem for_ok {C : Nat → List D → R D} {N : Nat} {p : P} {it : It} {z : List Nat} {b : List S} {env env' : Env} {ds : List D} (h1 : evi C it env = .ok ds) (h2 : loopL (fun d env => (bindP p d env).s env fun env' => evSs C N b env') ds (frz z env) = .ok env' .nx) : evS C N (.for_ p it z b) env = .ok env' .nx := by
  rw [y_for, h1]; exact h2
theorem for_ind {C : Nat → List D → R D} {N : Nat} {p : P} {it : It} {z : List Nat} {b : List S} {env : Env} {ds : List D} (Pv : Nat → Env → Prop) (h1 : evi C it env = .ok ds) (h0 : Pv 0 (frz z env))
    (hs : ∀ i d env, ds[i]? = some d → Pv i env → ∃ env', ((bindP p d env).s env fun env' => evSs C N b env') = .ok env' .nx ∧ Pv (i + 1) env') : ∃ env', evS C N (.for_ p it z b) env = .ok env' .nx ∧ Pv ds.length env' := by
  obtain ⟨env', e1, e2⟩ := loop_ind (f := fun d env => (bindP p d env).s env fun env' => evSs C N b env') Pv (n := 0) h0 fun i d env hd hp => by
    rw [Nat.zero_add] at hp ⊢
    exact hs i d env hd hp
  rw [Nat.zero_add] at e2
  exact ⟨env', for_ok h1 e1, e2⟩
end Q

set_option maxHeartbeats 1000000
namespace Q
open PySem PySem.Spec L2
open PyProof.Rows hiding St

/-! ## what the head says of exceptions -/
def isO (a b : Option (Option Value)) : Bool := decide (a = b)
def excB (K : PySem.W.Frag) (D : Addr) : Bool :=
  isO (PySem.W.findIn K (.ref D) "__getattribute__") (some (some (.builtin "BaseException.__getattribute__"))) && (isO (PySem.W.findIn K (.ref D) "__getattr__") (some none) && (decide (PySem.W.subIn K (.ref D) (.type "BaseException") = some true) && (PySem.W.hasDictIn K D &&
    (isO (PySem.W.findIn K (.ref D) "__class__") (some (some (.builtin "object.__class__"))) && (isO (PySem.W.specialIn K (.builtin "object.__class__") "__get__") (some (some (.builtin "getset_descriptor.__get__"))) && (decide (PySem.W.takesIn K (.builtin "object.__class__") = some true) && decide (PySem.W.mroIn K D (.type "object") = some true)))))))
theorem excB_ok {K : PySem.W.Frag} {D : Addr} (h : excB K D = true) : ExcC K D := by
  unfold excB isO at h
  simp only [Bool.and_eq_true, decide_eq_true_eq] at h
  obtain ⟨h1, h2, h3, h4, h5, h6, h7, h8⟩ := h
  exact ⟨h1, h2, h3, h4, h5, h6, h7, h8⟩
/-- one clause: the class that comes, the clause's name, what isinstance tells by name -/
structure ClD where
  cls : Str
  nm : Str
  tbl : List (Str × Option String × Bool)
def clsVal (K : PySem.W.Frag) (y : Str) : Option String → Value
  | none => .ref (He.ga K y)
  | some T => .type T
def ClD.ok (K : PySem.W.Frag) (t : ClD) : Bool := excB K (He.ga K t.cls) && (decide (PySem.W.exmOne K (.ref (He.ga K t.cls)) (.ref (He.ga K t.nm)) = some true) && t.tbl.all fun y => decide (PySem.W.kitOne K (.ref (He.ga K t.cls)) (clsVal K y.1 y.2.1) = some y.2.2))
def exAll (ts : List ClD) (K : PySem.W.Frag) : Bool := ts.all fun t => t.ok K
def obsE (fa : List He.Fa) (fn : List He.DefD) (ts : List ClD) (K : PySem.W.Frag) : He.AlD × Bool := (He.obsD fa fn K, exAll ts K)
def SaysE (fa : List He.Fa) (fn : List He.DefD) (ts : List ClD) (K : PySem.W.Frag) : Prop := obsE fa fn ts K = (He.valD fn, true)
def obsEG (n : Nat) (fa : List He.Fa) (fn : List He.DefD) (ts : List ClD) (g : Addr → Option Obj) : He.AlD × Bool := obsE fa fn ts (He.frG g (He.asD g n))
def hookE (n : Nat) (fa : List He.Fa) (fn : List He.DefD) (ts : List ClD) : PySem.W.Hook where
  α := He.AlD × Bool
  obs := fun s => obsEG n fa fn ts s.heap.get?
  val := fun _ => (He.valD fn, true)
  says := fun _ h => ∃ K : PySem.W.Frag, K.In h ∧ SaysE fa fn ts K
  of := fun _ _ e => ⟨_, He.frG_in, e⟩
  keeps := fun _ _ _ ⟨K, hK, c⟩ k => ⟨K, PySem.W.Frag.In.keeps hK k, c⟩
theorem obsEG_eq {n : Nat} {fa : List He.Fa} {fn : List He.DefD} {ts : List ClD} {g : Addr → Option Obj} {s : Shared} (h : ∀ a, g a = s.heap.get? a) : obsEG n fa fn ts g = (hookE n fa fn ts).obs s := by
  have e : g = s.heap.get? := funext h
  rw [e] <;> rfl
section
variable {fa : List He.Fa} {fn : List He.DefD} {ts : List ClD} {K : PySem.W.Frag} {h : Heap} {mg : Str → Option Value}
theorem SaysE.d (c : SaysE fa fn ts K) : He.SaysD fa fn K := congrArg (fun z : He.AlD × Bool => z.1) c
theorem SaysE.e (c : SaysE fa fn ts K) : exAll ts K = true := congrArg (fun z : He.AlD × Bool => z.2) c
/-- what is raised: by number -/
def xrOf (K : PySem.W.Frag) (cl : List Str) : Ex → Value → Option Addr → Hp → Prop := fun x c dd _ => x.row = none ∧ dd = none ∧ ∃ nm, cl[x.cls]? = some nm ∧ c = .ref (He.ga K nm)
theorem exc_rm (X : K.In h) (Gg : h.Ns mainGlobals mg) (c : He.SaysD fa fn K) {cl : List Str} {x : Str} {j : Nat} (h1 : He.Fa.exc x ∈ fa) (h2 : He.Fa.glo x ∈ fa) (h3 : cl[j]? = some x) : ExcRM K mg (xrOf K cl) x j := by
  obtain ⟨g1, g2, g3, g4⟩ := He.exc_ok (He.SaysD.facts c h1)
  exact ⟨_, He.glo_ok X Gg (He.SaysD.facts c h2), g1, g2, g3, g4, fun H => ⟨rfl, rfl, x, h3, rfl⟩⟩
theorem try_rm (X : K.In h) (Gg : h.Ns mainGlobals mg) (c : He.SaysD fa fn K) (e : exAll ts K = true) {cl : List Str} {t : ClD} {j : Nat} (hm : t ∈ ts) (h1 : He.Fa.glo t.nm ∈ fa) (h2 : cl[j]? = some t.cls)
    (hy : ∀ y ∈ t.tbl, match y.2.1 with
      | none => He.Fa.glo y.1 ∈ fa
      | some T => He.Fa.free y.1 ∈ fa ∧ bootBuiltins y.1 = some (.type T) ∧ y.1 ≠ "__name__") : TryRM K mg (xrOf K cl) t.nm j (t.tbl.map fun y => (y.1, y.2.2)) := by
  have e1 := List.all_eq_true.mp e t hm
  unfold ClD.ok at e1
  simp only [Bool.and_eq_true, decide_eq_true_eq, List.all_eq_true] at e1
  obtain ⟨g1, g2, g3⟩ := e1
  refine ⟨_, _, .inl (He.glo_ok X Gg (He.SaysD.facts c h1)), excB_ok g1, fun c' dd H q => ?_, g2, fun y b q => ?_⟩
  · obtain ⟨_, q2, nm, q3, q4⟩ := q
    have : nm = t.cls := by
      have q3 : cl[j]? = some nm := q3
      rw [h2] at q3
      exact (Option.some.inj q3).symm
    subst this
    exact ⟨q4, q2⟩
  · obtain ⟨⟨y1, y2, y3⟩, q1, q2⟩ := List.mem_map.mp q
    cases q2
    have k := g3 _ q1
    have w := hy _ q1
    cases y2 with
    | none => exact ⟨.ref (He.ga K y1), _, ⟨.own _, rfl, .inl (He.glo_ok X Gg (He.SaysD.facts c w))⟩, k⟩
    | some T =>
      obtain ⟨w1, w2, w3⟩ := w
      exact ⟨.ty T, _, ⟨.ty T, rfl, .inr ⟨He.free_ok X Gg (He.SaysD.facts c w1), w2, w3⟩⟩, k⟩
end
end Q

set_option maxHeartbeats 0
namespace QHead
open PySem PySem.Spec PyProof.Rows L2
def top (i : Nat) : Stmt := PySem.Challenge.pw_quirehand_k25_whole_pages_placed.main.body.getD i (.Pass ⟨0, 0, 0, 0⟩)
def mkD (g : Str) (i : Nat) (n : Str) : He.DefD := ⟨(g, none), n, n, defArgs (top i), defBody (top i), defScope (top i), [], []⟩
def mkI (g : Str) (i : Nat) (n : Str) (N : List Str) (np : Nat) (M : List Nat) (zl : List (Nat × List Nat)) : _root_.Q.DefI := ⟨g, n, top i, N, np, M, zl⟩

def cl : List Str := []
def cts : List _root_.Q.ClD := []
def xt : _root_.Q.ExTb := ⟨[], [], [], []⟩
def cms : List (Str × Nat) := []
def fn0 : List He.DefD := [mkD "height_of_rows" 1 "height_of_rows", mkD "lowered" 2 "lowered", mkD "body_of" 3 "body_of", mkD "foot_of" 4 "foot_of", mkD "placed" 5 "placed", mkD "_law_cell_at" 7 "_law_cell_at", mkD "_law_spots" 8 "_law_spots", mkD "_law_rows" 9 "_law_rows", mkD "_law_leaves" 10 "_law_leaves", mkD "_law_under" 11 "_law_under", mkD "_law_due" 12 "_law_due", mkD "_law_right" 13 "_law_right", mkD "_law_apart" 14 "_law_apart", mkD "law" 15 "law"]
def fn : List He.DefD := fn0
def fa0 : List He.Fa := [.glo "height_of_rows", .glo "lowered", .glo "body_of", .glo "foot_of", .glo "placed", .glo "_law_cell_at", .glo "_law_spots", .glo "_law_rows", .glo "_law_leaves", .glo "_law_under", .glo "_law_due", .glo "_law_right", .glo "_law_apart", .glo "law", .free "all", .free "bool", .free "dict", .free "int", .free "isinstance", .free "len"]
def fa1 : List He.Fa := [.free "list", .free "max", .free "min", .free "range", .free "sorted", .free "str", .free "sum", .free "tuple"]
def fa : List He.Fa := fa0 ++ fa1
def tb0 : List _root_.Q.DefI := [mkI "height_of_rows" 1 "height_of_rows" ["rows", "row"] 1 [] [], mkI "lowered" 2 "lowered" ["spots", "top", "spot"] 2 [] [], mkI "body_of" 3 "body_of" ["strips", "rows", "begin", "end", "spots", "top", "k"] 4 [4] [], mkI "foot_of" 4 "foot_of" ["notes", "first", "last", "top", "spots", "rows", "row"] 4 [4] [], mkI "placed" 5 "placed" ["rules", "strips", "rows", "notes", "leaves", "pages", "begin", "first", "marked", "end", "late", "last", "body", "top", "high", "rule", "strip", "note"] 5 [5, 12] [], mkI "_law_cell_at" 7 "_law_cell_at" ["_law_script", "_law_k"] 2 [] [], mkI "_law_spots" 8 "_law_spots" ["_law_cell", "_law_height", "_law_name", "_law_found", "_law_top", "_law_k"] 3 [3] [], mkI "_law_rows" 9 "_law_rows" ["_law_script", "_law_rows_here", "_law_strips", "_law_notes", "_law_k", "_law_cell", "_law_height", "_law_many", "_law_j", "_law_more", "_law_name", "_law_n"] 1 [1, 2, 3] [(63, [3])], mkI "_law_leaves" 10 "_law_leaves" ["_law_script", "_law_strips", "_law_found", "_law_begin", "_law_cell", "_law_end", "_law_own", "_law_late", "_law_strip"] 2 [2] [(70, [2])], mkI "_law_under" 11 "_law_under" ["_law_rows_here", "_law_top", "_law_found", "_law_row", "_law_spot"] 2 [] [], mkI "_law_due" 12 "_law_due" ["_law_rules", "_law_strips", "_law_rows_here", "_law_notes", "_law_leaves_here", "_law_due_here", "_law_begin", "_law_shown", "_law_end", "_law_late", "_law_body", "_law_top", "_law_k", "_law_last", "_law_feet", "_law_note", "_law_rule", "_law_spots_here", "_law_strip"] 5 [5] [], mkI "_law_right" 13 "_law_right" ["_law_found", "_law_due_here", "_law_page", "_law_spot"] 2 [] [], mkI "_law_apart" 14 "_law_apart" ["_law_pages", "_law_rows_here", "_law_notes", "_law_texts", "_law_due_here", "_law_row", "_law_note", "_law_body", "_law_rule", "_law_foot", "_law_owners", "_law_spot", "_law_name"] 3 [3, 10] [], mkI "law" 15 "law" ["_law_script", "_law_leaves_here", "_law_rules", "_law_due_here", "_law_handed", "_law_found", "_law_page", "_law_rows_here", "_law_strips", "_law_notes"] 1 [2, 5, 6] [(141, [2]), (142, [2]), (148, [5])]]
def tb : List _root_.Q.DefI := tb0
def glo : List (Str × _root_.Q.D) := []
def blt : List Str := ["all", "bool", "dict", "int", "isinstance", "len", "list", "max", "min", "range", "sorted", "str", "sum", "tuple"]
def loose0 : List PySem.Str := ["__name__", "height_of_rows", "lowered", "body_of", "foot_of", "placed", "_law_cell_at", "_law_spots", "_law_rows", "_law_leaves", "_law_under", "_law_due", "_law_right", "_law_apart"]
def loose : List PySem.Str := loose0

abbrev R : PySem.W.OpenRow := PySem.W.OpenLaw.row PySem.Challenge.rw_quirehand_k25_whole_pages_placed
abbrev hk : PySem.W.Hook := _root_.Q.hookE 4 fa fn cts
def ob (s : PySem.W.SharedT) : He.AlD × Bool := _root_.Q.obsEG 4 fa fn cts (HandSHeadRun.getT s)
theorem ob_eq (s : PySem.W.SharedT) : ob s = hk.obs s.abs := _root_.Q.obsEG_eq (HandSHeadRun.getT_eq s)
theorem run (w : World) : HandSHeadRun.RunEq R (PySem.W.view R.prog [15]) hk ob 20000 loose w :=
  by intro os; kernel_rfl
abbrev BindOk (d : _root_.Q.DefI) : Prop := ∀ (kV doc pm : Value) (an : Option Addr) (cdv ct : Value) (us : List Value), us.length = (d.N.take d.np).length → bindArgs (PySem.W.fnOf d.nm d.nm (defArgs d.st) (defBody d.st) (defScope d.st) .none kV doc pm an cdv ct) ⟨us, []⟩ = pure ((d.N.take d.np).zip us)

theorem bind0 : BindOk (tb.getD 0 (mkI "" 0 "" [] 0 [] [])) := fun _ _ _ _ _ _ us hl => match us, hl with | [_], _ => rfl
theorem bind1 : BindOk (tb.getD 1 (mkI "" 0 "" [] 0 [] [])) := fun _ _ _ _ _ _ us hl => match us, hl with | [_, _], _ => rfl
theorem bind2 : BindOk (tb.getD 2 (mkI "" 0 "" [] 0 [] [])) := fun _ _ _ _ _ _ us hl => match us, hl with | [_, _, _, _], _ => rfl
theorem bind3 : BindOk (tb.getD 3 (mkI "" 0 "" [] 0 [] [])) := fun _ _ _ _ _ _ us hl => match us, hl with | [_, _, _, _], _ => rfl
theorem bind4 : BindOk (tb.getD 4 (mkI "" 0 "" [] 0 [] [])) := fun _ _ _ _ _ _ us hl => match us, hl with | [_, _, _, _, _], _ => rfl
theorem bind5 : BindOk (tb.getD 5 (mkI "" 0 "" [] 0 [] [])) := fun _ _ _ _ _ _ us hl => match us, hl with | [_, _], _ => rfl
theorem bind6 : BindOk (tb.getD 6 (mkI "" 0 "" [] 0 [] [])) := fun _ _ _ _ _ _ us hl => match us, hl with | [_, _, _], _ => rfl
theorem bind7 : BindOk (tb.getD 7 (mkI "" 0 "" [] 0 [] [])) := fun _ _ _ _ _ _ us hl => match us, hl with | [_], _ => rfl
theorem bind8 : BindOk (tb.getD 8 (mkI "" 0 "" [] 0 [] [])) := fun _ _ _ _ _ _ us hl => match us, hl with | [_, _], _ => rfl
theorem bind9 : BindOk (tb.getD 9 (mkI "" 0 "" [] 0 [] [])) := fun _ _ _ _ _ _ us hl => match us, hl with | [_, _], _ => rfl
theorem bind10 : BindOk (tb.getD 10 (mkI "" 0 "" [] 0 [] [])) := fun _ _ _ _ _ _ us hl => match us, hl with | [_, _, _, _, _], _ => rfl
theorem bind11 : BindOk (tb.getD 11 (mkI "" 0 "" [] 0 [] [])) := fun _ _ _ _ _ _ us hl => match us, hl with | [_, _], _ => rfl
theorem bind12 : BindOk (tb.getD 12 (mkI "" 0 "" [] 0 [] [])) := fun _ _ _ _ _ _ us hl => match us, hl with | [_, _, _], _ => rfl
theorem bind13 : BindOk (tb.getD 13 (mkI "" 0 "" [] 0 [] [])) := fun _ _ _ _ _ _ us hl => match us, hl with | [_], _ => rfl
theorem tb_ok : ∀ (j : Nat) (d : _root_.Q.DefI), tb[j]? = some d → (⟨(d.g, none), d.nm, d.nm, defArgs d.st, defBody d.st, defScope d.st, [], []⟩ : He.DefD) ∈ fn ∧ He.Fa.glo d.g ∈ fa ∧ BindOk d
  | 0, d, h => by cases h; exact ⟨List.mem_of_getElem? (i := 0) rfl, List.mem_of_getElem? (i := 0) rfl, bind0⟩
  | 1, d, h => by cases h; exact ⟨List.mem_of_getElem? (i := 1) rfl, List.mem_of_getElem? (i := 1) rfl, bind1⟩
  | 2, d, h => by cases h; exact ⟨List.mem_of_getElem? (i := 2) rfl, List.mem_of_getElem? (i := 2) rfl, bind2⟩
  | 3, d, h => by cases h; exact ⟨List.mem_of_getElem? (i := 3) rfl, List.mem_of_getElem? (i := 3) rfl, bind3⟩
  | 4, d, h => by cases h; exact ⟨List.mem_of_getElem? (i := 4) rfl, List.mem_of_getElem? (i := 4) rfl, bind4⟩
  | 5, d, h => by cases h; exact ⟨List.mem_of_getElem? (i := 5) rfl, List.mem_of_getElem? (i := 5) rfl, bind5⟩
  | 6, d, h => by cases h; exact ⟨List.mem_of_getElem? (i := 6) rfl, List.mem_of_getElem? (i := 6) rfl, bind6⟩
  | 7, d, h => by cases h; exact ⟨List.mem_of_getElem? (i := 7) rfl, List.mem_of_getElem? (i := 7) rfl, bind7⟩
  | 8, d, h => by cases h; exact ⟨List.mem_of_getElem? (i := 8) rfl, List.mem_of_getElem? (i := 8) rfl, bind8⟩
  | 9, d, h => by cases h; exact ⟨List.mem_of_getElem? (i := 9) rfl, List.mem_of_getElem? (i := 9) rfl, bind9⟩
  | 10, d, h => by cases h; exact ⟨List.mem_of_getElem? (i := 10) rfl, List.mem_of_getElem? (i := 10) rfl, bind10⟩
  | 11, d, h => by cases h; exact ⟨List.mem_of_getElem? (i := 11) rfl, List.mem_of_getElem? (i := 11) rfl, bind11⟩
  | 12, d, h => by cases h; exact ⟨List.mem_of_getElem? (i := 12) rfl, List.mem_of_getElem? (i := 12) rfl, bind12⟩
  | 13, d, h => by cases h; exact ⟨List.mem_of_getElem? (i := 13) rfl, List.mem_of_getElem? (i := 13) rfl, bind13⟩
  | j + 14, d, h => by cases h
theorem glo_ok {K : PySem.W.Frag} {h : Heap} {mg : Str → Option Value} (X : K.In h) (Gg : h.Ns mainGlobals mg) (c : He.SaysD fa fn K) : ∀ (x : Str) (d : _root_.Q.D), (x, d) ∈ glo → ∃ v u, mg x = some u ∧ RelV v u ∧ ∀ H U, _root_.Q.rep K H U d v [] := by
  intro x d hm
  unfold glo at hm
  cases hm
theorem blt_ok {K : PySem.W.Frag} {h : Heap} {mg : Str → Option Value} (X : K.In h) (Gg : h.Ns mainGlobals mg) (c : He.SaysD fa fn K) : ∀ x, x ∈ blt → mg x = none := by
  intro x hm
  unfold blt at hm
  rcases List.mem_cons.mp hm with e | hm
  · rw [e]; exact He.free_ok X Gg (c.fact 14 rfl)
  rcases List.mem_cons.mp hm with e | hm
  · rw [e]; exact He.free_ok X Gg (c.fact 15 rfl)
  rcases List.mem_cons.mp hm with e | hm
  · rw [e]; exact He.free_ok X Gg (c.fact 16 rfl)
  rcases List.mem_cons.mp hm with e | hm
  · rw [e]; exact He.free_ok X Gg (c.fact 17 rfl)
  rcases List.mem_cons.mp hm with e | hm
  · rw [e]; exact He.free_ok X Gg (c.fact 18 rfl)
  rcases List.mem_cons.mp hm with e | hm
  · rw [e]; exact He.free_ok X Gg (c.fact 19 rfl)
  rcases List.mem_cons.mp hm with e | hm
  · rw [e]; exact He.free_ok X Gg (c.fact 20 rfl)
  rcases List.mem_cons.mp hm with e | hm
  · rw [e]; exact He.free_ok X Gg (c.fact 21 rfl)
  rcases List.mem_cons.mp hm with e | hm
  · rw [e]; exact He.free_ok X Gg (c.fact 22 rfl)
  rcases List.mem_cons.mp hm with e | hm
  · rw [e]; exact He.free_ok X Gg (c.fact 23 rfl)
  rcases List.mem_cons.mp hm with e | hm
  · rw [e]; exact He.free_ok X Gg (c.fact 24 rfl)
  rcases List.mem_cons.mp hm with e | hm
  · rw [e]; exact He.free_ok X Gg (c.fact 25 rfl)
  rcases List.mem_cons.mp hm with e | hm
  · rw [e]; exact He.free_ok X Gg (c.fact 26 rfl)
  rcases List.mem_cons.mp hm with e | hm
  · rw [e]; exact He.free_ok X Gg (c.fact 27 rfl)
  cases hm
theorem exs_ok {K : PySem.W.Frag} {h : Heap} {mg : Str → Option Value} (X : K.In h) (Gg : h.Ns mainGlobals mg) (c : He.SaysD fa fn K) : ∀ x j, (x, j) ∈ xt.exs → _root_.Q.ExcRM K mg (_root_.Q.xrOf K cl) x j := by
  intro x j hm
  have hm : (x, j) ∈ [] := hm
  cases hm
theorem trys_ok {K : PySem.W.Frag} {h : Heap} {mg : Str → Option Value} (X : K.In h) (Gg : h.Ns mainGlobals mg) (c : _root_.Q.SaysE fa fn cts K) : ∀ x j tbl, (x, j, tbl) ∈ xt.trys → _root_.Q.TryRM K mg (_root_.Q.xrOf K cl) x j tbl := by
  intro x j tbl hm
  have hm : (x, j, tbl) ∈ [] := hm
  cases hm
end QHead

set_option maxHeartbeats 1000000
namespace K25
open Q
/-- height_of_rows -/
def b0 : List S := [.ret (.bf .sum [(.comp (.n 1) (.val (.var 0)) [] (.sub (.var 1) (.lit (.int 0))))])]
def d0 : Def := ⟨1, 2, b0⟩
/-- lowered -/
def b1 : List S := [.ret (.comp (.n 2) (.val (.var 0)) [] (.tup [(.bin .add (.var 1) (.sub (.var 2) (.lit (.int 0)))), (.sub (.var 2) (.lit (.int 1))), (.sub (.var 2) (.lit (.int 2)))]))]
def d1 : Def := ⟨2, 3, b1⟩
/-- body_of -/
def b2_0 : List S := [.ifs (.cmp .gt (.var 6) (.var 2)) [.set 5 [] (.bin .add (.var 5) (.sub (.sub (.var 0) (.var 6)) (.lit (.int 0))))] [], .ext 4 [] false (.call 1 [(.sub (.sub (.var 1) (.var 6)) (.lit (.int 1))), (.var 5)]), .set 5 [] (.bin .add (.var 5) (.sub (.sub (.var 1) (.var 6)) (.lit (.int 0))))]
def b2 : List S := [.setm 4 [] (.lst []), .set 5 [] (.lit (.int 0)), .for_ (.n 6) (.r2 (.var 2) (.var 3)) [] b2_0, .rett [(.mv 4), (.e (.var 5))]]
def d2 : Def := ⟨4, 7, b2⟩
/-- foot_of -/
def b3_0 : List S := [.ext 4 [] false (.call 1 [(.sub (.var 6) (.lit (.int 1))), (.var 3)]), .set 3 [] (.bin .add (.var 3) (.sub (.var 6) (.lit (.int 0))))]
def b3_1 : List S := [.for_ (.n 6) (.val (.var 5)) [] b3_0]
def b3 : List S := [.setm 4 [] (.lst []), .for_ (.n 5) (.val (.slice (.var 0) (some (.var 1)) (some (.var 2)))) [] b3_1, .retm 4]
def d3 : Def := ⟨4, 7, b3⟩
/-- placed -/
def b4_0 : List S := [.unpm 12 13 (.call 2 [(.var 1), (.var 2), (.var 6), (.var 9)]), .set 8 [] (.bin .add (.var 8) (.bf .sum [(.comp (.n 16) (.val (.slice (.var 1) (some (.var 6)) (some (.var 9)))) [] (.sub (.var 16) (.lit (.int 3))))])), .set 11 [] (.bin .sub (.var 8) (.var 10)), .ifs (.cmp .eq (.var 7) (.var 11)) [.appm 5 [(.mv 12), (.e (.lit .non)), (.e (.lst []))]] [.set 14 [] (.bf .sum [(.comp (.n 17) (.val (.slice (.var 3) (some (.var 7)) (some (.var 11)))) [] (.call 0 [(.var 17)]))]), .set 15 [] (.bf .max [(.var 13), (.bin .sub (.bin .sub (.sub (.var 0) (.lit (.str [104, 101, 105, 103, 104, 116]))) (.lit (.int 1))) (.var 14))]), .appm 5 [(.mv 12), (.e (.var 15)), (.e (.call 3 [(.var 3), (.var 7), (.var 11), (.bin .add (.var 15) (.lit (.int 1)))]))]], .set 6 [] (.var 9), .set 7 [] (.var 11)]
def b4 : List S := [.setm 5 [] (.lst []), .set 6 [] (.lit (.int 0)), .set 7 [] (.lit (.int 0)), .set 8 [] (.lit (.int 0)), .for_ (.t [9, 10]) (.val (.var 4)) [] b4_0, .retm 5]
def d4 : Def := ⟨5, 18, b4⟩
/-- _law_cell_at -/
def b5 : List S := [.ifs (.cmp .lt (.var 1) (.bf .len [(.var 0)])) [.ret (.sub (.var 0) (.var 1))] [], .ret (.lit (.int 0))]
def d5 : Def := ⟨2, 2, b5⟩
/-- _law_spots -/
def b6_0 : List S := [.app 3 [] false (.tup [(.var 4), (.bin .add (.bin .mul (.lit (.int 5)) (.var 5)) (.bin .mod (.var 0) (.lit (.int 4)))), (.bin .add (.bin .add (.bin .add (.var 2) (.bf .str [(.var 4)])) (.lit (.str [45]))) (.bf .str [(.var 5)]))])]
def b6_1 : List S := [.for_ (.n 5) (.r1 (.bin .mod (.bin .fdiv (.var 0) (.bin .add (.lit (.int 3)) (.var 4))) (.lit (.int 3)))) [] b6_0]
def b6 : List S := [.setm 3 [] (.lst []), .for_ (.n 4) (.r1 (.var 1)) [] b6_1, .retm 3]
def d6 : Def := ⟨3, 6, b6⟩
/-- _law_rows -/
def b7_0 : List S := [.set 9 [] (.bin .fdiv (.var 5) (.bin .add (.lit (.int 11)) (.var 8))), .set 10 [3] (.bin .add (.bin .add (.lit (.str [110, 111, 116, 101])) (.bf .str [(.bf .len [(.mvar 3)])])) (.lit (.str [46]))), .app 3 [] false (.comp (.n 11) (.r1 (.bin .add (.lit (.int 1)) (.bin .mod (.var 9) (.lit (.int 3))))) [] (.tup [(.lit (.int 1)), (.call 6 [(.bin .fdiv (.var 9) (.bin .add (.lit (.int 3)) (.var 11))), (.lit (.int 1)), (.bin .add (.var 10) (.bf .str [(.var 11)]))]), (.lit (.int 0))]))]
def b7_1 : List S := [.set 5 [] (.bin .mod (.bin .mul (.bin .add (.call 5 [(.var 0), (.bin .add (.lit (.int 4)) (.bin .mod (.var 4) (.lit (.int 18))))]) (.bin .mul (.lit (.int 17)) (.var 4))) (.lit (.int 48271))) (.lit (.int 1000003))), .set 6 [] (.sub (.lst [(.lit (.int 1)), (.lit (.int 1)), (.lit (.int 1)), (.lit (.int 2)), (.lit (.int 3))]) (.bin .mod (.var 5) (.lit (.int 5)))), .set 7 [] (.sub (.lst [(.lit (.int 0)), (.lit (.int 0)), (.lit (.int 1)), (.lit (.int 0)), (.lit (.int 2))]) (.bin .mod (.bin .fdiv (.var 5) (.lit (.int 5))) (.lit (.int 5)))), .app 1 [] false (.tup [(.var 6), (.call 6 [(.bin .fdiv (.var 5) (.lit (.int 25))), (.var 6), (.bin .add (.bin .add (.lit (.str [114, 111, 119])) (.bf .str [(.var 4)])) (.lit (.str [46])))]), (.var 7)]), .app 2 [] false (.tup [(.sub (.lst [(.lit (.int 0)), (.lit (.int 1)), (.lit (.int 0)), (.lit (.int 2)), (.lit (.int 3))]) (.bin .mod (.bin .fdiv (.var 5) (.lit (.int 125))) (.lit (.int 5)))), (.var 6), (.lit (.int 0)), (.var 7)]), .for_ (.n 8) (.r1 (.var 7)) [] b7_0]
def b7 : List S := [.setm 1 [] (.lst []), .setm 2 [] (.lst []), .setm 3 [] (.lst []), .for_ (.n 4) (.r1 (.bin .mod (.call 5 [(.var 0), (.lit (.int 0))]) (.lit (.int 21)))) [] b7_1, .rett [(.mv 1), (.mv 2), (.mv 3)]]
def d7 : Def := ⟨1, 12, b7⟩
/-- _law_leaves -/
def b8_0 : List S := [.set 4 [2] (.bin .add (.call 5 [(.var 0), (.bin .add (.lit (.int 22)) (.bin .mod (.bf .len [(.mvar 2)]) (.lit (.int 12))))]) (.bin .mul (.lit (.int 5)) (.bf .len [(.mvar 2)]))), .set 5 [] (.bf .min [(.bf .len [(.var 1)]), (.bin .add (.bin .add (.var 3) (.lit (.int 1))) (.bin .mod (.var 4) (.lit (.int 6))))]), .set 6 [] (.bf .sum [(.comp (.n 8) (.val (.slice (.var 1) (some (.var 3)) (some (.var 5)))) [] (.sub (.var 8) (.lit (.int 3))))]), .set 7 [] (.ite (.cmp .lt (.var 5) (.bf .len [(.var 1)])) (.bin .mod (.bin .fdiv (.var 4) (.lit (.int 6))) (.bin .add (.var 6) (.lit (.int 1)))) (.lit (.int 0))), .app 2 [] false (.tup [(.var 5), (.var 7)]), .set 3 [] (.var 5)]
def b8 : List S := [.setm 2 [] (.lst []), .set 3 [] (.lit (.int 0)), .whl (.cmp .lt (.var 3) (.bf .len [(.var 1)])) b8_0, .retm 2]
def d8 : Def := ⟨2, 9, b8⟩
/-- _law_under -/
def b9_0 : List S := [.set 2 [] (.bin .add (.var 2) (.comp (.n 4) (.val (.sub (.var 3) (.lit (.int 1)))) [] (.tup [(.bin .add (.var 1) (.sub (.var 4) (.lit (.int 0)))), (.sub (.var 4) (.lit (.int 1))), (.sub (.var 4) (.lit (.int 2)))]))), .set 1 [] (.bin .add (.var 1) (.sub (.var 3) (.lit (.int 0))))]
def b9 : List S := [.set 2 [] (.lst []), .for_ (.n 3) (.val (.var 0)) [] b9_0, .ret (.tup [(.var 2), (.var 1)])]
def d9 : Def := ⟨2, 5, b9⟩
/-- _law_due -/
def b10_0 : List S := [.unp [17, 11] [] (.call 9 [(.lst [(.sub (.var 2) (.var 12))]), (.bin .add (.var 11) (.bin .mul (.sub (.sub (.var 1) (.var 12)) (.lit (.int 0))) (.bf .int [(.cmp .gt (.var 12) (.var 6))])))]), .set 10 [] (.bin .add (.var 10) (.var 17))]
def b10_1 : List S := [.set 14 [] (.bin .add (.var 14) (.var 15))]
def b10_2 : List S := [.set 10 [] (.lst []), .set 11 [] (.lit (.int 0)), .for_ (.n 12) (.r2 (.var 6) (.var 8)) [] b10_0, .set 13 [] (.bin .sub (.bf .sum [(.comp (.n 18) (.val (.slice (.var 1) none (some (.var 8)))) [] (.sub (.var 18) (.lit (.int 3))))]) (.var 9)), .set 14 [] (.lst []), .for_ (.n 15) (.val (.slice (.var 3) (some (.var 7)) (some (.var 13)))) [] b10_1, .ifs (.cmp .eq (.var 14) (.lst [])) [.app 5 [] false (.tup [(.var 10), (.lit .non), (.lst [])])] [.set 16 [] (.bf .max [(.var 11), (.bin .sub (.bin .sub (.sub (.var 0) (.lit (.str [104, 101, 105, 103, 104, 116]))) (.lit (.int 1))) (.bf .len [(.var 14)]))]), .app 5 [] false (.tup [(.var 10), (.var 16), (.sub (.call 9 [(.var 14), (.bin .add (.var 16) (.lit (.int 1)))]) (.lit (.int 0)))])], .set 6 [] (.var 8), .set 7 [] (.var 13)]
def b10 : List S := [.setm 5 [] (.lst []), .set 6 [] (.lit (.int 0)), .set 7 [] (.lit (.int 0)), .for_ (.t [8, 9]) (.val (.var 4)) [] b10_2, .retm 5]
def d10 : Def := ⟨5, 19, b10⟩
/-- _law_right -/
def b11_0 : List S := [.ifs (.or_ (.not_ (.isi (.var 2) [.tuple])) (.or_ (.not_ (.isi (.sub (.var 2) (.lit (.int 0))) [.list])) (.not_ (.isi (.sub (.var 2) (.lit (.int 2))) [.list])))) [.ret (.lit (.bl false))] [], .ifs (.or_ (.isi (.sub (.var 2) (.lit (.int 1))) [.bool]) (.not_ (.bf .all [(.comp (.n 3) (.val (.bin .add (.sub (.var 2) (.lit (.int 0))) (.sub (.var 2) (.lit (.int 2))))) [] (.isi (.var 3) [.tuple]))]))) [.ret (.lit (.bl false))] []]
def b11 : List S := [.ifs (.or_ (.not_ (.isi (.var 0) [.list])) (.cmp .ne (.var 0) (.var 1))) [.ret (.lit (.bl false))] [], .for_ (.n 2) (.val (.var 0)) [] b11_0, .ret (.lit (.bl true))]
def d11 : Def := ⟨2, 4, b11⟩
/-- _law_apart -/
def b12_0 : List S := [.app 3 [] false (.sub (.var 11) (.lit (.int 2))), .set 12 [] (.sub (.meth .part (.sub (.var 11) (.lit (.int 2))) [(.lit (.str [46]))]) (.lit (.int 0))), .ifsd 10 (.sub (.var 11) (.lit (.int 0))) (.var 12) (.var 12) (.cmp .eq (.sub (.var 11) (.lit (.int 0))) (.var 8)) [.ret (.lit (.bl false))]]
def b12_1 : List S := [.setm 10 [] (.dict0 false), .for_ (.n 11) (.val (.bin .add (.var 7) (.var 9))) [] b12_0, .ifs (.and_ (.cmp .isnot (.var 8) (.lit .non)) (.not_ (.bf .all [(.comp (.n 11) (.val (.var 7)) [] (.cmp .lt (.sub (.var 11) (.lit (.int 0))) (.var 8)))]))) [.ret (.lit (.bl false))] [], .ifs (.and_ (.cmp .isnot (.var 8) (.lit .non)) (.not_ (.bf .all [(.comp (.n 11) (.val (.var 9)) [] (.cmp .gt (.sub (.var 11) (.lit (.int 0))) (.var 8)))]))) [.ret (.lit (.bl false))] []]
def b12_2 : List S := [.set 4 [] (.bin .add (.var 4) (.comp (.n 11) (.val (.sub (.var 5) (.lit (.int 1)))) [] (.sub (.var 11) (.lit (.int 2)))))]
def b12_3 : List S := [.set 4 [] (.bin .add (.var 4) (.comp (.n 11) (.val (.sub (.var 5) (.lit (.int 1)))) [] (.sub (.var 11) (.lit (.int 2)))))]
def b12_4 : List S := [.for_ (.n 5) (.val (.var 6)) [] b12_3]
def b12 : List S := [.setm 3 [] (.lst []), .for_ (.t [7, 8, 9]) (.val (.var 0)) [] b12_1, .set 4 [] (.lst []), .for_ (.n 5) (.val (.var 1)) [] b12_2, .for_ (.n 6) (.val (.var 2)) [] b12_4, .ret (.cmp .eq (.bf .sorted [(.mvar 3)]) (.bf .sorted [(.var 4)]))]
def d12 : Def := ⟨3, 13, b12⟩
/-- law -/
def b13 : List S := [.unp [7, 8, 9] [] (.call 7 [(.var 0)]), .set 1 [] (.call 8 [(.var 0), (.var 8)]), .setm 2 [] (.dic [.inr [119, 105, 100, 116, 104], .inr [112, 97, 114, 116], .inr [116, 119, 105, 110], .inr [111, 118, 101, 114], .inr [108, 111, 110, 101], .inr [108, 97, 116, 101], .inr [103, 97, 112]] [(.lit (.int 40)), (.lit (.int 1)), (.lit (.int 2)), (.lit (.int 3)), (.lit (.int 4)), (.lit (.int 5)), (.lit (.int 1))]), .sto 2 [] (.lit (.str [104, 101, 105, 103, 104, 116])) false (.bin .add (.lit (.int 4)) (.bin .mod (.call 5 [(.var 0), (.lit (.int 1))]) (.lit (.int 11)))), .sto 2 [] (.lit (.str [97, 104, 101, 97, 100])) false (.lit (.int 2)), .sto 2 [] (.lit (.str [98, 101, 104, 105, 110, 100])) false (.lit (.int 2)), .set 3 [2] (.call 10 [(.mvar 2), (.var 8), (.var 7), (.var 9), (.var 1)]), .set 4 [2] (.lst [(.bf .dict [(.mvar 2)]), (.bf .list [(.var 8)]), (.bf .list [(.var 7)]), (.bf .list [(.var 9)]), (.bf .list [(.var 1)])]), .setm 5 [] (.call 4 [(.sub (.var 4) (.lit (.int 0))), (.sub (.var 4) (.lit (.int 1))), (.sub (.var 4) (.lit (.int 2))), (.sub (.var 4) (.lit (.int 3))), (.sub (.var 4) (.lit (.int 4)))]), .ifs (.or_ (.not_ (.call 11 [(.mvar 5), (.var 3)])) (.cmp .ne (.var 4) (.lst [(.mvar 2), (.var 8), (.var 7), (.var 9), (.var 1)]))) [.ret (.lit (.bl false))] [], .ifs (.not_ (.call 12 [(.mvar 5), (.var 7), (.var 9)])) [.ret (.lit (.bl false))] [], .fapp 5 [] 6 [([0], (.tup [(.lit (.int 0)), (.lit (.int 0)), (.lit (.str [109, 111, 114, 101]))])), ([2], (.tup [(.lit (.int 0)), (.lit (.int 0)), (.lit (.str [109, 111, 114, 101]))]))], .app 5 [] false (.tup [(.lst []), (.lit .non), (.lst [])]), .ret (.call 11 [(.call 4 [(.mvar 2), (.var 8), (.var 7), (.var 9), (.var 1)]), (.var 3)])]
def d13 : Def := ⟨1, 10, b13⟩

def fs : List Def := [d0, d1, d2, d3, d4, d5, d6, d7, d8, d9, d10, d11, d12, d13]
theorem tr_ok : trDefs (fnsFrom 0 QHead.tb) QHead.glo QHead.blt QHead.xt QHead.cms QHead.tb = some fs := by kernel_rfl
theorem cm_ok : ∀ x jm, QHead.cms.lookup x = some jm → CmOk (fnsFrom 0 QHead.tb) QHead.glo QHead.blt QHead.xt QHead.cms QHead.tb fs x jm := by
  intro x jm h
  have h := PySem.mem_of_lookup_some h
  have h : (x, jm) ∈ [] := h
  cases h
theorem xf_ok : ∀ x j tbl, (x, j, tbl) ∈ QHead.xt.trys → ∀ f v, (f, v) ∈ QHead.xt.xf x → XfOk QHead.blt QHead.tb tbl f v := by
  intro x j tbl h f v h2
  have h : (x, j, tbl) ∈ [] := h
  cases h
end K25

set_option maxHeartbeats 1000000
namespace Q

/-! ## what must hold ahead, for results and runs -/
@[irreducible] def W {α : Type} (x : R α) (P : α → Prop) (X : Ex → Prop) : Prop := match x with
  | .ok a => P a
  | .exc e => X e
  | .bad => False
@[irreducible] def T (x : RS) (P : Env → Fl → Prop) (X : Ex → Env → Prop) : Prop := match x with
  | .ok env f => P env f
  | .exc e env => X e env
  | .bad => False
theorem W_cg {α : Type} {x y : R α} {P : α → Prop} {X : Ex → Prop} (h : x = y) : W x P X = W y P X := by rw [h]
theorem T_cg {x y : RS} {P : Env → Fl → Prop} {X : Ex → Env → Prop} (h : x = y) : T x P X = T y P X := by rw [h]
local macro_rules | `(tactic| w_fin) => `(tactic| first | (unfold W T; rfl) | (unfold W; rfl) | (unfold T; rfl) | rfl)
theorem W_def {α : Type} {x : R α} {P : α → Prop} {X : Ex → Prop} : W x P X = match x with
  | .ok a => P a
  | .exc e => X e
  | .bad => False := by unfold W; rfl
theorem T_def {x : RS} {P : Env → Fl → Prop} {X : Ex → Env → Prop} : T x P X = match x with
  | .ok env f => P env f
  | .exc e env => X e env
  | .bad => False := by unfold T; rfl
def nX {α : Sort _} : Ex → α → Prop := fun _ _ => False
def nE : Ex → Prop := fun _ => False
section
variable {α β : Type} {P : α → Prop} {X : Ex → Prop}
theorem W_ok {a : α} : W (.ok a) P X = P a := by w_fin
theorem W_exc {e : Ex} : W (.exc e) P X = X e := by w_fin
theorem W_bad : W .bad P X = False := by w_fin
theorem W_b {x : R β} {f : β → R α} : W (x.b f) P X = W x (fun b => W (f b) P X) X := by cases x <;> w_fin
theorem W_ite {c : Prop} [Decidable c] {x y : R α} : W (if c then x else y) P X = ((c → W x P X) ∧ (¬ c → W y P X)) := by
  by_cases h : c <;> simp [h]
theorem W_grd {c : Prop} [Decidable c] {x : R α} : W (if c then x else .bad) P X = (c ∧ W x P X) := by
  by_cases h : c <;> simp [h, W_def]
theorem W_mono {x : R α} {P' : α → Prop} {X' : Ex → Prop} (h : W x P X) (hp : ∀ a, P a → P' a) (hx : ∀ e, X e → X' e) : W x P' X' := by
  rw [W_def] at h ⊢
  cases x with
  | ok a => exact hp a h
  | exc e => exact hx e h
  | bad => exact h
theorem W_imp {x : R α} {P' : α → Prop} (h : W x P X) (hp : ∀ a, P a → P' a) : W x P' X := W_mono h hp fun _ q => q
theorem W_nE {x : R α} {P' : α → Prop} (h : W x P nE) (hp : ∀ a, P a → P' a) : W x P' X := W_mono h hp fun _ q => q.elim
theorem W_eq {x : R α} {a : α} (h : x = .ok a) : W x P X = P a := by rw [h]; w_fin
theorem W_to {x : R α} (h : W x P nE) : ∃ a, x = .ok a ∧ P a := by
  rw [W_def] at h
  cases x with
  | ok a => exact ⟨a, rfl, h⟩
  | exc e => exact h.elim
  | bad => exact h.elim
theorem W_toE {x : R α} {a : α} (h : W x (fun b => b = a) nE) : x = .ok a := by
  obtain ⟨b, e, rfl⟩ := W_to h
  exact e
theorem W_of {x : R α} {a : α} (h : x = .ok a) (hp : P a) : W x P X := by rw [h, W_def]; exact hp
theorem W_q {x : R α} : W x.quiet P X = W x P nE := by cases x <;> w_fin
end
section
variable {P : Env → Fl → Prop} {X : Ex → Env → Prop}
theorem T_ok {env : Env} {f : Fl} : T (.ok env f) P X = P env f := by w_fin
theorem T_exc {env : Env} {e : Ex} : T (.exc e env) P X = X e env := by w_fin
theorem T_bad : T .bad P X = False := by w_fin
/-- on with what stands behind -/
def onw (P : Env → Fl → Prop) (Pn : Env → Prop) : Env → Fl → Prop := fun env f => match f with
  | .nx => Pn env
  | f => P env f
theorem onw_nx {Pn : Env → Prop} {env : Env} : onw P Pn env .nx = Pn env := (rfl)
theorem onw_rt {Pn : Env → Prop} {env : Env} {d : D} : onw P Pn env (.rt d) = P env (.rt d) := (rfl)
theorem onw_bk {Pn : Env → Prop} {env : Env} : onw P Pn env .bk = P env .bk := (rfl)
theorem onw_ct {Pn : Env → Prop} {env : Env} : onw P Pn env .ct = P env .ct := (rfl)
theorem T_b {x : RS} {f : Env → RS} : T (x.b f) P X = T x (onw P fun env => T (f env) P X) X := by
  cases x with
  | ok env f => cases f <;> w_fin
  | exc e env => w_fin
  | bad => w_fin
theorem T_s {α : Type} {x : R α} {env : Env} {f : α → RS} : T (x.s env f) P X = W x (fun a => T (f a) P X) (fun e => X e env) := by
  cases x <;> w_fin
theorem T_ite {c : Prop} [Decidable c] {x y : RS} : T (if c then x else y) P X = ((c → T x P X) ∧ (¬ c → T y P X)) := by
  by_cases h : c <;> simp [h, T_def]
theorem T_grd {c : Prop} [Decidable c] {x : RS} : T (if c then x else .bad) P X = (c ∧ T x P X) := by
  by_cases h : c <;> simp [h, T_def]
theorem T_mono {x : RS} {P' : Env → Fl → Prop} (h : T x P X) (hp : ∀ env f, P env f → P' env f) : T x P' X := by
  rw [T_def] at h ⊢
  cases x with
  | ok env f => exact hp env f h
  | exc e env => exact h
  | bad => exact h
end
section
variable {C : Nat → List D → R D} {N : Nat} {e0 : Option D} {en : Env} {P : Env → Fl → Prop} {X : Ex → Env → Prop} {Pd : D → Prop} {Xe : Ex → Prop} {Pl : List D → Prop} {Pb : Bool → Prop} {Pi : Int → Prop} {Po : Option Int → Prop}
/-! statements -/
theorem t_nil : T (evSs C N [] (e0 :: en)) P X = P (e0 :: en) .nx := by w_fin
theorem t_cons {s : S} {r : List S} : T (evSs C N (s :: r) (e0 :: en)) P X = T (evS C N s (e0 :: en)) (onw P fun env' => T (evSs C N r env') P X) X := by
  rw [y_cons, T_b]
theorem t_one {s : S} : T (evSs C N [s] (e0 :: en)) P X = T (evS C N s (e0 :: en)) P X := by
  rw [t_cons]
  congr 1
  funext e f
  cases f <;> w_fin
def stE (z : List Nat) (d : D) (e : Env) : Env := if z.isEmpty || noSh d then e else frz z e
theorem stE_nil {d : D} {e : Env} : stE [] d e = e := (rfl)
theorem stE_cons {a : Nat} {z : List Nat} {d : D} {e : Env} : stE (a :: z) d e = if noSh d then e else frz (a :: z) e := (rfl)
theorem t_set {i : Nat} {z : List Nat} {e : E} : T (evS C N (.set i z e) (e0 :: en)) P X = W (ev C e (e0 :: en)) (fun d => P ((stE z d (e0 :: en)).set i (some (sh d))) .nx) (fun x => X x (e0 :: en)) := by
  rw [y_set, T_s]; w_fin
theorem t_setm {i : Nat} {z : List Nat} {e : E} : T (evS C N (.setm i z e) (e0 :: en)) P X = W (ev C e (e0 :: en)) (fun d => P ((stE z d (e0 :: en)).set i (some d)) .nx) (fun x => X x (e0 :: en)) := by
  rw [y_setm, T_s]; w_fin
theorem t_unp {is z : List Nat} {e : E} : T (evS C N (.unp is z e) (e0 :: en)) P X = W (ev C e (e0 :: en)) (fun d => W (bindP (.t is) d (stE z d (e0 :: en))) (fun env' => P env' .nx) (fun x => X x (e0 :: en))) (fun x => X x (e0 :: en)) := by
  rw [y_unp, T_s]
  congr 1
  funext d
  rw [T_s]; w_fin
theorem t_app {i : Nat} {p : List E} {z : Bool} {e : E} : T (evS C N (.app i p z e) (e0 :: en)) P X = W (evs C p (e0 :: en)) (fun ks => pathOk i ks (e0 :: en) = true ∧ W (ev C e (e0 :: en)) (fun d => (!z || noSh d) = true ∧ T (upd1 (appD d) i ks (e0 :: en)) P X) (fun x => X x (e0 :: en))) nE := by
  rw [y_app, T_s, W_q]
  congr 1
  funext d
  rw [T_grd, T_s]
  congr 2
  funext d
  rw [T_grd]
theorem t_apz {i : Nat} {p : List E} {z : List Nat} {e : E} : T (evS C N (.apz i p z e) (e0 :: en)) P X = W (evs C p (e0 :: en)) (fun ks => pathOk i ks (e0 :: en) = true ∧ W (ev C e (e0 :: en)) (fun d => T (upd1 (appD d) i ks (stE z d (e0 :: en))) P X) (fun x => X x (e0 :: en))) nE := by
  rw [y_apz, T_s, W_q]
  congr 1
  funext d
  rw [T_grd, T_s]
  congr 2
theorem t_sto {i : Nat} {p : List E} {z : Bool} {k e : E} : T (evS C N (.sto i p k z e) (e0 :: en)) P X = W (ev C e (e0 :: en)) (fun d => W (evs C p (e0 :: en)) (fun ks => W (ev C k (e0 :: en)) (fun q => (!z || noSh d) = true ∧ T (upd1 (stoD q d) i ks (e0 :: en)) P X) nE) nE) (fun x => X x (e0 :: en)) := by
  rw [y_sto, T_s]
  congr 1
  funext d
  rw [T_s, W_q]
  congr 1
  funext d
  rw [T_s, W_q]
  congr 1
  funext d
  rw [T_grd]
def extS (d : D) (i : Nat) (ks : List D) (z : Bool) (e : Env) : RS := match d with
  | .lst o xs => if o ≠ .f && (!z || noShs xs) then upd1 (extD (shs xs)) i ks e else .bad
  | .tup xs => if !z || noShs xs then upd1 (extD (shs xs)) i ks e else .bad
  | _ => .bad
theorem t_ext {i : Nat} {p : List E} {z : Bool} {e : E} : T (evS C N (.ext i p z e) (e0 :: en)) P X = W (evs C p (e0 :: en)) (fun ks => pathOk i ks (e0 :: en) = true ∧ W (ev C e (e0 :: en)) (fun d => T (extS d i ks z (e0 :: en)) P X) (fun x => X x (e0 :: en))) nE := by
  show T ((evs C p (e0 :: en)).quiet.s (e0 :: en) fun ks => if pathOk i ks (e0 :: en) then (ev C e (e0 :: en)).s (e0 :: en) fun d => extS d i ks z (e0 :: en) else .bad) P X = _
  rw [T_s, W_q]
  congr 1
  funext d
  rw [T_grd, T_s]
theorem t_extS {o : O} {xs : List D} {i : Nat} {ks : List D} {z : Bool} : T (extS (.lst o xs) i ks z (e0 :: en)) P X = ((o ≠ .f && (!z || noShs xs)) = true ∧ T (upd1 (extD (shs xs)) i ks (e0 :: en)) P X) := by
  show T (if _ then _ else .bad) P X = _
  rw [T_grd]
theorem t_extT {xs : List D} {i : Nat} {ks : List D} {z : Bool} : T (extS (.tup xs) i ks z (e0 :: en)) P X = ((!z || noShs xs) = true ∧ T (upd1 (extD (shs xs)) i ks (e0 :: en)) P X) := by
  show T (if _ then _ else .bad) P X = _
  rw [T_grd]
theorem t_popu {is : List Nat} {i : Nat} : T (evS C N (.popu is i) (e0 :: en)) P X = ∃ ds x, (e0 :: en)[i]? = some (some (.lst .w ds)) ∧ ds.getLast? = some x ∧ W (bindP (.t is) (sh x) ((e0 :: en).set i (some (.lst .w (shs ds.dropLast))))) (fun env' => P env' .nx) (fun x => X x (e0 :: en)) := by
  show T (popS is i (e0 :: en)) P X = _
  unfold popS
  apply propext
  constructor
  · intro h
    split at h
    · rename_i ds e
      split at h
      · rename_i x ex
        refine ⟨ds, x, e, ex, ?_⟩
        rw [T_s] at h
        simpa only [T_ok] using h
      · rw [T_bad] at h; exact h.elim
    · rw [T_bad] at h; exact h.elim
  · rintro ⟨ds, x, e, ex, h⟩
    rw [e]
    show T (match ds.getLast? with
      | some x => _
      | none => RS.bad) P X
    rw [ex]
    show T ((bindP (.t is) (sh x) ((e0 :: en).set i (some (.lst .w (shs ds.dropLast))))).s (e0 :: en) fun env' => .ok env' .nx) P X
    rw [T_s]
    simpa only [T_ok] using h
theorem t_clr {i : Nat} {p : List E} : T (evS C N (.clr i p) (e0 :: en)) P X = W (evs C p (e0 :: en)) (fun ks => T (upd1 clrD i ks (e0 :: en)) P X) nE := by
  show T ((evs C p (e0 :: en)).quiet.s (e0 :: en) fun ks => upd1 clrD i ks (e0 :: en)) P X = _
  rw [T_s, W_q]
theorem t_pop0 {i : Nat} {p : List E} : T (evS C N (.pop0 i p) (e0 :: en)) P X = W (evs C p (e0 :: en)) (fun ks => T (upd1 pop0D i ks (e0 :: en)) P X) nE := by
  show T ((evs C p (e0 :: en)).quiet.s (e0 :: en) fun ks => upd1 pop0D i ks (e0 :: en)) P X = _
  rw [T_s, W_q]
theorem t_stot {i : Nat} {p : List E} {e : E} : T (evS C N (.stot i p e) (e0 :: en)) P X = W (ev C e (e0 :: en)) (fun d => W (evs C p (e0 :: en)) (fun ks => flatD d = true ∧ T (upd1 (stoT ks) i [] (e0 :: en)) P X) nE) (fun x => X x (e0 :: en)) := by
  show T ((ev C e (e0 :: en)).s (e0 :: en) fun d => (evs C p (e0 :: en)).quiet.s (e0 :: en) fun ks => if flatD d then upd1 (stoT ks) i [] (e0 :: en) else .bad) P X = _
  rw [T_s]
  congr 1
  funext d
  rw [T_s, W_q]
  congr 1
  funext ks
  rw [T_grd]
theorem t_upd {i : Nat} {p : List E} {z : Bool} {e : E} : T (evS C N (.upd i p z e) (e0 :: en)) P X = W (evs C p (e0 :: en)) (fun ks => W (ev C e (e0 :: en)) (fun d => T (updS d i ks z (e0 :: en)) P X) nE) nE := by
  show T ((evs C p (e0 :: en)).quiet.s (e0 :: en) fun ks => (ev C e (e0 :: en)).quiet.s (e0 :: en) fun d => updS d i ks z (e0 :: en)) P X = _
  rw [T_s, W_q]
  congr 1
  funext ks
  rw [T_s, W_q]
theorem t_updS {o : O} {xs : List (Ky × D)} {i : Nat} {ks : List D} {z : Bool} : T (updS (.dic o xs) i ks z (e0 :: en)) P X = ((!z || (o.no && noShk xs)) = true ∧ T (upd1 (updD (shk xs)) i ks (e0 :: en)) P X) := by
  show T (if _ then _ else .bad) P X = _
  rw [T_grd]
theorem t_exp {e : E} : T (evS C N (.exp e) (e0 :: en)) P X = W (ev C e (e0 :: en)) (fun _ => P (e0 :: en) .nx) (fun x => X x (e0 :: en)) := by
  rw [y_exp, T_s]; w_fin
def wB (P : Bool → Prop) : D → Prop := fun d => match d with
  | .bl b => P b
  | _ => False
def wI (P : Int → Prop) : D → Prop := fun d => match d with
  | .int b => P b
  | _ => False
theorem wB_bl {P : Bool → Prop} {b : Bool} : wB P (.bl b) = P b := (rfl)
theorem wI_int {P : Int → Prop} {b : Int} : wI P (.int b) = P b := (rfl)
theorem W_asB {x : R D} : W (asB x) Pb Xe = W x (wB Pb) Xe := by
  cases x with
  | ok d => cases d <;> w_fin
  | exc e => w_fin
  | bad => w_fin
theorem W_asI {x : R D} : W (asI x) Pi Xe = W x (wI Pi) Xe := by
  cases x with
  | ok d => cases d <;> w_fin
  | exc e => w_fin
  | bad => w_fin
theorem W_ofB {x : R Bool} : W (ofB x) Pd Xe = W x (fun b => Pd (.bl b)) Xe := by cases x <;> w_fin
theorem t_ifs {c : E} {a b : List S} : T (evS C N (.ifs c a b) (e0 :: en)) P X = W (ev C c (e0 :: en)) (wB fun t => (t = true → T (evSs C N a (e0 :: en)) P X) ∧ (¬ t = true → T (evSs C N b (e0 :: en)) P X)) (fun x => X x (e0 :: en)) := by
  rw [y_ifs, T_s, W_asB]
  congr 2
  funext t
  exact T_ite
def forB (C : Nat → List D → R D) (N : Nat) (p : _root_.Q.P) (b : List S) : D → Env → RS := fun d e => (bindP p d e).s e fun env' => evSs C N b env'
theorem t_for {p : _root_.Q.P} {it : It} {z : List Nat} {b : List S} : T (evS C N (.for_ p it z b) (e0 :: en)) P X = W (evi C it (e0 :: en)) (fun ds => T (loopL (forB C N p b) ds (frz z (e0 :: en))) P X) (fun x => X x (e0 :: en)) := by
  rw [y_for, T_s]; w_fin
theorem t_forB {p : _root_.Q.P} {b : List S} {d : D} : T (forB C N p b d (e0 :: en)) P X = W (bindP p d (e0 :: en)) (fun env' => T (evSs C N b env') P X) (fun x => X x (e0 :: en)) := by
  show T ((bindP p d (e0 :: en)).s (e0 :: en) _) P X = _
  rw [T_s]
theorem t_forh {p : _root_.Q.P} {i : Nat} {b : List S} : T (evS C N (.forh p i b) (e0 :: en)) P X = ∃ ds, (e0 :: en)[i]? = some (some (.lst .w ds)) ∧ ds.all flI = true ∧ T (loopL (forB C N p b) ds ((e0 :: en).set i none)) (onw P fun env' => P (env'.set i (some (.lst .w ds))) .nx) X := by
  show T (match (e0 :: en)[i]? with
    | some (some (.lst .w ds)) => if ds.all flI then (loopL (forB C N p b) ds ((e0 :: en).set i none)).b fun env' => .ok (env'.set i (some (.lst .w ds))) .nx else .bad
    | _ => .bad) P X = _
  apply propext
  constructor
  · intro h
    split at h
    · rename_i ds e
      rw [T_grd, T_b] at h
      refine ⟨ds, e, h.1, ?_⟩
      simpa only [T_ok] using h.2
    · rw [T_bad] at h; exact h.elim
  · rintro ⟨ds, e, hf, h⟩
    rw [e]
    show T (if ds.all flI then (loopL (forB C N p b) ds ((e0 :: en).set i none)).b fun env' => .ok (env'.set i (some (.lst .w ds))) .nx else .bad) P X
    rw [T_grd, T_b]
    refine ⟨hf, ?_⟩
    simpa only [T_ok] using h
theorem t_unpm {i j : Nat} {e : E} : T (evS C N (.unpm i j e) (e0 :: en)) P X = W (ev C e (e0 :: en)) (fun d => T (unpmS i j d (e0 :: en)) P X) (fun x => X x (e0 :: en)) := by
  show T ((ev C e (e0 :: en)).s (e0 :: en) fun d => unpmS i j d (e0 :: en)) P X = _
  rw [T_s]
theorem t_unpmS {i j : Nat} {x y : D} : T (unpmS i j (.tup [x, y]) (e0 :: en)) P X = (i ≠ j ∧ P (((e0 :: en).set i (some x)).set j (some (sh y))) .nx) := by
  show T (if i ≠ j then .ok (((e0 :: en).set i (some x)).set j (some (sh y))) .nx else .bad) P X = _
  rw [T_grd, T_ok]
theorem t_appm {i : Nat} {es : List Re} : T (evS C N (.appm i es) (e0 :: en)) P X = W (evr C (e0 :: en) es) (fun ds => ((mvs es).contains i = false ∧ ds.length ≤ 1000) ∧ T (upd1 (appD (.tup ds)) i [] (offs (mvs es) (e0 :: en))) P X) nE := by
  show T ((evr C (e0 :: en) es).quiet.s (e0 :: en) fun ds => if (mvs es).contains i = false ∧ ds.length ≤ 1000 then upd1 (appD (.tup ds)) i [] (offs (mvs es) (e0 :: en)) else .bad) P X = _
  rw [T_s, W_q]
  congr 1
  funext ds
  rw [T_grd]
theorem mvs_nil : mvs [] = [] := (rfl)
theorem mvs_e {e : E} {r : List Re} : mvs (.e e :: r) = mvs r := (rfl)
theorem mvs_m {i : Nat} {r : List Re} : mvs (.mv i :: r) = i :: mvs r := (rfl)
theorem offs_nil {env : Env} : offs [] env = env := (rfl)
theorem offs_cons {i : Nat} {z : List Nat} {env : Env} : offs (i :: z) env = offs z (env.set i none) := (rfl)
def sdB (C : Nat → List D → R D) (N : Nat) (x c : E) (a : List S) (w : D) (env : Env) : RS := (ev C x env).quiet.s env fun xd => (cmpop .ne w xd).s env fun t => if t then evSs C N a env else (asB (ev C c env)).s env fun t2 => if t2 then evSs C N a env else .ok env .nx
theorem t_ifsd {i : Nat} {k v x c : E} {a : List S} : T (evS C N (.ifsd i k v x c a) (e0 :: en)) P X = W (ev C k (e0 :: en)) (fun kd => W (ev C v (e0 :: en)) (fun vd => T (sdS kd vd i (e0 :: en) (sdB C N x c a)) P X) nE) nE := by
  show T ((ev C k (e0 :: en)).quiet.s (e0 :: en) fun kd => (ev C v (e0 :: en)).quiet.s (e0 :: en) fun vd => sdS kd vd i (e0 :: en) (sdB C N x c a)) P X = _
  rw [T_s, W_q]
  congr 1
  funext kd
  rw [T_s, W_q]
theorem T_sdS {k v d : D} {p : D × D} {i : Nat} {env : Env} {f : D → Env → RS} (h1 : env[i]? = some (some d)) (h2 : sdD k v d = some p) : T (sdS k v i env f) P X = T (f p.1 (env.set i (some p.2))) P X := by
  unfold sdS
  rw [h1]
  dsimp only
  rw [h2]
theorem t_sdB {x c : E} {a : List S} {w : D} : T (sdB C N x c a w (e0 :: en)) P X = W (ev C x (e0 :: en)) (fun xd => W (cmpop .ne w xd) (fun t => (t = true → T (evSs C N a (e0 :: en)) P X) ∧ (¬ t = true → W (ev C c (e0 :: en)) (wB fun t2 => (t2 = true → T (evSs C N a (e0 :: en)) P X) ∧ (¬ t2 = true → P (e0 :: en) .nx)) (fun x => X x (e0 :: en)))) (fun x => X x (e0 :: en))) nE := by
  unfold sdB
  rw [T_s, W_q]
  congr 1
  funext xd
  rw [T_s]
  congr 1
  funext t
  rw [T_ite, T_s, W_asB]
  simp only [T_ite, T_ok]
theorem t_whl {c : E} {b : List S} : T (evS C N (.whl c b) (e0 :: en)) P X = T (loopW (fun e => asB (ev C c e)) (fun e => evSs C N b e) N (e0 :: en)) P X := by w_fin
theorem t_ret {e : E} : T (evS C N (.ret e) (e0 :: en)) P X = W (ev C e (e0 :: en)) (fun d => P (e0 :: en) (.rt d)) (fun x => X x (e0 :: en)) := by
  rw [y_ret, T_s]; w_fin
theorem t_retm {i : Nat} : T (evS C N (.retm i) (e0 :: en)) P X = W (look (e0 :: en) i) (fun d => P (e0 :: en) (.rt d)) (fun x => X x (e0 :: en)) := by
  rw [y_retm, T_s]; w_fin
theorem t_rett {es : List Re} : T (evS C N (.rett es) (e0 :: en)) P X = W (evr C (e0 :: en) es) (fun ds => P (e0 :: en) (.rt (.tup ds))) (fun x => X x (e0 :: en)) := by
  show T ((evr C (e0 :: en) es).s (e0 :: en) fun ds => .ok (e0 :: en) (.rt (.tup ds))) P X = _
  rw [T_s]; w_fin
theorem t_pass : T (evS C N .pass (e0 :: en)) P X = P (e0 :: en) .nx := by w_fin
theorem t_brk : T (evS C N .brk (e0 :: en)) P X = P (e0 :: en) .bk := by w_fin
theorem t_cont : T (evS C N .cont (e0 :: en)) P X = P (e0 :: en) .ct := by w_fin
/-! expressions -/
theorem w_lit {d : D} : W (ev C (.lit d) (e0 :: en)) Pd Xe = Pd d := by w_fin
theorem w_var {i : Nat} : W (ev C (.var i) (e0 :: en)) Pd Xe = W (look (e0 :: en) i) Pd Xe := by w_fin
theorem w_mvar {i : Nat} : W (ev C (.mvar i) (e0 :: en)) Pd Xe = W (look (e0 :: en) i) (fun d => Pd (sh d)) Xe := by rw [x_mvar, W_b]; w_fin
theorem w_look0 {d : D} : W (look (some d :: en) 0) Pd Xe = Pd d := by w_fin
theorem w_lookS {n : Nat} : W (look (e0 :: en) (n + 1)) Pd Xe = W (look en n) Pd Xe := by w_fin
theorem w_bin {o : BO} {a b : E} : W (ev C (.bin o a b) (e0 :: en)) Pd Xe = W (ev C a (e0 :: en)) (fun x => W (ev C b (e0 :: en)) (fun y => W (binop o x y) Pd Xe) Xe) Xe := by
  rw [x_bin, W_b]; congr 1; funext x; rw [W_b]
theorem w_neg {a : E} : W (ev C (.neg a) (e0 :: en)) Pd Xe = W (ev C a (e0 :: en)) (wI fun i => Pd (.int (-i))) Xe := by rw [x_neg, W_b, W_asI]; w_fin
theorem w_cmp {o : CO} {a b : E} : W (ev C (.cmp o a b) (e0 :: en)) Pd Xe = W (ev C a (e0 :: en)) (fun x => W (ev C b (e0 :: en)) (fun y => W (cmpop o x y) (fun b => Pd (.bl b)) Xe) Xe) Xe := by
  rw [x_cmp, W_b]; congr 1; funext x; rw [W_b]; congr 1; funext y; rw [W_ofB]
theorem w_chain {o o' : CO} {a b c : E} : W (ev C (.chain o o' a b c) (e0 :: en)) Pd Xe = W (ev C a (e0 :: en)) (fun x => W (ev C b (e0 :: en)) (fun y => W (cmpop o x y) (fun t => (t = true → W (ev C c (e0 :: en)) (fun z => W (cmpop o' y z) (fun b => Pd (.bl b)) Xe) Xe) ∧ (¬ t = true → Pd (.bl false))) Xe) Xe) Xe := by
  rw [x_chain, W_b]; congr 1; funext x; rw [W_b]; congr 1; funext y; rw [W_b]; congr 1; funext t; rw [W_ite, W_b, W_ok]; congr 3; funext z; rw [W_ofB]
theorem w_and {a b : E} : W (ev C (.and_ a b) (e0 :: en)) Pd Xe = W (ev C a (e0 :: en)) (wB fun t => (t = true → W (ev C b (e0 :: en)) (wB fun s => Pd (.bl s)) Xe) ∧ (¬ t = true → Pd (.bl false))) Xe := by
  rw [x_and, W_b, W_asB]; congr 2; funext x; rw [W_ite, W_ofB, W_asB]; w_fin
theorem w_or {a b : E} : W (ev C (.or_ a b) (e0 :: en)) Pd Xe = W (ev C a (e0 :: en)) (wB fun t => (t = true → Pd (.bl true)) ∧ (¬ t = true → W (ev C b (e0 :: en)) (wB fun s => Pd (.bl s)) Xe)) Xe := by
  rw [x_or, W_b, W_asB]; congr 2; funext x; rw [W_ite, W_ofB, W_asB]; w_fin
theorem w_not {a : E} : W (ev C (.not_ a) (e0 :: en)) Pd Xe = W (ev C a (e0 :: en)) (wB fun t => Pd (.bl (!t))) Xe := by
  rw [x_not, W_b, W_asB]; w_fin
theorem w_iteE {c a b : E} : W (ev C (.ite c a b) (e0 :: en)) Pd Xe = W (ev C c (e0 :: en)) (wB fun t => (t = true → W (ev C a (e0 :: en)) Pd Xe) ∧ (¬ t = true → W (ev C b (e0 :: en)) Pd Xe)) Xe := by
  rw [x_ite, W_b, W_asB]; congr 2; funext x; rw [W_ite]
theorem w_call {f : Nat} {es : List E} : W (ev C (.call f es) (e0 :: en)) Pd Xe = W (evs C es (e0 :: en)) (fun ds => W (C f (shs ds)) Pd Xe) Xe := by rw [x_call, W_b]
theorem w_callo {f : Nat} {es : List E} : W (ev C (.callo f es) (e0 :: en)) Pd Xe = W (evs C es (e0 :: en)) (fun ds => W (C f (ownA ds)) Pd Xe) Xe := by
  show W ((evs C es (e0 :: en)).b fun ds => C f (ownA ds)) Pd Xe = _
  rw [W_b]
theorem ownA_c {d : D} {r : List D} : ownA (d :: r) = d :: shs r := (rfl)
theorem w_call0 {f : Nat} : W (ev C (.call0 f) (e0 :: en)) Pd Xe = W (C f []) Pd nE := by rw [x_call0, W_q]
theorem w_bf {f : BF} {es : List E} : W (ev C (.bf f es) (e0 :: en)) Pd Xe = W (evs C es (e0 :: en)) (fun ds => W (bfun f ds) Pd Xe) Xe := by rw [x_bf, W_b]
theorem w_meth {f : MF} {o : E} {es : List E} : W (ev C (.meth f o es) (e0 :: en)) Pd Xe = W (ev C o (e0 :: en)) (fun x => W (evs C es (e0 :: en)) (fun ds => W (mfun f x ds) Pd Xe) nE) Xe := by
  show W ((ev C o (e0 :: en)).b fun x => (evs C es (e0 :: en)).quiet.b fun ds => mfun f x ds) Pd Xe = _
  rw [W_b]; congr 1; funext x; rw [W_b, W_q]
theorem w_fstr {es : List E} : W (ev C (.fstr es) (e0 :: en)) Pd Xe = W (evs C es (e0 :: en)) (fun ds => W (fmts ds) (fun s => Pd (.str s)) Xe) nE := by
  show W ((evs C es (e0 :: en)).quiet.b fun ds => (fmts ds).b fun s => .ok (.str s)) Pd Xe = _
  rw [W_b, W_q]; congr 1; funext x; rw [W_b]; w_fin
theorem w_isi {a : E} {ts : List Ty} : W (ev C (.isi a ts) (e0 :: en)) Pd Xe = W (ev C a (e0 :: en)) (fun x => isOk x = true ∧ Pd (.bl (ts.any (isTy x)))) Xe := by
  rw [x_isi, W_b]
  congr 1
  funext x
  rw [W_grd, W_ok]
theorem ok_int {i : Int} : isOk (.int i) = true := (rfl)
theorem ok_bl {i : Bool} : isOk (.bl i) = true := (rfl)
theorem ok_str {i : Cs} : isOk (.str i) = true := (rfl)
theorem ok_non : isOk .non = true := (rfl)
theorem ok_tup {i : List D} : isOk (.tup i) = true := (rfl)
theorem ok_lst {o : O} {i : List D} : isOk (.lst o i) = true := (rfl)
theorem ok_dic {o : O} {i : List (Ky × D)} : isOk (.dic o i) = true := (rfl)
theorem ok_ptu {i : List (Cs × Int)} : isOk (.ptu i) = true := (rfl)
theorem w_sub {a i : E} : W (ev C (.sub a i) (e0 :: en)) Pd Xe = W (ev C a (e0 :: en)) (fun x => W (ev C i (e0 :: en)) (fun y => W (getD x y) Pd Xe) Xe) Xe := by
  rw [x_sub, W_b]; congr 1; funext x; rw [W_b]
theorem w_slice {a : E} {lo hi : Option E} : W (ev C (.slice a lo hi) (e0 :: en)) Pd Xe = W (ev C a (e0 :: en)) (fun x => W (evo C lo (e0 :: en)) (fun l => W (evo C hi (e0 :: en)) (fun h => W (slic x l h) Pd Xe) Xe) Xe) Xe := by
  rw [x_slice, W_b]; congr 1; funext x; rw [W_b]; congr 1; funext l; rw [W_b]
theorem w_rev {a : E} : W (ev C (.rev a) (e0 :: en)) Pd Xe = W (ev C a (e0 :: en)) (fun x => W (revv x) Pd Xe) Xe := by
  show W ((ev C a (e0 :: en)).b revv) Pd Xe = _
  rw [W_b]
theorem w_tup {es : List E} : W (ev C (.tup es) (e0 :: en)) Pd Xe = W (evs C es (e0 :: en)) (fun ds => Pd (.tup ds)) Xe := by rw [x_tup, W_b]; w_fin
theorem w_lst {es : List E} : W (ev C (.lst es) (e0 :: en)) Pd Xe = W (evs C es (e0 :: en)) (fun ds => Pd (.lst .w ds)) Xe := by rw [x_lst, W_b]; w_fin
theorem w_dic {ks : List Ky} {es : List E} : W (ev C (.dic ks es) (e0 :: en)) Pd Xe = W (evs C es (e0 :: en)) (fun ds => Pd (.dic .w (mergeD [] (ks.zip ds)))) Xe := by rw [x_dic, W_b]; w_fin
theorem w_dict0 {t : Bool} : W (ev C (.dict0 t) (e0 :: en)) Pd Xe = Pd (if t then .dct .w [] else .dic .w []) := by w_fin
theorem w_comp {p : _root_.Q.P} {it : It} {cs : List E} {e : E} : W (ev C (.comp p it cs e) (e0 :: en)) Pd Xe = W (evi C it (e0 :: en)) (fun ds => W (compL (stepC C p cs e (e0 :: en)) ds) (fun xs => Pd (.lst .w xs)) Xe) Xe := by
  rw [x_comp, W_b]; congr 1; funext ds; rw [W_b]; w_fin
theorem w_nil : W (evs C [] (e0 :: en)) Pl Xe = Pl [] := by w_fin
theorem w_cons {e : E} {r : List E} : W (evs C (e :: r) (e0 :: en)) Pl Xe = W (ev C e (e0 :: en)) (fun x => W (evs C r (e0 :: en)) (fun xs => Pl (x :: xs)) Xe) Xe := by
  rw [x_cons, W_b]; congr 1; funext x; rw [W_b]; w_fin
theorem w_rnil : W (evr C (e0 :: en) []) Pl Xe = Pl [] := by w_fin
theorem w_re {e : E} {r : List Re} : W (evr C (e0 :: en) (.e e :: r)) Pl Xe = W (ev C e (e0 :: en)) (fun x => W (evr C (e0 :: en) r) (fun xs => Pl (x :: xs)) Xe) Xe := by
  show W ((ev C e (e0 :: en)).b fun x => (evr C (e0 :: en) r).b fun xs => .ok (x :: xs)) Pl Xe = _
  rw [W_b]; congr 1; funext x; rw [W_b]; w_fin
theorem w_rm {i : Nat} {r : List Re} : W (evr C (e0 :: en) (.mv i :: r)) Pl Xe = W (look (e0 :: en) i) (fun x => W (evr C (e0 :: en) r) (fun xs => Pl (x :: xs)) Xe) Xe := by
  show W ((look (e0 :: en) i).b fun x => (evr C (e0 :: en) r).b fun xs => .ok (x :: xs)) Pl Xe = _
  rw [W_b]; congr 1; funext x; rw [W_b]; w_fin
theorem w_onone : W (evo C none (e0 :: en)) Po Xe = Po none := by w_fin
theorem w_osome {e : E} : W (evo C (some e) (e0 :: en)) Po Xe = W (ev C e (e0 :: en)) (wI fun i => Po (some i)) Xe := by rw [x_osome, W_b, W_asI]; w_fin
theorem w_cnil : W (evc C [] (e0 :: en)) Pb Xe = Pb true := by w_fin
theorem w_ccons {e : E} {r : List E} : W (evc C (e :: r) (e0 :: en)) Pb Xe = W (ev C e (e0 :: en)) (wB fun t => (t = true → W (evc C r (e0 :: en)) Pb Xe) ∧ (¬ t = true → Pb false)) Xe := by
  rw [x_ccons, W_b, W_asB]; congr 2; funext t; rw [W_ite]; w_fin
theorem w_val {e : E} : W (evi C (.val e) (e0 :: en)) Pl Xe = W (ev C e (e0 :: en)) (fun d => W (itemsOf d) Pl Xe) Xe := by rw [x_val, W_b]
theorem w_r1 {e : E} : W (evi C (.r1 e) (e0 :: en)) Pl Xe = W (ev C e (e0 :: en)) (wI fun n => sized n = true ∧ Pl (rngUp 0 n)) Xe := by
  rw [x_r1, W_b, W_asI]; congr 2; funext n; rw [W_grd]; w_fin
theorem w_r2 {a b : E} : W (evi C (.r2 a b) (e0 :: en)) Pl Xe = W (ev C a (e0 :: en)) (wI fun i => W (ev C b (e0 :: en)) (wI fun j => (sized i && sized j) = true ∧ Pl (rngUp i j)) Xe) Xe := by
  rw [x_r2, W_b, W_asI]; congr 2; funext n; rw [W_b, W_asI]; congr 2; funext m; rw [W_grd]; w_fin
theorem w_r3 {a b c : E} : W (evi C (.r3 a b c) (e0 :: en)) Pl Xe = W (ev C a (e0 :: en)) (wI fun i => W (ev C b (e0 :: en)) (wI fun j => W (ev C c (e0 :: en)) (wI fun k => (sized i && sized j && decide (k = -1)) = true ∧ Pl (rngDn i j)) Xe) Xe) Xe := by
  rw [x_r3, W_b, W_asI]; congr 2; funext n; rw [W_b, W_asI]; congr 2; funext m; rw [W_b, W_asI]; congr 2; funext m; rw [W_grd]; w_fin
theorem w_enum {e : E} : W (evi C (.enum e) (e0 :: en)) Pl Xe = W (ev C e (e0 :: en)) (fun d => W (enumD d) Pl Xe) Xe := by rw [x_enum, W_b]
theorem w_zip {a b : E} : W (evi C (.zip a b) (e0 :: en)) Pl Xe = W (ev C a (e0 :: en)) (fun d => W (ev C b (e0 :: en)) (fun c => W (zipD d c) Pl Xe) Xe) Xe := by
  rw [x_zip, W_b]; congr 1; funext x; rw [W_b]
theorem w_step {p : _root_.Q.P} {cs : List E} {e : E} {d : D} {Pp : Option D → Prop} : W (stepC C p cs e (e0 :: en) d) Pp Xe = W (bindP p d (wipeP p (e0 :: en))) (fun e1 => W (evc C cs e1) (fun t => (t = true → W (ev C e e1) (fun x => Pp (some x)) Xe) ∧ (¬ t = true → Pp none)) Xe) Xe := by
  show W ((bindP p d (wipeP p (e0 :: en))).b fun env1 => (evc C cs env1).b fun t => if t then (ev C e env1).b fun x => .ok (some x) else .ok none) Pp Xe = _
  rw [W_b]; congr 1; funext e1; rw [W_b]; congr 1; funext t; rw [W_ite, W_b]; w_fin
end
end Q

set_option maxHeartbeats 1000000
namespace Q
open L2

/-! ## loops -/
def lpP (J : Env → Prop) (P : Env → Fl → Prop) : Env → Fl → Prop := fun env f => match f with
  | .nx => J env
  | .ct => J env
  | .bk => P env .nx
  | .rt v => P env (.rt v)
theorem lpP_nx {J : Env → Prop} {P : Env → Fl → Prop} {env : Env} : lpP J P env .nx = J env := (rfl)
theorem lpP_ct {J : Env → Prop} {P : Env → Fl → Prop} {env : Env} : lpP J P env .ct = J env := (rfl)
theorem lpP_bk {J : Env → Prop} {P : Env → Fl → Prop} {env : Env} : lpP J P env .bk = P env .nx := (rfl)
theorem lpP_rt {J : Env → Prop} {P : Env → Fl → Prop} {env : Env} {v : D} : lpP J P env (.rt v) = P env (.rt v) := (rfl)
theorem T_loopC {f : D → Env → RS} {d : D} {r : List D} {env : Env} {P : Env → Fl → Prop} {X : Ex → Env → Prop} : T (loopL f (d :: r) env) P X = T (f d env) (lpP (fun env' => T (loopL f r env') P X) P) X := by
  show T (match f d env with
    | .ok env' .nx => loopL f r env'
    | .ok env' .ct => loopL f r env'
    | .ok env' .bk => .ok env' .nx
    | x => x) P X = _
  cases e : f d env with
  | ok env' fl => cases fl <;> simp only [T_ok, lpP]
  | exc x env' => simp only [T_exc]
  | bad => simp only [T_bad]
theorem T_loop1 {f : D → Env → RS} {d : D} {r : List D} {env : Env} {P : Env → Fl → Prop} {X : Ex → Env → Prop} (h : T (f d env) (lpP (fun env' => T (loopL f r env') P X) P) X) : T (loopL f (d :: r) env) P X := by
  rw [T_loopC]; exact h
theorem T_loop0 {f : D → Env → RS} {env : Env} {P : Env → Fl → Prop} {X : Ex → Env → Prop} : T (loopL f [] env) P X = P env .nx := by
  show T (.ok env .nx) P X = _
  rw [T_ok]
theorem T_list {α : Type} {inj : α → D} {f : D → Env → RS} {P : Env → Fl → Prop} {X : Ex → Env → Prop} {xs : List α} {env : Env} (I : List α → Env → Prop) (h0 : I [] env)
    (hs : ∀ done x rest env, xs = done ++ x :: rest → I done env → T (f (inj x) env) (lpP (I (done ++ [x])) P) X) (he : ∀ env, I xs env → P env .nx) : T (loopL f (xs.map inj) env) P X := by
  have go : ∀ (rest done : List α) (env : Env), xs = done ++ rest → I done env → T (loopL f (rest.map inj) env) P X := by
    intro rest
    induction rest with
    | nil => intro done env e h; rw [List.append_nil] at e; subst e; rw [List.map_nil, T_loop0]; exact he _ h
    | cons x rest ih =>
      intro done env e h
      refine T_loop1 (T_mono (hs done x rest env e h) fun env' fl q => ?_)
      cases fl with
      | nx => exact ih (done ++ [x]) env' (by rw [e, List.append_assoc]; rfl) q
      | ct => exact ih (done ++ [x]) env' (by rw [e, List.append_assoc]; rfl) q
      | bk => exact q
      | rt v => exact q
  exact go xs [] env rfl h0
theorem T_rngG {f : D → Env → RS} {P : Env → Fl → Prop} {X : Ex → Env → Prop} {g : Nat → D} {n : Nat} {env : Env} (I : Nat → Env → Prop) (h0 : I 0 env)
    (hs : ∀ i env, i < n → I i env → T (f (g i) env) (lpP (I (i + 1)) P) X) (he : ∀ env, I n env → P env .nx) : T (loopL f ((List.range n).map g) env) P X := by
  refine T_list (fun done env => I done.length env) h0 (fun done x rest env e h => ?_) fun env h => he env (by rw [List.length_range] at h; exact h)
  have hl : done.length < n := by
    have := congrArg List.length e
    rw [List.length_range, List.length_append, List.length_cons] at this
    omega
  have hx : x = done.length := by
    have : (List.range n)[done.length]? = some x := by rw [e, List.getElem?_append_right (Nat.le_refl _), Nat.sub_self]; rfl
    rw [List.getElem?_range hl] at this
    cases this; rfl
  subst hx
  have := hs done.length env hl h
  rw [List.length_append]
  exact this
theorem T_rng {f : D → Env → RS} {P : Env → Fl → Prop} {X : Ex → Env → Prop} {a b : Int} {env : Env} (I : Nat → Env → Prop) (h0 : I 0 env)
    (hs : ∀ (i : Nat) env, i < (b - a).toNat → I i env → T (f (.int (a + (i : Int))) env) (lpP (I (i + 1)) P) X) (he : ∀ env, I (b - a).toNat env → P env .nx) : T (loopL f (rngUp a b) env) P X :=
  T_rngG I h0 hs he
theorem T_dn {f : D → Env → RS} {P : Env → Fl → Prop} {X : Ex → Env → Prop} {a b : Int} {env : Env} (I : Nat → Env → Prop) (h0 : I 0 env)
    (hs : ∀ (i : Nat) env, i < (a - b).toNat → I i env → T (f (.int (a - (i : Int))) env) (lpP (I (i + 1)) P) X) (he : ∀ env, I (a - b).toNat env → P env .nx) : T (loopL f (rngDn a b) env) P X :=
  T_rngG I h0 hs he
/-- a range from 0 on -/
theorem T_rng0 {f : D → Env → RS} {P : Env → Fl → Prop} {X : Ex → Env → Prop} {b : Int} {n : Nat} (hb : b = n) {env : Env} (I : Nat → Env → Prop) (h0 : I 0 env)
    (hs : ∀ (i : Nat) env, i < n → I i env → T (f (.int (i : Int)) env) (lpP (I (i + 1)) P) X) (he : ∀ env, I n env → P env .nx) : T (loopL f (rngUp 0 b) env) P X := by
  subst hb
  refine T_rng I h0 (fun i env hi h => ?_) fun env h => he env (by simpa using h)
  rw [Int.zero_add]
  exact hs i env (by simpa using hi) h
/-- while: m turns at most -/
theorem T_while {c : Env → R Bool} {f : Env → RS} {P : Env → Fl → Prop} {X : Ex → Env → Prop} (I : Nat → Env → Prop)
    (hs : ∀ m env, I m env → W (c env) (fun t => (t = true → T (f env) (lpP (fun env' => ∃ m' < m, I m' env') P) X) ∧ (¬ t = true → P env .nx)) (fun e => X e env)) : ∀ (N m : Nat) (env : Env), m < N → I m env → T (loopW c f N env) P X
  | 0, m, env, hm, h => by omega
  | N + 1, m, env, hm, h => by
    have q := hs m env h
    show T ((c env).s env fun t => if t then (match f env with
      | .ok env' .nx => loopW c f N env'
      | .ok env' .ct => loopW c f N env'
      | .ok env' .bk => .ok env' .nx
      | x => x) else .ok env .nx) P X
    rw [T_s]
    refine W_imp q fun t ⟨h1, h2⟩ => ?_
    rw [T_ite]
    refine ⟨fun ht => ?_, fun ht => by rw [T_ok]; exact h2 ht⟩
    have h1 := h1 ht
    cases e : f env with
    | ok env' fl =>
      rw [e, T_ok] at h1
      cases fl with
      | nx =>
        obtain ⟨m', hm', hI⟩ := h1
        exact T_while I hs N m' env' (by omega) hI
      | ct =>
        obtain ⟨m', hm', hI⟩ := h1
        exact T_while I hs N m' env' (by omega) hI
      | bk => rw [T_ok]; exact h1
      | rt v => rw [T_ok]; exact h1
    | exc x env' =>
      rw [e, T_exc] at h1
      rw [T_exc]
      exact h1
    | bad =>
      rw [e, T_bad] at h1
      exact h1.elim

/-! ## comprehensions -/
theorem W_cmap {α : Type} {f : D → R (Option D)} {inj : α → D} {xs : List α} {P : List D → Prop} {X : Ex → Prop} (g : α → D) (h : ∀ a ∈ xs, W (f (inj a)) (fun o => o = some (g a)) nE) (hp : P (xs.map g)) : W (compL f (xs.map inj)) P X := by
  refine W_of (?_ : compL f (xs.map inj) = .ok (xs.map g)) hp
  clear hp
  induction xs with
  | nil => rfl
  | cons a r ih =>
    show ((f (inj a)).quiet.b fun x => (compL f (r.map inj)).b fun ys => match x with
      | some y => R.ok (y :: ys)
      | none => .ok ys) = _
    rw [W_toE (h a List.mem_cons_self), ih fun d' hd => h d' (List.mem_cons_of_mem _ hd)]
    rfl
theorem W_cfil {α : Type} {f : D → R (Option D)} {inj : α → D} {xs : List α} {P : List D → Prop} {X : Ex → Prop} (p : α → Bool) (g : α → D) (h : ∀ a ∈ xs, W (f (inj a)) (fun o => o = if p a then some (g a) else none) nE) (hp : P ((xs.filter p).map g)) : W (compL f (xs.map inj)) P X := by
  refine W_of (?_ : compL f (xs.map inj) = .ok ((xs.filter p).map g)) hp
  clear hp
  induction xs with
  | nil => rfl
  | cons a r ih =>
    show ((f (inj a)).quiet.b fun x => (compL f (r.map inj)).b fun ys => match x with
      | some y => R.ok (y :: ys)
      | none => .ok ys) = _
    rw [W_toE (h a List.mem_cons_self), ih fun d' hd => h d' (List.mem_cons_of_mem _ hd), List.filter_cons]
    cases p a <;> rfl
/-- values that are only known to be some -/
theorem W_crel {α β : Type} {f : D → R (Option D)} {inj : α → D} {inj' : β → D} {xs : List α} {P : List D → Prop} {X : Ex → Prop} (Rl : α → β → Prop) (h : ∀ a ∈ xs, W (f (inj a)) (fun o => ∃ b, o = some (inj' b) ∧ Rl a b) nE)
    (hp : ∀ ys : List β, ys.length = xs.length → (∀ b ∈ ys, ∃ a ∈ xs, Rl a b) → P (ys.map inj')) : W (compL f (xs.map inj)) P X := by
  have : ∃ ys : List β, compL f (xs.map inj) = .ok (ys.map inj') ∧ ys.length = xs.length ∧ ∀ b ∈ ys, ∃ a ∈ xs, Rl a b := by
    clear hp
    induction xs with
    | nil => exact ⟨[], rfl, rfl, fun b hb => nomatch hb⟩
    | cons a r ih =>
      obtain ⟨ys, e1, e2, e3⟩ := ih fun d' hd => h d' (List.mem_cons_of_mem _ hd)
      obtain ⟨o, e4, b, rfl, hb⟩ := W_to (h a List.mem_cons_self)
      refine ⟨b :: ys, ?_, by rw [List.length_cons, List.length_cons, e2], fun c hc => ?_⟩
      · show ((f (inj a)).quiet.b fun x => (compL f (r.map inj)).b fun ys => match x with
          | some y => R.ok (y :: ys)
          | none => .ok ys) = _
        rw [e4, e1]
        rfl
      · rcases List.mem_cons.mp hc with rfl | hc
        · exact ⟨a, List.mem_cons_self, hb⟩
        · obtain ⟨a', h1, h2⟩ := e3 c hc
          exact ⟨a', List.mem_cons_of_mem _ h1, h2⟩
  obtain ⟨ys, e1, e2, e3⟩ := this
  exact W_of e1 (hp ys e2 e3)
theorem rngUp_eq {a b : Int} : rngUp a b = (List.range (b - a).toNat).map fun k : Nat => D.int (a + (k : Int)) := rfl
theorem rngDn_eq {a b : Int} : rngDn a b = (List.range (a - b).toNat).map fun k : Nat => D.int (a - (k : Int)) := rfl

/-! ## defs -/
def retP (P : D → Prop) : Env → Fl → Prop := fun _ f => match f with
  | .nx => P .non
  | .rt v => P v
  | _ => False
theorem retP_nx {P : D → Prop} {env : Env} : retP P env .nx = P .non := (rfl)
theorem retP_rt {P : D → Prop} {env : Env} {v : D} : retP P env (.rt v) = P v := (rfl)
theorem W_run {C : Nat → List D → R D} {N : Nat} {d : Def} {np ns : Nat} {b : List S} {ds : List D} {P : D → Prop} {X : Ex → Prop} (e : d = ⟨np, ns, b⟩) (h : ds.length = np) (t : T (evSs C N b (startE ns ds)) (retP P) fun e _ => X e) : W (runD C N d ds) P X := by
  subst e
  unfold runD
  rw [if_pos h]
  generalize evSs C N b (startE ns ds) = x at t
  cases x with
  | ok env f =>
    rw [T_ok] at t
    cases f with
    | nx => rw [W_ok]; exact t
    | rt v => rw [W_ok]; exact t
    | bk => exact t.elim
    | ct => exact t.elim
  | exc e env => rw [T_exc] at t; rw [W_exc]; exact t
  | bad => rw [T_bad] at t; exact t.elim
theorem startE_def {n : Nat} {ds : List D} : startE n ds = ds.map some ++ List.replicate (n - ds.length) none := (rfl)

/-! ## what the parts tell -/
section
variable {P : D → Prop} {X : Ex → Prop} {Pb : Bool → Prop} {Pl : List D → Prop}
theorem sh_int {i : Int} : sh (.int i) = .int i := (rfl)
theorem sh_str {i : Cs} : sh (.str i) = .str i := (rfl)
theorem sh_bl {i : Bool} : sh (.bl i) = .bl i := (rfl)
theorem sh_non : sh .non = .non := (rfl)
theorem sh_tup {ds : List D} : sh (.tup ds) = .tup (shs ds) := (rfl)
theorem sh_lst {o : O} {ds : List D} : sh (.lst o ds) = .lst o.sh (shs ds) := (rfl)
theorem sh_dic {o : O} {ds : List (Ky × D)} : sh (.dic o ds) = .dic o.sh (shk ds) := (rfl)
theorem shw : O.w.sh = .s := (rfl)
theorem shS : O.s.sh = .s := (rfl)
theorem shF : O.f.sh = .f := (rfl)
theorem shs_nil : shs [] = [] := (rfl)
theorem shs_cons {d : D} {r : List D} : shs (d :: r) = sh d :: shs r := (rfl)
theorem noSh_int {i : Int} : noSh (.int i) = true := (rfl)
theorem noSh_str {i : Cs} : noSh (.str i) = true := (rfl)
theorem noSh_bl {i : Bool} : noSh (.bl i) = true := (rfl)
theorem noSh_non : noSh .non = true := (rfl)
theorem noSh_tup {ds : List D} : noSh (.tup ds) = noShs ds := (rfl)
theorem noSh_lst {o : O} {ds : List D} : noSh (.lst o ds) = (o.no && noShs ds) := (rfl)
theorem noShs_nil : noShs [] = true := (rfl)
theorem noShs_cons {d : D} {r : List D} : noShs (d :: r) = (noSh d && noShs r) := (rfl)
theorem now : O.w.no = true := (rfl)
theorem noS : O.s.no = false := (rfl)
theorem noF : O.f.no = true := (rfl)
theorem bf_maxd {ds : List D} : bfun .maxd ds = fMaxd ds := (rfl)
theorem bf_len {ds : List D} : bfun .len ds = fLen ds := (rfl)
theorem bf_sum {ds : List D} : bfun .sum ds = fSum ds := (rfl)
theorem bf_max {ds : List D} : bfun .max ds = fMax ds := (rfl)
theorem bf_min {ds : List D} : bfun .min ds = fMin ds := (rfl)
theorem bf_all {ds : List D} : bfun .all ds = fAll ds := (rfl)
theorem bf_any {ds : List D} : bfun .any ds = fAny ds := (rfl)
theorem bf_int {ds : List D} : bfun .int ds = fInt ds := (rfl)
theorem bf_str {ds : List D} : bfun .str ds = fStr ds := (rfl)
theorem bf_tuple {ds : List D} : bfun .tuple ds = fTuple ds := (rfl)
theorem bf_list {ds : List D} : bfun .list ds = fList ds := (rfl)
theorem bf_dict {ds : List D} : bfun .dict ds = fDict ds := (rfl)
theorem m_lower {s : Cs} : mfun .lower (.str s) [] = if s.length ≤ 5592405 then .ok (.str (s.map lowC)) else .bad := (rfl)
theorem m_upper {s : Cs} : mfun .upper (.str s) [] = if s.length ≤ 5592405 then .ok (.str (s.map upC)) else .bad := (rfl)
theorem m_starts {s t : Cs} : mfun .starts (.str s) [.str t] = .ok (.bl (decide (t.length ≤ s.length ∧ s.take t.length = t))) := (rfl)
theorem m_ends {s t : Cs} : mfun .ends (.str s) [.str t] = .ok (.bl (decide (t.length ≤ s.length ∧ s.drop (s.length - t.length) = t))) := (rfl)
theorem m_find {s : Cs} {c : Nat} : mfun .find (.str s) [.str [c]] = .ok (.int ((findC s c).elim (-1) fun i => (i : Int))) := by
  show (match findC s c with | some i => R.ok (D.int i) | none => .ok (.int (-1))) = _
  cases findC s c <;> rfl
theorem m_index {s : Cs} {c i : Nat} (h : findC s c = some i) : mfun .index (.str s) [.str [c]] = .ok (.int i) := by
  show (match findC s c with | some i => R.ok (D.int i) | none => .bad) = _
  rw [h]
theorem m_joinL {s : Cs} {o : O} {xs : List D} : mfun .join (.str s) [.lst o xs] = joinD s xs := (rfl)
theorem m_joinT {s : Cs} {xs : List D} : mfun .join (.str s) [.tup xs] = joinD s xs := (rfl)
theorem m_get {x k d : D} : mfun .get x [k, d] = dgetD x k d := (rfl)
theorem strsOf_map : ∀ ps : List Cs, strsOf (ps.map D.str) = some ps
  | [] => rfl
  | p :: r => by
    show (strsOf (r.map D.str)).map (p :: ·) = _
    rw [strsOf_map r]; rfl
theorem joinD_map {s : Cs} {ps : List Cs} (h : (ps.map List.length).sum + ps.length * s.length ≤ 16777216) : joinD s (ps.map D.str) = .ok (.str (TL.joinL s ps)) := by
  unfold joinD
  rw [strsOf_map]
  exact if_pos h
theorem fm_nil : fmts [] = .ok [] := (rfl)
theorem fm_cons {d : D} {r : List D} : fmts (d :: r) = (fmt1 d).b fun s => (fmts r).b fun t => if s.length + t.length ≤ lim then .ok (s ++ t) else .bad := (rfl)
theorem fmt_str {s : Cs} : fmt1 (.str s) = .ok s := (rfl)
theorem fmt_int {i : Int} : fmt1 (.int i) = if 0 ≤ i ∧ i < 10 ^ 100 then .ok (TL.numL i.toNat) else .bad := (rfl)
theorem rev_str {s : Cs} : revv (.str s) = .ok (.str s.reverse) := (rfl)
theorem in_sign {c : Nat} {t : Cs} : inD (.str [c]) (.str t) = .ok (decide (c ∈ t)) := (rfl)
theorem c_insign {c : Nat} {t : Cs} : cmpop .isin (.str [c]) (.str t) = .ok (decide (c ∈ t)) := (rfl)
theorem c_nisign {c : Nat} {t : Cs} : cmpop .notin (.str [c]) (.str t) = .ok (!decide (c ∈ t)) := (rfl)
theorem str_int {i : Int} : fStr [.int i] = if 0 ≤ i ∧ i < 10 ^ 100 then .ok (.str (TL.numL i.toNat)) else .bad := (rfl)
theorem len_lst {o : O} {xs : List D} : fLen [.lst o xs] = .ok (.int xs.length) := (rfl)
theorem len_tup {xs : List D} : fLen [.tup xs] = .ok (.int xs.length) := (rfl)
theorem len_ptu {xs : List (Cs × Int)} : fLen [.ptu xs] = .ok (.int xs.length) := (rfl)
theorem len_str {xs : Cs} : fLen [.str xs] = .ok (.int xs.length) := (rfl)
theorem len_dic {o : O} {xs : List (Ky × D)} : fLen [.dic o xs] = .ok (.int xs.length) := (rfl)
theorem max_two {i j : Int} : fMax [.int i, .int j] = .ok (.int (max i j)) := (rfl)
theorem min_two {i j : Int} : fMin [.int i, .int j] = .ok (.int (min i j)) := (rfl)
theorem int_int {i : Int} : fInt [.int i] = .ok (.int i) := (rfl)
theorem int_bl {b : Bool} : fInt [.bl b] = .ok (.int (if b then 1 else 0)) := (rfl)
theorem list_lst {o : O} {xs : List D} : fList [.lst o xs] = .ok (.lst .w (shs xs)) := (rfl)
theorem list_tup {xs : List D} : fList [.tup xs] = .ok (.lst .w (shs xs)) := (rfl)
theorem tuple_lst {o : O} {xs : List D} : fTuple [.lst o xs] = .ok (tupD xs) := (rfl)
theorem sh_tupD {xs : List D} : sh (tupD xs) = tupD xs := by
  unfold tupD
  split
  · rfl
  · split
    · rfl
    · show D.tup (shs (shs _)) = _
      rw [shs_shs]
theorem tupD_strs {ps : List Cs} : tupD (ps.map D.str) = .tup (ps.map D.str) := by
  cases ps with
  | nil => rfl
  | cons p r =>
    show D.tup (shs (D.str p :: r.map D.str)) = _
    rw [shs_cons, shs_map, List.map_map]
    rfl
theorem odds_map : ∀ ks : List (Cs × Int), oddsOf (ks.map fun kv => D.tup [.str kv.1, .int kv.2]) = some ks
  | [] => rfl
  | (c, w) :: r => by
    show (oddsOf (r.map fun kv => D.tup [.str kv.1, .int kv.2])).map (fun ks => (c, w) :: ks) = _
    rw [odds_map r]; rfl
theorem tupD_odds {ks : List (Cs × Int)} (h : ks ≠ []) : tupD (ks.map fun kv => D.tup [.str kv.1, .int kv.2]) = .ptu ks := by
  cases ks with
  | nil => exact absurd rfl h
  | cons kv r =>
    show (match oddsOf ((kv :: r).map fun kv => D.tup [.str kv.1, .int kv.2]) with
      | some ks => D.ptu ks
      | none => .tup _) = _
    rw [odds_map]
theorem sh_ptu {ks : List (Cs × Int)} : sh (.ptu ks) = .ptu ks := (rfl)
theorem noSh_ptu {ks : List (Cs × Int)} : noSh (.ptu ks) = true := (rfl)
theorem dict_ptu {ks : List (Cs × Int)} : fDict [.ptu ks] = .ok (.dic .w (mergeD [] (ks.map fun kv => (.inr kv.1, .int kv.2)))) := (rfl)
theorem w_itP {ks : List (Cs × Int)} : itemsOf (.ptu ks) = .ok (ks.map fun kv => .tup [.str kv.1, .int kv.2]) := (rfl)
theorem tuple_tup {xs : List D} : fTuple [.tup xs] = .ok (.tup xs) := (rfl)
theorem dict_dic {o : O} {xs : List (Ky × D)} : fDict [.dic o xs] = .ok (.dic .w (shk xs)) := (rfl)
theorem intsOf_mapg {α : Type} {g : α → Int} : ∀ {ns : List α}, intsOf (ns.map fun a => D.int (g a)) = some (ns.map g)
  | [] => rfl
  | n :: ns => by
    show (intsOf (ns.map fun a => D.int (g a))).map _ = _
    rw [intsOf_mapg]; rfl
theorem sum_map {α : Type} {o : O} {g : α → Int} {ns : List α} : fSum [.lst o (ns.map fun a => D.int (g a))] = .ok (.int (ns.map g).sum) := by
  show (match intsOf (ns.map fun a => D.int (g a)) with
    | some ns => R.ok (D.int ns.sum)
    | none => .bad) = _
  rw [intsOf_mapg]
theorem getD_map {α : Type} {g : α → D} {o : O} {xs : List α} {i : Int} : W (getD (.lst o (xs.map g)) (.int i)) P X = ∃ a, atI xs i = some a ∧ P (g a) := by
  rw [g_lst]
  have e : atI (xs.map g) i = (atI xs i).map g := by
    unfold atI
    rw [List.length_map]
    cases ixN xs.length i with
    | none => rfl
    | some j => exact List.getElem?_map
  rw [e]
  cases atI xs i with
  | none => simp [W_def]
  | some a => simp [W_def]
theorem getT_map {α : Type} {g : α → D} {xs : List α} {i : Int} : W (getD (.tup (xs.map g)) (.int i)) P X = ∃ a, atI xs i = some a ∧ P (g a) := by
  have := getD_map (P := P) (X := X) (g := g) (o := .s) (xs := xs) (i := i)
  exact this
theorem getS {s : Cs} {i : Int} : W (getD (.str s) (.int i)) P X = ∃ a, atI s i = some a ∧ P (.str [a]) := by
  rw [g_str]
  cases atI s i with
  | none => simp [W_def]
  | some a => simp [W_def]
theorem atI_lt {α : Type} {xs : List α} {i : Int} (h : 0 ≤ i ∧ i < xs.length) : ∃ (hl : i.toNat < xs.length), atI xs i = some xs[i.toNat] := by
  obtain ⟨n, rfl⟩ : ∃ n : Nat, i = n := ⟨i.toNat, by omega⟩
  have hl : n < xs.length := by omega
  exact ⟨hl, atI_nat hl⟩
theorem atI_neg {α : Type} {xs : List α} (h : xs ≠ []) : atI xs (-1) = xs[xs.length - 1]? := by
  have hl := List.length_pos_iff.mpr h
  unfold atI ixN
  rw [if_neg (by omega), if_pos (by omega)]
  show xs[(xs.length + (-1 : Int)).toNat]? = _
  congr 1
  omega
theorem g_t0 {a : D} {r : List D} : getD (.tup (a :: r)) (.int 0) = .ok a := by
  rw [g_tup]
  have := atI_nat (xs := a :: r) (n := 0) (by simp)
  have e : atI (a :: r) 0 = some a := this
  rw [e]
theorem g_t1 {a b : D} {r : List D} : getD (.tup (a :: b :: r)) (.int 1) = .ok b := by
  rw [g_tup]
  have := atI_nat (xs := a :: b :: r) (n := 1) (by simp)
  have e : atI (a :: b :: r) 1 = some b := this
  rw [e]
theorem g_t2 {a b c : D} {r : List D} : getD (.tup (a :: b :: c :: r)) (.int 2) = .ok c := by
  rw [g_tup]
  have := atI_nat (xs := a :: b :: c :: r) (n := 2) (by simp)
  have e : atI (a :: b :: c :: r) 2 = some c := this
  rw [e]
theorem g_t3 {a b c d : D} {r : List D} : getD (.tup (a :: b :: c :: d :: r)) (.int 3) = .ok d := by
  rw [g_tup]
  have := atI_nat (xs := a :: b :: c :: d :: r) (n := 3) (by simp)
  have e : atI (a :: b :: c :: d :: r) 3 = some d := this
  rw [e]
theorem g_l0 {o : O} {a : D} {r : List D} : getD (.lst o (a :: r)) (.int 0) = .ok a := g_t0
theorem g_l1 {o : O} {a b : D} {r : List D} : getD (.lst o (a :: b :: r)) (.int 1) = .ok b := g_t1
theorem g_l2 {o : O} {a b c : D} {r : List D} : getD (.lst o (a :: b :: c :: r)) (.int 2) = .ok c := g_t2
theorem w_itL {o : O} {xs : List D} : itemsOf (.lst o xs) = .ok xs := (rfl)
theorem w_itT {xs : List D} : itemsOf (.tup xs) = .ok xs := (rfl)
theorem w_itS {xs : Cs} : itemsOf (.str xs) = .ok (xs.map fun c => .str [c]) := (rfl)
theorem w_enL {o : O} {xs : List D} : enumD (.lst o xs) = .ok (xs.mapIdx fun i x => .tup [.int i, x]) := (rfl)
theorem w_enS {s : Cs} : enumD (.str s) = .ok ((s.map fun c => .str [c]).mapIdx fun i x => .tup [.int i, x]) := (rfl)
theorem w_zpT2 {o : O} {xs ys : List D} : zipD (.tup xs) (.lst o ys) = .ok ((xs.zip ys).map fun q => .tup [q.1, q.2]) := (rfl)
theorem w_zpL {o o' : O} {xs ys : List D} : zipD (.lst o xs) (.lst o' ys) = .ok ((xs.zip ys).map fun q => .tup [q.1, q.2]) := (rfl)
theorem w_zpT {xs ys : List D} : zipD (.tup xs) (.tup ys) = .ok ((xs.zip ys).map fun q => .tup [q.1, q.2]) := (rfl)
theorem b_n {i : Nat} {d : D} {env : Env} : bindP (.n i) d env = .ok (env.set i (some (sh d))) := (rfl)
theorem b_t2 {i j : Nat} {a b : D} {env : Env} : bindP (.t [i, j]) (.tup [a, b]) env = .ok ((env.set i (some (sh a))).set j (some (sh b))) := (rfl)
theorem b_l2 {i j : Nat} {o : O} {a b : D} {env : Env} : bindP (.t [i, j]) (.lst o [a, b]) env = .ok ((env.set i (some (sh a))).set j (some (sh b))) := (rfl)
theorem b_t3 {i j k : Nat} {a b c : D} {env : Env} : bindP (.t [i, j, k]) (.tup [a, b, c]) env = .ok (((env.set i (some (sh a))).set j (some (sh b))).set k (some (sh c))) := (rfl)
theorem b_t4 {i j k l : Nat} {a b c d : D} {env : Env} : bindP (.t [i, j, k, l]) (.tup [a, b, c, d]) env = .ok ((((env.set i (some (sh a))).set j (some (sh b))).set k (some (sh c))).set l (some (sh d))) := (rfl)
theorem wipe_n {i : Nat} {env : Env} : wipeP (.n i) env = env.set i none := (rfl)
theorem wipe_t2 {i j : Nat} {env : Env} : wipeP (.t [i, j]) env = (env.set i none).set j none := (rfl)
theorem wipe_t3 {i j k : Nat} {env : Env} : wipeP (.t [i, j, k]) env = ((env.set i none).set j none).set k none := (rfl)
theorem u_nil {f : D → Option D} {i : Nat} {env : Env} {P : Env → Fl → Prop} {X : Ex → Env → Prop} {d e : D} (h : env[i]? = some (some d)) (h2 : f d = some e) : T (upd1 f i [] env) P X = P (env.set i (some e)) .nx := by
  unfold upd1
  rw [h]
  show T (match f d with
    | some d' => .ok (env.set i (some d')) .nx
    | none => .bad) P X = _
  rw [h2]; exact T_ok
/-- change at a slot -/
def upS (f : D → Option D) (p : List D) (o : Option (Option D)) : Option D := match o with
  | some (some d) => updP f p d
  | _ => none
theorem T_upd1 {f : D → Option D} {i : Nat} {p : List D} {env : Env} {P : Env → Fl → Prop} {X : Ex → Env → Prop} : T (upd1 f i p env) P X = ∃ e, upS f p env[i]? = some e ∧ P (env.set i (some e)) .nx := by
  unfold upd1 upS
  cases h : env[i]? with
  | none => simp [T_def]
  | some o =>
    cases o with
    | none => simp [T_def]
    | some d =>
      show T (match updP f p d with
        | some d' => .ok (env.set i (some d')) .nx
        | none => .bad) P X = ∃ e, updP f p d = some e ∧ P (env.set i (some e)) .nx
      cases h2 : updP f p d with
      | none => simp [T_def]
      | some e => simp [T_def]
theorem upS_nil {f : D → Option D} {d : D} : upS f [] (some (some d)) = f d := (rfl)
theorem pathOk_def {i : Nat} {p : List D} {env : Env} : pathOk i p env = (upS canL p env[i]?).isSome := by
  unfold pathOk upS
  cases h : env[i]? with
  | none => rfl
  | some o => cases o <;> rfl
theorem canL_w {ds : List D} : canL (.lst .w ds) = some (.lst .w ds) := (rfl)
theorem appD_w {x : D} {ds : List D} {e : D} : (appD x (.lst .w ds) = some e) = (e = .lst .w (ds ++ [x]) ∧ ds.length < lim) := by
  unfold appD
  by_cases h : ds.length < lim
  · simp only [h, if_true, and_true, Option.some.injEq]; exact propext ⟨Eq.symm, Eq.symm⟩
  · simp [h]
theorem extD_w {xs : List D} {ds : List D} {e : D} : (extD xs (.lst .w ds) = some e) = (e = .lst .w (ds ++ xs) ∧ ds.length + xs.length ≤ lim) := by
  unfold extD
  by_cases h : ds.length + xs.length ≤ lim
  · simp only [h, if_true, and_true, Option.some.injEq]; exact propext ⟨Eq.symm, Eq.symm⟩
  · simp [h]
theorem clrD_w {ds : List D} {e : D} : (clrD (.lst .w ds) = some e) = (e = .lst .w []) := by
  show (some _ = some e) = _
  simp only [Option.some.injEq]; exact propext ⟨Eq.symm, Eq.symm⟩
theorem pop0D_w {d : D} {ds : List D} {e : D} : (pop0D (.lst .w (d :: ds)) = some e) = (e = .lst .w ds) := by
  show (some _ = some e) = _
  simp only [Option.some.injEq]; exact propext ⟨Eq.symm, Eq.symm⟩
theorem stoT_w {ks : List D} {kvs : List (List Ky × D)} {e : D} : (stoT ks (.dct .w kvs) = some e) = ∃ k, tkeyD ks = some k ∧ kvs.length < lim ∧ e = .dct .w (putT kvs k .non) := by
  unfold stoT
  cases h : tkeyD ks with
  | none => simp
  | some k =>
    by_cases hl : kvs.length < lim
    · simp only [Option.bind_some, hl, if_true, Option.some.injEq, true_and, exists_eq_left']; exact propext ⟨Eq.symm, Eq.symm⟩
    · simp [hl]
theorem stoD_l {i : Int} {x : D} {ds : List D} {e : D} : (stoD (.int i) x (.lst .w ds) = some e) = (e = .lst .w (ds.set ((ixN ds.length i).getD 0) x) ∧ (ixN ds.length i).isSome = true) := by
  show ((ixN ds.length i).map _ = some e) = _
  cases ixN ds.length i with
  | none => simp
  | some j => simp only [Option.map_some, Option.some.injEq, Option.getD_some, Option.isSome_some, and_true]; exact propext ⟨Eq.symm, Eq.symm⟩
theorem ixN_nat {n i : Nat} (h : i < n) : ixN n (i : Int) = some i := by
  unfold ixN
  rw [if_pos (Int.natCast_nonneg i), if_pos (by exact_mod_cast h)]
  simp
theorem ixN_last {n : Nat} (h : 0 < n) : ixN n (-1) = some (n - 1) := by
  unfold ixN
  rw [if_neg (by omega), if_pos (by omega)]
  congr 1
  omega
end
end Q
namespace Q
theorem grd_and {c a : Prop} : ((c → a) ∧ (¬ c → False)) = (c ∧ a) := by
  by_cases h : c <;> simp [h]
theorem isTy_ii {i : Int} : isTy (.int i) .int = true := (rfl)
theorem isTy_ib {i : Int} : isTy (.int i) .bool = false := (rfl)
theorem isTy_is {i : Int} : isTy (.int i) .str = false := (rfl)
theorem isTy_bb {i : Bool} : isTy (.bl i) .bool = true := (rfl)
theorem isTy_bi {i : Bool} : isTy (.bl i) .int = true := (rfl)
theorem isTy_ss {i : Cs} : isTy (.str i) .str = true := (rfl)
theorem isTy_si {i : Cs} : isTy (.str i) .int = false := (rfl)
theorem isTy_sb {i : Cs} : isTy (.str i) .bool = false := (rfl)
theorem isTy_ll {o : O} {i : List D} : isTy (.lst o i) .list = true := (rfl)
theorem isTy_tt {i : List D} : isTy (.tup i) .tuple = true := (rfl)
theorem isTy_lt {o : O} {i : List D} : isTy (.lst o i) .tuple = false := (rfl)
theorem isTy_tl {i : List D} : isTy (.tup i) .list = false := (rfl)
theorem isTy_ni : isTy .non .int = false := (rfl)
theorem isTy_ns : isTy .non .str = false := (rfl)
theorem if_pb {α : Sort _} {b : Bool} {x y : α} : (if (b = true) = true then x else y) = if b then x else y := by simp
theorem shs_map' {α : Type} {g : α → D} {xs : List α} (h : ∀ a, sh (g a) = g a) : shs (xs.map g) = xs.map g := by
  rw [shs_map, List.map_map]
  congr 1
  funext a
  exact h a
theorem noShs_map' {α : Type} {g : α → D} {xs : List α} (h : ∀ a, noSh (g a) = true) : noShs (xs.map g) = true := by
  rw [noShs_all, List.all_map, List.all_eq_true]
  exact fun a _ => h a
end Q
namespace Q
theorem frz_cons {a : Nat} {z : List Nat} {env : Env} : frz (a :: z) env = frz z (env.modify a (Option.map sh)) := (rfl)
theorem mod_0 {x : Option D} {l : Env} {f : Option D → Option D} : (x :: l).modify 0 f = f x :: l := by simp
theorem mod_S {x : Option D} {l : Env} {n : Nat} {f : Option D → Option D} : (x :: l).modify (n + 1) f = x :: l.modify n f := by simp
theorem W_pick {o : O} {ds : List D} {i : Int} {P : D → Prop} {X : Ex → Prop} (h : 0 ≤ i ∧ i < ds.length) (hp : ∀ d ∈ ds, P d) : W (getD (.lst o ds) (.int i)) P X := by
  obtain ⟨hl, e⟩ := atI_lt h
  rw [g_lst, e]
  show W (.ok _) P X
  rw [W_ok]
  exact hp _ (List.getElem_mem hl)
theorem sized_of {i : Int} (h : -8388608 ≤ i ∧ i ≤ 8388608) : sized i = true := by
  have h1 : (2 : Int) ^ 23 = 8388608 := by decide
  unfold sized
  rw [h1]
  exact decide_eq_true h
theorem small_of' {i : Int} (h : -18446744073709551616 < i ∧ i < 18446744073709551616) : small i = true := by
  have h1 : (2 : Int) ^ 64 = 18446744073709551616 := by decide
  unfold small
  rw [h1]
  exact decide_eq_true h
theorem lim_is : lim = 16777216 := (rfl)
theorem sh_scr (ns : List Int) : sh (scriptD ns) = scriptD ns := by
  show D.lst .f (shs (ns.map D.int)) = _
  rw [shs_map, List.map_map]; rfl
theorem deps_ints' (ns : List Int) : deps (ns.map D.int) = 0 := by
  induction ns with
  | nil => rfl
  | cons a r ih => show max 0 (deps (r.map D.int)) = 0; rw [ih]; rfl
theorem eq_emp (ns : List Int) : cmpop .eq (scriptD ns) (.lst .w []) = .ok ns.isEmpty := by
  show (if dep (scriptD ns) ≤ 64 ∧ dep (.lst .w []) ≤ 64 then R.ok (deq (scriptD ns) (.lst .w [])) else if itemsEq (ns.map D.int) [] then .ok true else .bad) = _
  have e : dep (scriptD ns) = 1 := by show deps (ns.map D.int) + 1 = 1; rw [deps_ints']
  rw [e, if_pos ⟨by omega, by decide⟩]
  cases ns <;> rfl
theorem len_scr (ns : List Int) : fLen [scriptD ns] = .ok (.int ns.length) := by
  show R.ok (D.int (ns.map D.int).length) = _
  rw [List.length_map]
theorem get_scr {ns : List Int} {i : Int} {P : D → Prop} {X : Ex → Prop} : W (getD (scriptD ns) (.int i)) P X = ∃ a, L2.atI ns i = some a ∧ P (.int a) := getD_map
end Q
namespace Q
theorem len3 {α : Type} {xs : List α} (h : xs.length = 3) : ∃ a b c, xs = [a, b, c] := by
  match xs, h with
  | [a, b, c], _ => exact ⟨a, b, c, rfl⟩
theorem len2 {α : Type} {xs : List α} (h : xs.length = 2) : ∃ a b, xs = [a, b] := by
  match xs, h with
  | [a, b], _ => exact ⟨a, b, rfl⟩
end Q
namespace Q
theorem T_cut {x : RS} {P : Env → Fl → Prop} {K : Env → Prop} {X : Ex → Env → Prop} (M : Env → Prop) (h : T x (onw P M) X) (h2 : ∀ env, M env → K env) : T x (onw P K) X :=
  T_mono h fun env f q => by
    cases f with
    | nx => exact h2 env q
    | rt v => exact q
    | bk => exact q
    | ct => exact q
end Q
namespace Q
open L2
theorem cut_nn {α : Type} {xs : List α} {b e : Nat} (hb : b ≤ xs.length) (he : e ≤ xs.length) : cut xs (some (b : Int)) (some (e : Int)) = (xs.drop b).take (e - b) := by
  unfold cut
  rw [HT.sIx_nat, HT.sIx_nat, Nat.min_eq_left hb, Nat.min_eq_left he]
theorem cut_map {α β : Type} {f : α → β} {xs : List α} {lo hi : Option Int} : cut (xs.map f) lo hi = (cut xs lo hi).map f := by
  unfold cut
  rw [List.length_map, List.map_take, List.map_drop]
theorem slic_lst {α : Type} {f : α → D} {o : O} {xs : List α} {lo hi : Option Int} : slic (.lst o (xs.map f)) lo hi = .ok (.lst .w ((cut xs lo hi).map f)) := by
  show R.ok (D.lst .w (cut _ _ _)) = _
  rw [cut_map]
theorem slic_tup {α : Type} {f : α → D} {xs : List α} {lo hi : Option Int} : slic (.tup (xs.map f)) lo hi = .ok (.tup ((cut xs lo hi).map f)) := by
  show R.ok (D.tup (cut _ _ _)) = _
  rw [cut_map]
theorem slic_str {s : Cs} {lo hi : Option Int} : slic (.str s) lo hi = .ok (.str (cut s lo hi)) := (rfl)
theorem take_get {α : Type} {ps : List α} {b i : Nat} (h : b + i < ps.length) : (ps.drop b).take (i + 1) = (ps.drop b).take i ++ [ps[b + i]] := by
  rw [List.take_succ, List.getElem?_drop, List.getElem?_eq_getElem h]
  rfl
end Q
namespace Q
open L2
mutual
/-- no dicts in it -/
def plain : D → Bool
  | .tup ds => plains ds
  | .lst _ ds => plains ds
  | .dic _ _ => false
  | .dct _ _ => false
  | .ptu _ => false
  | .fn _ => false
  | .non => true
  | .bl _ => true
  | .int _ => true
  | .str _ => true
termination_by structural x => x
def plains : List D → Bool
  | [] => true
  | d :: r => plain d && plains r
termination_by structural x => x
end
mutual
theorem deq_refl : ∀ d : D, plain d = true → deq d d = true
  | .tup ds, h => deqs_refl ds h
  | .lst _ ds, h => deqs_refl ds h
  | .non, _ => rfl
  | .bl b, _ => by cases b <;> rfl
  | .int i, _ => by show (i == i) = true; simp
  | .str s, _ => by show (s == s) = true; simp
theorem deqs_refl : ∀ ds : List D, plains ds = true → deqs ds ds = true
  | [], _ => rfl
  | d :: r, h => by
    have h := Bool.and_eq_true_iff.mp (show (plain d && plains r) = true from h)
    show (deq d d && deqs r r) = true
    rw [deq_refl d h.1, deqs_refl r h.2]; rfl
end
theorem deqs_map {α : Type} {f g : α → D} (h : ∀ a, deq (f a) (g a) = true) : ∀ xs : List α, deqs (xs.map f) (xs.map g) = true
  | [] => rfl
  | a :: r => by
    show (deq (f a) (g a) && deqs (r.map f) (r.map g)) = true
    rw [h a, deqs_map h r]; rfl
theorem deps_map {α : Type} {f : α → D} {n : Nat} (h : ∀ a, dep (f a) ≤ n) : ∀ xs : List α, deps (xs.map f) ≤ n
  | [] => Nat.zero_le _
  | a :: r => by
    show max (dep (f a)) (deps (r.map f)) ≤ n
    have := h a
    have := deps_map h r
    omega
theorem eq_lsts {o o' : O} {xs ys : List D} (h1 : deps xs ≤ 63) (h2 : deps ys ≤ 63) : cmpop .eq (.lst o xs) (.lst o' ys) = .ok (deqs xs ys) := by
  show (if dep (.lst o xs) ≤ 64 ∧ dep (.lst o' ys) ≤ 64 then R.ok (deq (.lst o xs) (.lst o' ys)) else if itemsEq xs ys then .ok true else .bad) = _
  have e1 : dep (.lst o xs) = deps xs + 1 := rfl
  have e2 : dep (.lst o' ys) = deps ys + 1 := rfl
  rw [if_pos ⟨by omega, by omega⟩]
  rfl
theorem ne_lsts {o o' : O} {xs ys : List D} (h1 : deps xs ≤ 63) (h2 : deps ys ≤ 63) : cmpop .ne (.lst o xs) (.lst o' ys) = .ok (!deqs xs ys) := by
  show (cmpop .eq (.lst o xs) (.lst o' ys)).nt = _
  rw [eq_lsts h1 h2]; rfl
theorem eq_tups {xs ys : List D} (h1 : deps xs ≤ 63) (h2 : deps ys ≤ 63) : cmpop .eq (.tup xs) (.tup ys) = .ok (deqs xs ys) := by
  show (if dep (.tup xs) ≤ 64 ∧ dep (.tup ys) ≤ 64 then R.ok (deq (.tup xs) (.tup ys)) else .bad) = _
  have e1 : dep (.tup xs) = deps xs + 1 := rfl
  have e2 : dep (.tup ys) = deps ys + 1 := rfl
  rw [if_pos ⟨by omega, by omega⟩]
  rfl
theorem ne_tups {xs ys : List D} (h1 : deps xs ≤ 63) (h2 : deps ys ≤ 63) : cmpop .ne (.tup xs) (.tup ys) = .ok (!deqs xs ys) := by
  show (cmpop .eq (.tup xs) (.tup ys)).nt = _
  rw [eq_tups h1 h2]; rfl
theorem is_lst {o : O} {xs : List D} : cmpop .is (.lst o xs) .non = .ok false := (rfl)
theorem is_tup {xs : List D} : cmpop .is (.tup xs) .non = .ok false := (rfl)
theorem is_int {i : Int} : cmpop .is (.int i) .non = .ok false := (rfl)
theorem is_str {i : Cs} : cmpop .is (.str i) .non = .ok false := (rfl)
theorem is_non : cmpop .is .non .non = .ok true := (rfl)
theorem is_bl {a b : Bool} : cmpop .is (.bl a) (.bl b) = .ok (a == b) := (rfl)
theorem isn_lst {o : O} {xs : List D} : cmpop .isnot (.lst o xs) .non = .ok true := (rfl)
theorem isn_tup {xs : List D} : cmpop .isnot (.tup xs) .non = .ok true := (rfl)
theorem isn_int {i : Int} : cmpop .isnot (.int i) .non = .ok true := (rfl)
theorem isn_str {i : Cs} : cmpop .isnot (.str i) .non = .ok true := (rfl)
theorem isn_non : cmpop .isnot .non .non = .ok false := (rfl)
theorem set_last {α : Type} {xs : List α} {a b : α} : (xs ++ [a]).set xs.length b = xs ++ [b] := by simp
theorem atI_snoc {α : Type} {xs : List α} {a : α} : atI (xs ++ [a]) (-1) = some a := by
  rw [atI_neg (by simp)]
  simp
theorem ixN_snoc {α : Type} {xs : List α} {a : α} : ixN (xs ++ [a]).length (-1) = some xs.length := by
  rw [ixN_last (by simp)]
  simp
theorem cut_0 {α : Type} {xs : List α} {n : Nat} : cut xs none (some (n : Int)) = xs.take n := by
  unfold cut
  rw [HT.sIx_nat]
  have : HT.sIx xs.length 0 none = 0 := rfl
  rw [this]
  simp
theorem cut_b {α : Type} {xs : List α} {n : Nat} : cut xs (some (n : Int)) none = xs.drop n := by
  unfold cut
  rw [HT.sIx_nat]
  have : HT.sIx xs.length xs.length none = xs.length := rfl
  rw [this, List.drop_eq_drop_iff.mpr (show min (min n xs.length) xs.length = min n xs.length by omega)]
  rw [List.take_of_length_le (by rw [List.length_drop]; omega)]
theorem cut_all {α : Type} {xs : List α} : cut xs none none = xs := by
  unfold cut
  have : HT.sIx xs.length xs.length none = xs.length := rfl
  have h2 : HT.sIx xs.length 0 none = 0 := rfl
  rw [this, h2]
  simp
end Q
namespace Q
open L2
theorem min_map {α : Type} {o : O} {g : α → Int} {xs : List α} (h : xs ≠ []) : fMin [.lst o (xs.map fun a => D.int (g a))] = .ok (.int (minL (xs.map g))) := by
  cases xs with
  | nil => exact absurd rfl h
  | cons a r =>
    show (match intsOf ((a :: r).map fun a => D.int (g a)) with
      | some (n :: ns) => R.ok (D.int (minL (n :: ns)))
      | _ => fMinG ((a :: r).map fun a => D.int (g a))) = _
    rw [intsOf_mapg]; rfl
theorem max_map {α : Type} {o : O} {g : α → Int} {xs : List α} (h : xs ≠ []) : fMax [.lst o (xs.map fun a => D.int (g a))] = .ok (.int (maxL (xs.map g))) := by
  cases xs with
  | nil => exact absurd rfl h
  | cons a r =>
    show (match intsOf ((a :: r).map fun a => D.int (g a)) with
      | some (n :: ns) => R.ok (D.int (maxL (n :: ns)))
      | _ => match tupsOf ((a :: r).map fun a => D.int (g a)) with
        | some (p :: ps) => .ok (.tup ((maxT p ps).map D.int))
        | _ => .bad) = _
    rw [intsOf_mapg]; rfl
/-! the greatest of pairs -/
def pl (q : Int × Int) : List Int := [q.1, q.2]
def gtP (a b : Int × Int) : Bool := decide (b.1 < a.1 ∨ b.1 = a.1 ∧ b.2 < a.2)
def maxP (a : Int × Int) (r : List (Int × Int)) : Int × Int := r.foldl (fun a y => if gtP y a then y else a) a
theorem ltL_pl (a b : Int × Int) : ltL (pl a) (pl b) = gtP b a := by
  show HT.lexLt [a.1, a.2] [b.1, b.2] = _
  rw [HT.lexLt_cons, HT.lexLt_cons, HT.lexLt_nil_nil]
  unfold gtP
  by_cases h : a.1 = b.1
  · rw [if_pos h]
    by_cases h2 : a.2 = b.2
    · rw [if_pos h2]; exact (decide_eq_false (by omega)).symm
    · rw [if_neg h2]; rw [Bool.eq_iff_iff, decide_eq_true_eq, decide_eq_true_eq]; omega
  · rw [if_neg h]; rw [Bool.eq_iff_iff, decide_eq_true_eq, decide_eq_true_eq]; omega
theorem maxT_pl : ∀ (r : List (Int × Int)) (a : Int × Int), maxT (pl a) (r.map pl) = pl (maxP a r)
  | [], a => rfl
  | b :: r, a => by
    show maxT (if ltL (pl a) (pl b) then pl b else pl a) (r.map pl) = pl (maxP (if gtP b a then b else a) r)
    rw [ltL_pl]
    cases gtP b a
    · exact maxT_pl r a
    · exact maxT_pl r b
theorem tupsOf_pl : ∀ r : List (Int × Int), tupsOf (r.map fun q : Int × Int => D.tup [.int q.1, .int q.2]) = some (r.map pl)
  | [] => rfl
  | a :: r => by
    show (tupsOf (r.map fun q : Int × Int => D.tup [.int q.1, .int q.2])).map ([a.1, a.2] :: ·) = _
    rw [tupsOf_pl r]; rfl
theorem max_prs {o : O} {a : Int × Int} {r : List (Int × Int)} : fMax [.lst o ((a :: r).map fun q : Int × Int => D.tup [.int q.1, .int q.2])] = .ok (.tup [.int (maxP a r).1, .int (maxP a r).2]) := by
  show (match intsOf ((a :: r).map fun q : Int × Int => D.tup [.int q.1, .int q.2]) with
    | some (n :: ns) => R.ok (D.int (maxL (n :: ns)))
    | _ => match tupsOf ((a :: r).map fun q : Int × Int => D.tup [.int q.1, .int q.2]) with
      | some (p :: ps) => .ok (.tup ((maxT p ps).map D.int))
      | _ => .bad) = _
  rw [tupsOf_pl]
  show R.ok (D.tup ((maxT (pl a) (r.map pl)).map D.int)) = _
  rw [maxT_pl]; rfl
theorem maxP_mem : ∀ (r : List (Int × Int)) (a : Int × Int), maxP a r ∈ a :: r
  | [], a => List.mem_cons_self
  | b :: r, a => by
    show maxP (if gtP b a then b else a) r ∈ _
    cases gtP b a
    · rcases List.mem_cons.mp (maxP_mem r a) with h | h
      · rw [show maxP (if false = true then b else a) r = maxP a r from rfl, h]; exact List.mem_cons_self
      · exact List.mem_cons_of_mem _ (List.mem_cons_of_mem _ h)
    · exact List.mem_cons_of_mem _ (maxP_mem r b)
theorem maxP_ge : ∀ (r : List (Int × Int)) (a q : Int × Int), q ∈ a :: r → gtP q (maxP a r) = false
  | [], a, q, h => by
    cases List.mem_singleton.mp h
    exact decide_eq_false (by show ¬ (a.1 < a.1 ∨ a.1 = a.1 ∧ a.2 < a.2); omega)
  | b :: r, a, q, h => by
    show gtP q (maxP (if gtP b a then b else a) r) = false
    have tr : ∀ x y z : Int × Int, gtP x y = false → gtP y z = false → gtP x z = false := fun x y z h1 h2 => by
      have h1 := of_decide_eq_false h1
      have h2 := of_decide_eq_false h2
      exact decide_eq_false (by omega)
    cases hb : gtP b a
    · have hm := maxP_ge r a a List.mem_cons_self
      rcases List.mem_cons.mp h with rfl | h
      · exact hm
      · rcases List.mem_cons.mp h with rfl | h
        · exact tr _ _ _ hb hm
        · exact maxP_ge r a q (List.mem_cons_of_mem _ h)
    · have hm := maxP_ge r b b List.mem_cons_self
      rcases List.mem_cons.mp h with rfl | h
      · refine tr _ _ _ ?_ hm
        have hb := of_decide_eq_true hb
        exact decide_eq_false (by omega)
      · exact maxP_ge r b q h
theorem minL_cons {a b : Int} {r : List Int} : minL (a :: b :: r) = min a (minL (b :: r)) := rfl
theorem maxL_cons {a b : Int} {r : List Int} : maxL (a :: b :: r) = max a (maxL (b :: r)) := rfl
theorem minL_mem : ∀ {xs : List Int}, xs ≠ [] → minL xs ∈ xs
  | [], h => absurd rfl h
  | [a], _ => List.mem_cons_self
  | a :: b :: r, _ => by
    have ih := minL_mem (xs := b :: r) (by simp)
    rw [minL_cons]
    rcases Int.le_total a (minL (b :: r)) with h | h
    · rw [Int.min_eq_left h]; exact List.mem_cons_self
    · rw [Int.min_eq_right h]; exact List.mem_cons_of_mem _ ih
theorem minL_le : ∀ {xs : List Int} {x : Int}, x ∈ xs → minL xs ≤ x
  | [a], x, h => by cases List.mem_singleton.mp h; exact Int.le_refl _
  | a :: b :: r, x, h => by
    rw [minL_cons]
    rcases List.mem_cons.mp h with rfl | h
    · exact Int.min_le_left _ _
    · exact Int.le_trans (Int.min_le_right _ _) (minL_le h)
theorem maxL_mem : ∀ {xs : List Int}, xs ≠ [] → maxL xs ∈ xs
  | [], h => absurd rfl h
  | [a], _ => List.mem_cons_self
  | a :: b :: r, _ => by
    have ih := maxL_mem (xs := b :: r) (by simp)
    rw [maxL_cons]
    rcases Int.le_total a (maxL (b :: r)) with h | h
    · rw [Int.max_eq_right h]; exact List.mem_cons_of_mem _ ih
    · rw [Int.max_eq_left h]; exact List.mem_cons_self
theorem le_maxL : ∀ {xs : List Int} {x : Int}, x ∈ xs → x ≤ maxL xs
  | [a], x, h => by cases List.mem_singleton.mp h; exact Int.le_refl _
  | a :: b :: r, x, h => by
    rw [maxL_cons]
    rcases List.mem_cons.mp h with rfl | h
    · exact Int.le_max_left _ _
    · exact Int.le_trans (le_maxL h) (Int.le_max_right _ _)
end Q

namespace Q
theorem o_mulL {o : O} {a : List D} {k : Int} : binop .mul (.lst o a) (.int k) = if o ≠ .f ∧ -(2 ^ 63) ≤ k ∧ k < 2 ^ 63 ∧ a.length * k.toNat ≤ lim then .ok (.lst .w (List.replicate k.toNat (shs a)).flatten) else .bad := (rfl)
/-- [d] * n -/
theorem mulL_one {o : O} {d : D} {n : Nat} (ho : o ≠ .f) (hn : n ≤ 1000000) : binop .mul (.lst o [d]) (.int (n : Int)) = .ok (.lst .w (List.replicate n (sh d))) := by
  have h1 : (2 : Int) ^ 63 = 9223372036854775808 := by decide
  have hc : o ≠ .f ∧ -(2 ^ 63) ≤ (n : Int) ∧ (n : Int) < 2 ^ 63 ∧ [d].length * (n : Int).toNat ≤ lim := by
    rw [h1, lim_is, Int.toNat_natCast, List.length_singleton]
    exact ⟨ho, by omega, by omega, by omega⟩
  rw [o_mulL, if_pos hc, Int.toNat_natCast]
  have : ∀ n, (List.replicate n (shs [d])).flatten = List.replicate n (sh d) := fun n => by
    induction n with
    | zero => rfl
    | succ n ih => rw [List.replicate_succ, List.flatten_cons, ih, List.replicate_succ]; rfl
  rw [this]
end Q
namespace Q
theorem callL_s {N : Nat} {fs : List Def} {l j : Nat} {d : Def} {ds : List D} (h : fs[j]? = some d) : callL N fs (l + 1) j ds = runD (callL N fs l) N d ds := by
  show (match fs[j]? with
    | some d => runD (callL N fs l) N d ds
    | none => match fs[j % 1000]? with
      | some d => if 1000 ≤ j then runM (callL N fs l) N d (j / 1000 - 1) ds else .bad
      | none => .bad) = _
  rw [h]
theorem callL_m {N : Nat} {fs : List Def} {l j : Nat} {d : Def} {ds : List D} (h0 : fs[j]? = none) (h : fs[j % 1000]? = some d) (hj : 1000 ≤ j) : callL N fs (l + 1) j ds = runM (callL N fs l) N d (j / 1000 - 1) ds := by
  show (match fs[j]? with
    | some d => runD (callL N fs l) N d ds
    | none => match fs[j % 1000]? with
      | some d => if 1000 ≤ j then runM (callL N fs l) N d (j / 1000 - 1) ds else .bad
      | none => .bad) = _
  rw [h0]
  dsimp only
  rw [h]
  exact if_pos hj
/-- a call, from its def -/
theorem callL_r {N : Nat} {fs : List Def} {l j : Nat} {d : Def} {ds : List D} {r : R D} (h : fs[j]? = some d) (e : runD (callL N fs l) N d ds = r) : callL N fs (l + 1) j ds = r := (callL_s h).trans e
theorem callL_W {N : Nat} {fs : List Def} {l j : Nat} {d : Def} {ds : List D} {P : D → Prop} {X : Ex → Prop} (h : fs[j]? = some d) (e : W (runD (callL N fs l) N d ds) P X) : W (callL N fs (l + 1) j ds) P X := by
  rw [callL_s h]; exact e
end Q

namespace Q
theorem updD_w {xs ds : List (Ky × D)} {e : D} : (updD xs (.dic .w ds) = some e) = (e = .dic .w (mergeD ds xs) ∧ ds.length + xs.length ≤ lim) := by
  unfold updD
  by_cases h : ds.length + xs.length ≤ lim
  · simp only [h, if_true, and_true, Option.some.injEq]; exact propext ⟨Eq.symm, Eq.symm⟩
  · simp [h]
end Q
namespace Q
open L2
theorem sum_bound {c : Int} (hc : 0 ≤ c) : ∀ {xs : List Int}, (∀ x ∈ xs, 0 ≤ x ∧ x ≤ c) → 0 ≤ xs.sum ∧ xs.sum ≤ c * xs.length
  | [], _ => by simp
  | x :: xs, h => by
    have ih := sum_bound hc (xs := xs) fun y hy => h y (List.mem_cons_of_mem _ hy)
    have hx := h x List.mem_cons_self
    rw [List.sum_cons, List.length_cons, Int.natCast_add, Int.mul_add]
    simp only [Int.natCast_one, Int.mul_one]
    omega
theorem cut_memL {α : Type} {xs : List α} {lo hi : Option Int} {x : α} (h : x ∈ cut xs lo hi) : x ∈ xs := List.mem_of_mem_drop (List.mem_of_mem_take h)
theorem cut_lenL {α : Type} {xs : List α} {lo hi : Option Int} : (cut xs lo hi).length ≤ xs.length := by
  unfold cut
  rw [List.length_take, List.length_drop]
  omega
theorem slic_ints {o : O} {xs : List Int} {lo hi : Option Int} : slic (.lst o (xs.map D.int)) lo hi = .ok (.lst .w ((cut xs lo hi).map D.int)) := slic_lst
theorem sum_ints {o : O} {xs : List Int} : fSum [.lst o (xs.map D.int)] = .ok (.int xs.sum) := by
  have := sum_map (o := o) (g := fun a : Int => a) (ns := xs)
  rw [List.map_id'] at this
  exact this
theorem sh_ints {xs : List Int} : shs (xs.map D.int) = xs.map D.int := shs_map' fun _ => rfl
theorem eq_ints_nil {o o' : O} {xs : List Int} : cmpop .eq (.lst o (xs.map D.int)) (.lst o' []) = .ok xs.isEmpty := by
  rw [eq_lsts (Nat.le_trans (deps_map (f := D.int) (n := 0) (fun _ => Nat.le_refl _) _) (by omega)) (by decide)]
  cases xs <;> rfl
theorem ne_ints_nil {o o' : O} {xs : List Int} : cmpop .ne (.lst o (xs.map D.int)) (.lst o' []) = .ok (!xs.isEmpty) := by
  show (cmpop .eq (.lst o (xs.map D.int)) (.lst o' [])).nt = _
  rw [eq_ints_nil]; rfl
end Q
namespace Q
theorem putD_len (kvs : List (Ky × D)) (k : Ky) (v : D) : (putD kvs k v).length ≤ kvs.length + 1 := by
  unfold putD
  split
  · rw [List.length_map]; omega
  · rw [List.length_append]; exact Nat.le_refl _
theorem mergeD_len : ∀ (more kvs : List (Ky × D)), (mergeD kvs more).length ≤ kvs.length + more.length
  | [], kvs => Nat.le_refl _
  | p :: r, kvs => by
    have h1 := mergeD_len r (putD kvs p.1 p.2)
    have h2 := putD_len kvs p.1 p.2
    show (mergeD (putD kvs p.1 p.2) r).length ≤ _
    rw [List.length_cons]; omega
theorem shk_len (kvs : List (Ky × D)) : (shk kvs).length = kvs.length := by
  have := congrArg List.length (shk_keys kvs)
  simpa using this
end Q
namespace Q
theorem putD_new {kvs : List (Ky × D)} {k : Ky} {v : D} (h : k ∉ kvs.map (·.1)) : putD kvs k v = kvs ++ [(k, v)] := by
  unfold putD
  rw [if_neg]
  intro q
  obtain ⟨p, hp, e⟩ := List.any_eq_true.mp q
  exact h (List.mem_map.mpr ⟨p, hp, of_decide_eq_true e⟩)
theorem mergeD_app : ∀ {more kvs : List (Ky × D)}, (kvs.map (·.1) ++ more.map (·.1)).Nodup → mergeD kvs more = kvs ++ more
  | [], kvs, _ => (List.append_nil _).symm
  | p :: r, kvs, h => by
    have h2 : p.1 ∉ kvs.map (·.1) := by
      intro m
      rw [List.nodup_append] at h
      exact h.2.2 _ m _ (by simp) rfl
    show mergeD (putD kvs p.1 p.2) r = _
    rw [putD_new h2, mergeD_app (by rw [List.map_append, List.append_assoc]; exact h), List.append_assoc]
    rfl
end Q

namespace Q
/-- lists with dicts among the items -/
theorem eq_items {o o' : O} {xs ys : List D} (h1 : 64 ≤ deps xs) (h2 : itemsEq xs ys = true) : cmpop .eq (.lst o xs) (.lst o' ys) = .ok true := by
  show (if dep (.lst o xs) ≤ 64 ∧ dep (.lst o' ys) ≤ 64 then R.ok (deq (.lst o xs) (.lst o' ys)) else if itemsEq xs ys then .ok true else .bad) = _
  have e1 : dep (.lst o xs) = deps xs + 1 := rfl
  rw [if_neg (by omega), if_pos h2]
theorem ne_items {o o' : O} {xs ys : List D} (h1 : 64 ≤ deps xs) (h2 : itemsEq xs ys = true) : cmpop .ne (.lst o xs) (.lst o' ys) = .ok false := by
  show (cmpop .eq (.lst o xs) (.lst o' ys)).nt = _
  rw [eq_items h1 h2]; rfl
theorem itemEq_plain {x y : D} (h1 : dep x ≤ 64) (h2 : dep y ≤ 64) (h : deq x y = true) : itemEq x y = true := by
  have e : (decide (dep x ≤ 64) && (decide (dep y ≤ 64) && deq x y)) = true := by rw [decide_eq_true h1, decide_eq_true h2, h]; rfl
  unfold itemEq
  split
  · exact absurd h1 (by show ¬ 100 ≤ 64; omega)
  · exact e
end Q
namespace Q
open L2
theorem cut_m1 {α : Type} {xs : List α} : cut xs none (some (-1)) = xs.take (xs.length - 1) := by
  unfold cut
  have h1 : HT.sIx xs.length 0 none = 0 := rfl
  have h2 : HT.sIx xs.length xs.length (some (-1)) = xs.length - 1 := by
    show (if (-1 : Int) < 0 then ((-1 : Int) + (xs.length : Int)).toNat else min (-1 : Int).toNat xs.length) = _
    rw [if_pos (by decide)]; omega
  rw [h1, h2]
  simp
/-- two cuts, one behind the other -/
theorem cut_cut {α : Type} {xs : List α} {a b c : Int} (h0 : 0 ≤ a) (h1 : a ≤ b) (h2 : b ≤ c) (h3 : c ≤ xs.length) : cut xs (some a) (some b) ++ cut xs (some b) (some c) = cut xs (some a) (some c) := by
  obtain ⟨i, rfl⟩ : ∃ i : Nat, a = i := ⟨a.toNat, by omega⟩
  obtain ⟨j, rfl⟩ : ∃ j : Nat, b = j := ⟨b.toNat, by omega⟩
  obtain ⟨k, rfl⟩ : ∃ k : Nat, c = k := ⟨c.toNat, by omega⟩
  rw [cut_nn (by omega) (by omega), cut_nn (by omega) (by omega), cut_nn (by omega) (by omega)]
  have e1 : xs.drop j = (xs.drop i).drop (j - i) := by rw [List.drop_drop]; congr 1; omega
  rw [e1, show k - i = (j - i) + (k - j) by omega, List.take_add]
end Q
namespace Q
theorem c_eqis {i : Int} {s : Cs} : cmpop .eq (.int i) (.str s) = .ok false := (rfl)
theorem c_eqsi {i : Int} {s : Cs} : cmpop .eq (.str s) (.int i) = .ok false := (rfl)
theorem c_neis {i : Int} {s : Cs} : cmpop .ne (.int i) (.str s) = .ok true := (rfl)
theorem c_nesi {i : Int} {s : Cs} : cmpop .ne (.str s) (.int i) = .ok true := (rfl)
end Q

set_option maxHeartbeats 1000000
namespace Q

/-! ## exceptions, in pure proofs -/
section
variable {C : Nat → List D → R D} {N : Nat} {e0 : Option D} {en : Env} {P : Env → Fl → Prop} {X : Ex → Env → Prop}
theorem t_raise {c : Nat} : T (evS C N (.raise c none) (e0 :: en)) P X = X ⟨c, none⟩ (e0 :: en) := by
  show T (.exc ⟨c, none⟩ (e0 :: en)) P X = _
  rw [T_exc]
theorem T_try {x : RS} {f : Ex → Env → RS} : T (x.try_ f) P X = T x P (fun e env => T (f e env) P X) := by
  cases x with
  | ok env g => show T (.ok env g) P X = _; rw [T_ok, T_ok]
  | exc e env => show T (f e env) P X = _; rw [T_exc]
  | bad => show T .bad P X = _; rw [T_bad, T_bad]
theorem t_tryx {b : List S} {c : Nat} {q : Option Nat} {as : List (Nat × E)} {r : E} : T (evS C N (.tryx b c q as r) (e0 :: en)) P X = T (evSs C N b (e0 :: en)) P (fun x env => (x.cls = c ∧ x.row = none ∧ hOk q as env.length = true) ∧ W (hev C as r (offq q env)) (fun d => P env (.rt d)) nE) := by
  show T ((evSs C N b (e0 :: en)).try_ fun x env' => if x.cls = c ∧ x.row = none ∧ hOk q as env'.length = true then (match hev C as r (offq q env') with
    | .ok d => .ok env' (.rt d)
    | _ => .bad) else .bad) P X = _
  rw [T_try]
  congr 1
  funext x env
  rw [T_grd]
  congr 1
  rw [W_def]
  cases hev C as r (offq q env) with
  | ok d => exact T_ok
  | exc e => exact T_bad
  | bad => exact T_bad
theorem t_tryc {b : List S} {c q i : Nat} {m : E} : T (evS C N (.tryc b c q i m) (e0 :: en)) P X = T (evSs C N b (e0 :: en)) P (fun x env => (x.cls = c ∧ x.row = none ∧ hOk (some q) [(i, m)] env.length = true) ∧ W (ev C m (offq (some q) env)) (fun d => P ((offq (some q) env).set i (some (sh d))) .nx) nE) := by
  show T ((evSs C N b (e0 :: en)).try_ fun x env' => if x.cls = c ∧ x.row = none ∧ hOk (some q) [(i, m)] env'.length = true then (match ev C m (offq (some q) env') with
    | .ok d => .ok ((offq (some q) env').set i (some (sh d))) .nx
    | _ => .bad) else .bad) P X = _
  rw [T_try]
  congr 1
  funext x env
  rw [T_grd]
  congr 1
  rw [W_def]
  cases ev C m (offq (some q) env) with
  | ok d => exact T_ok
  | exc e => exact T_bad
  | bad => exact T_bad
theorem t_fapp {i v : Nat} {p : List E} {as : List (List Int × E)} : T (evS C N (.fapp i p v as) (e0 :: en)) P X = W (evs C p (e0 :: en)) (fun ks => W (cvs C (e0 :: en).length as) (fun cs => v < (e0 :: en).length ∧ T (upd1 (fappD cs) i ks (e0 :: en)) (onw P fun env' => P (env'.set v none) .nx) X) nE) nE := by
  show T ((evs C p (e0 :: en)).quiet.s (e0 :: en) fun ks => (cvs C (e0 :: en).length as).quiet.s (e0 :: en) fun cs => if v < (e0 :: en).length then (upd1 (fappD cs) i ks (e0 :: en)).b fun env' => .ok (env'.set v none) .nx else .bad) P X = _
  rw [T_s, W_q]
  congr 1
  funext ks
  rw [T_s, W_q]
  congr 1
  funext cs
  rw [T_grd, T_b]
  simp only [T_ok]
theorem t_appc {i f m : Nat} {e : E} : T (evS C N (.appc i f e m) (e0 :: en)) P X = (m ≠ i ∧ W (ev C e (e0 :: en)) (fun d => W (look (e0 :: en) m) (fun y => T (aftM i m (C f [sh d, y]) (e0 :: en)) P X) nE) nE) := by
  show T (if m ≠ i then (ev C e (e0 :: en)).quiet.s (e0 :: en) fun d => (look (e0 :: en) m).quiet.s (e0 :: en) fun y => aftM i m (C f [sh d, y]) (e0 :: en) else .bad) P X = _
  rw [T_grd, T_s, W_q]
  congr 2
  funext d
  rw [T_s, W_q]
theorem T_aftM {i m : Nat} {x : R D} {v y : D} {env : Env} (h : x = .ok (.tup [v, y])) (hp : T (upd1 (appD v) i [] (env.set m (some y))) P X) : T (aftM i m x env) P X := by
  subst h; exact hp
theorem w_h0 {r : E} {env : Env} {Pd : D → Prop} {Xe : Ex → Prop} : W (hev C [] r env) Pd Xe = W (ev C r env) Pd Xe := rfl
theorem w_h1 {i : Nat} {e r : E} {as : List (Nat × E)} {env : Env} {Pd : D → Prop} {Xe : Ex → Prop} : W (hev C ((i, e) :: as) r env) Pd Xe = W (ev C e env) (fun d => W (hev C as r (env.set i (some (sh d)))) Pd Xe) Xe := by
  show W ((ev C e env).b fun d => hev C as r (env.set i (some (sh d)))) Pd Xe = _
  rw [W_b]
theorem offq_n {env : Env} : offq none env = env := (rfl)
theorem offq_s {q : Nat} {env : Env} : offq (some q) env = env.set q none := (rfl)
end
theorem W_runM {C : Nat → List D → R D} {N : Nat} {d : Def} {k : Nat} {ds : List D} {q : List S × Nat} {r : D} (h0 : ds.length = d.np) (hq : splitR d.body = some q)
    (h : T (evSs C N q.1 (startE d.ns ds)) (onw (fun _ _ => False) fun env => ∃ v x, env[q.2]? = some (some v) ∧ env[k]? = some (some x) ∧ r = .tup [v, x]) (fun _ _ => False)) : runM C N d k ds = .ok r := by
  unfold runM
  rw [if_pos h0, hq]
  dsimp only
  rw [T_def] at h
  split at h
  · rename_i env f e
    rw [e]
    cases f with
    | nx =>
      obtain ⟨v, x, e1, e2, rfl⟩ := h
      dsimp only
      rw [e1, e2]
    | rt _ => exact h.elim
    | bk => exact h.elim
    | ct => exact h.elim
  · exact h.elim
  · exact h.elim
end Q

set_option maxHeartbeats 2000000
namespace K25
open Q L2
local macro_rules | `(tactic| wp_walk using $ts,*) => `(tactic| simp only [↓t_cons, ↓t_nil, ↓t_set, ↓t_setm, ↓t_unp, ↓t_unpm, t_unpmS, ↓t_appm, mvs_nil, mvs_e, mvs_m, offs_nil, offs_cons, List.contains_nil, List.contains_cons, Nat.reduceBEq, ↓t_app, ↓t_apz, ↓t_sto, ↓t_ext, t_extS, t_extT, ↓t_clr, ↓t_stot, ↓t_pop0, ↓t_popu, ↓t_upd, t_updS, ↓t_exp, ↓t_for, ↓t_forB, ↓t_forh, ↓t_whl, ↓t_ret, ↓t_retm, ↓t_rett, ↓t_pass, ↓t_brk, ↓t_cont, ↓w_lit, ↓w_var, ↓w_mvar, ↓w_look0, ↓w_lookS, ↓w_bin, ↓w_neg, ↓w_cmp, ↓w_chain, ↓w_and, ↓w_or, ↓w_not, ↓w_iteE, ↓w_call, ↓w_call0, ↓w_callo, ownA_c, ↓w_bf, ↓w_meth, ↓w_fstr, m_lower, m_upper, m_starts, m_ends, m_find, m_joinL, m_joinT, m_get, fm_nil, fm_cons, fmt_str, fmt_int, rev_str, c_insign, c_nisign, str_int, ↓w_isi, ↓w_sub, ↓w_slice, ↓w_rev, ↓w_tup, ↓w_lst, ↓w_dic, ↓w_dict0, ↓w_comp, ↓w_nil, ↓w_cons, ↓w_rnil, ↓w_re, ↓w_rm, ↓w_onone, ↓w_osome, ↓w_cnil, ↓w_ccons, ↓w_val, ↓w_r1, ↓w_r2, ↓w_r3, ↓w_enum, ↓w_zip, ↓w_step, t_cons, t_nil, t_set, t_setm, t_unp, t_app, t_apz, t_sto, t_ext, t_clr, t_stot, t_pop0, t_popu, t_exp, t_upd, t_for, t_forB, t_whl, t_ret, t_retm, t_rett, t_pass, t_brk, t_cont, w_var, w_look0, w_lookS, w_comp, w_step, W_ok, W_exc, W_bad, W_b, W_grd, T_ok, T_exc, T_bad, T_upd1, wB_bl, wI_int, onw_nx, onw_rt, onw_bk, onw_ct, lpP_nx, lpP_ct, lpP_bk, lpP_rt, retP_nx, retP_rt, stE_nil, stE_cons, sh_int, sh_str, sh_bl, sh_non, sh_tup, sh_lst, sh_dic, shw, shS, shF, shs_nil, shs_cons, noSh_int, noSh_str, noSh_bl, noSh_non, noSh_tup, noSh_lst, noShs_nil, noShs_cons, now, noS, noF, bf_maxd, bf_len, bf_sum, bf_max, bf_min, bf_all, bf_any, bf_int, bf_str, bf_tuple, bf_list, bf_dict, len_lst, len_tup, len_ptu, len_str, len_dic, max_two, min_two, int_int, int_bl, list_lst, list_tup, tuple_lst, tuple_tup, dict_dic, sum_map, getD_map, getT_map, getS, g_t0, g_t1, g_t2, g_t3, g_l0, g_l1, g_l2, w_itL, w_itT, w_itS, w_itP, sh_tupD, sh_ptu, noSh_ptu, dict_ptu, w_enL, w_enS, w_zpT2, w_zpL, w_zpT, b_n, b_t2, b_l2, b_t3, b_t4, wipe_n, wipe_t2, wipe_t3, upS_nil, pathOk_def, canL_w, appD_w, extD_w, clrD_w, pop0D_w, updD_w, stoD_l, o_add, o_sub, o_mul, o_mod, o_fdiv, o_cat, c_lt, c_gt, c_le, c_ge, c_eqi, c_eqs, c_nei, c_nes, c_eqis, c_eqsi, c_neis, c_nesi, f_nil, frz_cons, mod_0, mod_S, Option.map_some, Option.map_none, startE_def, List.map_cons, List.map_nil, List.length_cons, List.length_nil, List.replicate_succ, List.replicate_zero, List.cons_append, List.nil_append, List.append_nil, List.set_cons_zero, List.set_cons_succ, List.getElem?_cons_zero, List.getElem?_cons_succ, Nat.reduceAdd, Nat.reduceSub, Int.reduceLT, Int.reduceLE, Int.reduceNeg, Int.reduceAdd, Int.reduceSub, Int.reduceMul, Int.reduceEq, Int.reduceNe, Bool.or_true, Bool.true_or, Bool.or_false, Bool.false_or, Bool.and_true, Bool.true_and, Bool.and_false, Bool.false_and, Bool.not_true, Bool.not_false, Bool.not_eq_true, Bool.or_eq_true, Bool.and_eq_true, Bool.not_eq_eq_eq_not, decide_eq_true_eq, decide_eq_false_iff_not, beq_iff_eq, beq_eq_false_iff_ne, Bool.false_eq_true, Bool.true_eq_false, eq_self, ne_eq, not_true_eq_false, not_false_eq_true, if_true, if_false, reduceIte, ite_true, ite_false, true_and, and_true, false_and, and_false, true_or, or_true, false_or, or_false, true_implies, false_implies, implies_true, forall_const, Option.some.injEq, Option.isSome_some, Option.getD_some, exists_eq_left, exists_eq_left', exists_eq_right, List.isEmpty_nil, List.isEmpty_cons, reduceCtorEq, grd_and, ok_int, ok_bl, ok_str, ok_non, ok_tup, ok_lst, ok_dic, ok_ptu, Q.isTy_ii, Q.isTy_ib, Q.isTy_is, Q.isTy_bb, Q.isTy_bi, Q.isTy_ss, Q.isTy_si, Q.isTy_sb, Q.isTy_ll, Q.isTy_tt, Q.isTy_lt, Q.isTy_tl, Q.isTy_ni, Q.isTy_ns, List.any_cons, List.any_nil, if_pb, and_assoc, lim_is, Nat.reduceLT, Nat.reduceLeDiff, is_lst, is_tup, is_int, is_str, is_non, is_bl, isn_lst, isn_tup, isn_int, isn_str, isn_non, sh_scr, eq_emp, len_scr, get_scr, $[$ts:term],*])
local macro_rules | `(tactic| wp_walk) => `(tactic| wp_walk using if_true)
abbrev Sp := Int × Int × Cs
def spD (q : Sp) : D := .tup [.int q.1, .int q.2.1, .str q.2.2]
structure Rw where
  h : Int
  sp : List Sp
  m : Nat
def rwD (o : O) (r : Rw) : D := .tup [.int r.h, .lst o (r.sp.map spD), .int (r.m : Int)]
abbrev Tm := Int × Rw
def stD (s : Tm) : D := .tup [.int s.1, .int s.2.h, .int 0, .int (s.2.m : Int)]
def rtD (s : Tm) : D := rwD .s s.2
def ntD (o : O) (n : List Rw) : D := .lst o (n.map (rwD o))
theorem sh_spD (q : Sp) : sh (spD q) = spD q := rfl
theorem shs_sp (xs : List Sp) : shs (xs.map spD) = xs.map spD := shs_map' fun _ => rfl
theorem sh_rw (o : O) (r : Rw) : sh (rwD o r) = rwD o.sh r := by
  show D.tup [.int r.h, .lst o.sh (shs (r.sp.map spD)), .int r.m] = _
  rw [shs_sp]; rfl
theorem shs_rw (o : O) (n : List Rw) : shs (n.map (rwD o)) = n.map (rwD o.sh) := by
  induction n with
  | nil => rfl
  | cons r n ih => show sh (rwD o r) :: shs (n.map (rwD o)) = _; rw [sh_rw, ih]; rfl
theorem sh_nt (o : O) (n : List Rw) : sh (ntD o n) = ntD o.sh n := by
  show D.lst o.sh (shs (n.map (rwD o))) = _
  rw [shs_rw]; rfl
def lower (t : Int) (sp : List Sp) : List Sp := sp.map fun q => (t + q.1, q.2)
def nx (f : Bool) (t g : Int) : Int := if f then t else t + g
def bodyS : Bool → Int → List Tm → List Sp
  | _, _, [] => []
  | f, t, x :: l => lower (nx f t x.1) x.2.sp ++ bodyS false (nx f t x.1 + x.2.h) l
def bodyT : Bool → Int → List Tm → Int
  | _, t, [] => t
  | f, t, x :: l => bodyT false (nx f t x.1 + x.2.h) l
def footS : Int → List Rw → List Sp
  | _, [] => []
  | t, r :: l => lower t r.sp ++ footS (t + r.h) l
def footT : Int → List Rw → Int
  | t, [] => t
  | t, r :: l => footT (t + r.h) l
def seg {α : Type} (xs : List α) (b e : Nat) : List α := (xs.take e).drop b
theorem seg_cons {α : Type} {xs : List α} {b e : Nat} (h : b < e) (he : e ≤ xs.length) : seg xs b e = xs[b] :: seg xs (b + 1) e := by
  unfold seg
  rw [List.drop_eq_getElem_cons (by rw [List.length_take]; omega), List.getElem_take]
theorem seg_nil {α : Type} {xs : List α} {b e : Nat} (h : e ≤ b) : seg xs b e = [] := by
  unfold seg
  exact List.drop_of_length_le (by rw [List.length_take]; omega)
theorem seg_cut {α : Type} {xs : List α} {b e : Nat} (h : b ≤ e) (he : e ≤ xs.length) : cut xs (some (b : Int)) (some (e : Int)) = seg xs b e := by
  rw [cut_nn (by omega) he]
  unfold seg
  rw [List.drop_take]
theorem shs_st (xs : List Tm) : shs (xs.map stD) = xs.map stD := shs_map' fun _ => rfl
theorem shs_rt (xs : List Tm) : shs (xs.map rtD) = xs.map rtD := shs_map' fun x => sh_rw .s x.2
theorem shs_nt (xs : List (List Rw)) : shs (xs.map (ntD .s)) = xs.map (ntD .s) := shs_map' fun x => sh_nt .s x
theorem lower_len (t : Int) (sp : List Sp) : (lower t sp).length = sp.length := List.length_map ..
structure RwOk (r : Rw) : Prop where
  len : r.sp.length ≤ 6
  h1 : 1 ≤ r.h
  h3 : r.h ≤ 3
  m : r.m ≤ 2
/-! ### one by one -/
abbrev HgC (C : Nat → List D → R D) : Prop := ∀ n : List Rw, W (C 0 [ntD .s n]) (fun r => r = .int (n.map (·.h)).sum) nE
theorem hg_run {C : Nat → List D → R D} {N : Nat} {n : List Rw} : W (runD C N d0 [ntD .s n]) (fun r => r = .int (n.map (·.h)).sum) nE := by
  refine W_run rfl rfl ?_
  wp_walk using b0, ntD
  refine W_cmap (inj := rwD .s) (fun r => D.int r.h) (fun r _ => ?_) ?_
  · wp_walk using sh_rw, rwD
  · rw [W_eq sum_map]
    wp_walk
abbrev LwC (C : Nat → List D → R D) : Prop := ∀ (sp : List Sp) (t : Int), W (C 1 [.lst .s (sp.map spD), .int t]) (fun r => r = .lst .w ((lower t sp).map spD)) nE
theorem lw_run {C : Nat → List D → R D} {N : Nat} {sp : List Sp} {t : Int} : W (runD C N d1 [.lst .s (sp.map spD), .int t]) (fun r => r = .lst .w ((lower t sp).map spD)) nE := by
  refine W_run rfl rfl ?_
  wp_walk using b1
  refine W_cmap (inj := spD) (fun q => spD (t + q.1, q.2)) (fun q _ => ?_) ?_
  · wp_walk using sh_spD, spD
  · wp_walk
    unfold lower
    rw [List.map_map]; rfl
theorem at_its {its : List Tm} {k : Nat} (h : k < its.length) : atI its (k : Int) = some its[k] := atI_nat h
abbrev BdC (C : Nat → List D → R D) (its : List Tm) : Prop := ∀ b e : Nat, b ≤ e → e ≤ its.length → W (C 2 [.lst .s (its.map stD), .lst .s (its.map rtD), .int b, .int e]) (fun r => r = .tup [.lst .w ((bodyS true 0 (seg its b e)).map spD), .int (bodyT true 0 (seg its b e))]) nE
theorem bd_run {C : Nat → List D → R D} {N : Nat} {its : List Tm} {b e : Nat} (h1 : LwC C) (ok : ∀ x ∈ its, RwOk x.2) (hz : its.length ≤ 20) (hb : b ≤ e) (he : e ≤ its.length) : W (runD C N d2 [.lst .s (its.map stD), .lst .s (its.map rtD), .int b, .int e]) (fun r => r = .tup [.lst .w ((bodyS true 0 (seg its b e)).map spD), .int (bodyT true 0 (seg its b e))]) nE := by
  refine W_run rfl rfl ?_
  wp_walk using b2
  refine ⟨sized_of (by omega), sized_of (by omega), ?_⟩
  refine T_rng (fun i env => ∃ (acc : List Sp) (t : Int) (x6 : Option D), env = [some (.lst .s (its.map stD)), some (.lst .s (its.map rtD)), some (.int b), some (.int e), some (.lst .w (acc.map spD)), some (.int t), x6] ∧
    acc ++ bodyS (decide (i = 0)) t (seg its (b + i) e) = bodyS true 0 (seg its b e) ∧ bodyT (decide (i = 0)) t (seg its (b + i) e) = bodyT true 0 (seg its b e) ∧ acc.length ≤ 6 * i) ⟨[], 0, none, rfl, rfl, rfl, by simp⟩ ?_ ?_
  · rintro i _ hi ⟨acc, t, x6, rfl, e1, e2, hl⟩
    have hk : b + i < its.length := by omega
    have hat : atI its ((b : Int) + i) = some its[b + i] := by rw [← Int.natCast_add]; exact at_its hk
    have sc := seg_cons (xs := its) (b := b + i) (e := e) (by omega) he
    have okx := ok its[b + i] (List.getElem_mem hk)
    generalize its[b + i] = x at hat sc okx
    rw [sc] at e1 e2
    wp_walk using b2_0
    refine T_cut (fun env => env = [some (.lst .s (its.map stD)), some (.lst .s (its.map rtD)), some (.int b), some (.int e), some (.lst .w (acc.map spD)), some (.int (nx (decide (i = 0)) t x.1)), some (.int ((b : Int) + i))]) ?_ ?_
    · wp_walk using t_ifs, getD_map, hat, stD
      refine ⟨fun h => ?_, fun h => ?_⟩
      · unfold nx
        rw [decide_eq_false (by omega)]; rfl
      · unfold nx
        rw [decide_eq_true (by omega)]; rfl
    rintro _ rfl
    wp_walk using shs_sp, getD_map, hat, rtD, rwD
    refine W_nE (h1 _ _) ?_
    rintro _ rfl
    wp_walk using shs_sp, getD_map, hat, rtD, rwD
    refine ⟨by rw [List.length_map, List.length_map, lower_len]; have := okx.len; omega, ⟨acc ++ lower (nx (decide (i = 0)) t x.1) x.2.sp, _, _, by rw [List.map_append], ?_, ?_, ?_⟩⟩
    · rw [List.append_assoc]; exact e1
    · exact e2
    · rw [List.length_append, lower_len]; have := okx.len; omega
  · rintro _ ⟨acc, t, x6, rfl, e1, e2, hl⟩
    rw [seg_nil (by omega)] at e1 e2
    have e1 : acc ++ [] = _ := e1
    have e2 : t = _ := e2
    rw [List.append_nil] at e1
    wp_walk
    rw [e1, e2]
end K25

set_option maxHeartbeats 2000000
namespace K25
open Q L2
local macro_rules | `(tactic| wp_walk using $ts,*) => `(tactic| simp only [↓t_cons, ↓t_nil, ↓t_set, ↓t_setm, ↓t_unp, ↓t_unpm, t_unpmS, ↓t_appm, mvs_nil, mvs_e, mvs_m, offs_nil, offs_cons, List.contains_nil, List.contains_cons, Nat.reduceBEq, ↓t_app, ↓t_apz, ↓t_sto, ↓t_ext, t_extS, t_extT, ↓t_clr, ↓t_stot, ↓t_pop0, ↓t_popu, ↓t_upd, t_updS, ↓t_exp, ↓t_for, ↓t_forB, ↓t_forh, ↓t_whl, ↓t_ret, ↓t_retm, ↓t_rett, ↓t_pass, ↓t_brk, ↓t_cont, ↓w_lit, ↓w_var, ↓w_mvar, ↓w_look0, ↓w_lookS, ↓w_bin, ↓w_neg, ↓w_cmp, ↓w_chain, ↓w_and, ↓w_or, ↓w_not, ↓w_iteE, ↓w_call, ↓w_call0, ↓w_callo, ownA_c, ↓w_bf, ↓w_meth, ↓w_fstr, m_lower, m_upper, m_starts, m_ends, m_find, m_joinL, m_joinT, m_get, fm_nil, fm_cons, fmt_str, fmt_int, rev_str, c_insign, c_nisign, str_int, ↓w_isi, ↓w_sub, ↓w_slice, ↓w_rev, ↓w_tup, ↓w_lst, ↓w_dic, ↓w_dict0, ↓w_comp, ↓w_nil, ↓w_cons, ↓w_rnil, ↓w_re, ↓w_rm, ↓w_onone, ↓w_osome, ↓w_cnil, ↓w_ccons, ↓w_val, ↓w_r1, ↓w_r2, ↓w_r3, ↓w_enum, ↓w_zip, ↓w_step, t_cons, t_nil, t_set, t_setm, t_unp, t_app, t_apz, t_sto, t_ext, t_clr, t_stot, t_pop0, t_popu, t_exp, t_upd, t_for, t_forB, t_whl, t_ret, t_retm, t_rett, t_pass, t_brk, t_cont, w_var, w_look0, w_lookS, w_comp, w_step, W_ok, W_exc, W_bad, W_b, W_grd, T_ok, T_exc, T_bad, T_upd1, wB_bl, wI_int, onw_nx, onw_rt, onw_bk, onw_ct, lpP_nx, lpP_ct, lpP_bk, lpP_rt, retP_nx, retP_rt, stE_nil, stE_cons, sh_int, sh_str, sh_bl, sh_non, sh_tup, sh_lst, sh_dic, shw, shS, shF, shs_nil, shs_cons, noSh_int, noSh_str, noSh_bl, noSh_non, noSh_tup, noSh_lst, noShs_nil, noShs_cons, now, noS, noF, bf_maxd, bf_len, bf_sum, bf_max, bf_min, bf_all, bf_any, bf_int, bf_str, bf_tuple, bf_list, bf_dict, len_lst, len_tup, len_ptu, len_str, len_dic, max_two, min_two, int_int, int_bl, list_lst, list_tup, tuple_lst, tuple_tup, dict_dic, sum_map, getD_map, getT_map, getS, g_t0, g_t1, g_t2, g_t3, g_l0, g_l1, g_l2, w_itL, w_itT, w_itS, w_itP, sh_tupD, sh_ptu, noSh_ptu, dict_ptu, w_enL, w_enS, w_zpT2, w_zpL, w_zpT, b_n, b_t2, b_l2, b_t3, b_t4, wipe_n, wipe_t2, wipe_t3, upS_nil, pathOk_def, canL_w, appD_w, extD_w, clrD_w, pop0D_w, updD_w, stoD_l, o_add, o_sub, o_mul, o_mod, o_fdiv, o_cat, c_lt, c_gt, c_le, c_ge, c_eqi, c_eqs, c_nei, c_nes, c_eqis, c_eqsi, c_neis, c_nesi, f_nil, frz_cons, mod_0, mod_S, Option.map_some, Option.map_none, startE_def, List.map_cons, List.map_nil, List.length_cons, List.length_nil, List.replicate_succ, List.replicate_zero, List.cons_append, List.nil_append, List.append_nil, List.set_cons_zero, List.set_cons_succ, List.getElem?_cons_zero, List.getElem?_cons_succ, Nat.reduceAdd, Nat.reduceSub, Int.reduceLT, Int.reduceLE, Int.reduceNeg, Int.reduceAdd, Int.reduceSub, Int.reduceMul, Int.reduceEq, Int.reduceNe, Bool.or_true, Bool.true_or, Bool.or_false, Bool.false_or, Bool.and_true, Bool.true_and, Bool.and_false, Bool.false_and, Bool.not_true, Bool.not_false, Bool.not_eq_true, Bool.or_eq_true, Bool.and_eq_true, Bool.not_eq_eq_eq_not, decide_eq_true_eq, decide_eq_false_iff_not, beq_iff_eq, beq_eq_false_iff_ne, Bool.false_eq_true, Bool.true_eq_false, eq_self, ne_eq, not_true_eq_false, not_false_eq_true, if_true, if_false, reduceIte, ite_true, ite_false, true_and, and_true, false_and, and_false, true_or, or_true, false_or, or_false, true_implies, false_implies, implies_true, forall_const, Option.some.injEq, Option.isSome_some, Option.getD_some, exists_eq_left, exists_eq_left', exists_eq_right, List.isEmpty_nil, List.isEmpty_cons, reduceCtorEq, grd_and, ok_int, ok_bl, ok_str, ok_non, ok_tup, ok_lst, ok_dic, ok_ptu, Q.isTy_ii, Q.isTy_ib, Q.isTy_is, Q.isTy_bb, Q.isTy_bi, Q.isTy_ss, Q.isTy_si, Q.isTy_sb, Q.isTy_ll, Q.isTy_tt, Q.isTy_lt, Q.isTy_tl, Q.isTy_ni, Q.isTy_ns, List.any_cons, List.any_nil, if_pb, and_assoc, lim_is, Nat.reduceLT, Nat.reduceLeDiff, is_lst, is_tup, is_int, is_str, is_non, is_bl, isn_lst, isn_tup, isn_int, isn_str, isn_non, sh_scr, eq_emp, len_scr, get_scr, $[$ts:term],*])
local macro_rules | `(tactic| wp_walk) => `(tactic| wp_walk using if_true)
theorem foot_app : ∀ (a b : List Rw) (t : Int), footS t (a ++ b) = footS t a ++ footS (footT t a) b
  | [], b, t => rfl
  | r :: a, b, t => by
    show lower t r.sp ++ footS (t + r.h) (a ++ b) = (lower t r.sp ++ footS (t + r.h) a) ++ _
    rw [foot_app a b, List.append_assoc]; rfl
theorem footT_app : ∀ (a b : List Rw) (t : Int), footT t (a ++ b) = footT (footT t a) b
  | [], b, t => rfl
  | r :: a, b, t => footT_app a b (t + r.h)
theorem foot_len : ∀ (a : List Rw) (t : Int), (∀ r ∈ a, r.sp.length ≤ 6) → (footS t a).length ≤ 6 * a.length
  | [], t, _ => Nat.le_refl _
  | r :: a, t, h => by
    show (lower t r.sp ++ footS (t + r.h) a).length ≤ _
    have h1 := h r List.mem_cons_self
    have h2 := foot_len a (t + r.h) fun r hr => h r (List.mem_cons_of_mem _ hr)
    rw [List.length_append, lower_len, List.length_cons]; omega
structure NtOk (n : List Rw) : Prop where
  ne : n ≠ []
  len : n.length ≤ 3
  rw : ∀ r ∈ n, RwOk r ∧ r.h = 1
theorem flat_len : ∀ {ns : List (List Rw)}, (∀ n ∈ ns, NtOk n) → ns.flatten.length ≤ 3 * ns.length
  | [], _ => Nat.le_refl _
  | n :: r, h => by
    have h1 := (h n List.mem_cons_self).len
    have h2 := flat_len fun n hn => h n (List.mem_cons_of_mem _ hn)
    rw [List.flatten_cons, List.length_append, List.length_cons]; omega
theorem flat_ok {ns : List (List Rw)} (h : ∀ n ∈ ns, NtOk n) : ∀ r ∈ ns.flatten, RwOk r ∧ r.h = 1 := fun r hr => by
  obtain ⟨n, h1, h2⟩ := List.mem_flatten.mp hr
  exact (h n h1).rw r h2
abbrev FtC (C : Nat → List D → R D) (ns : List (List Rw)) : Prop := ∀ (f l : Nat) (t : Int), f ≤ l → l ≤ ns.length → W (C 3 [.lst .s (ns.map (ntD .s)), .int f, .int l, .int t]) (fun r => r = .lst .w ((footS t (seg ns f l).flatten).map spD)) nE
theorem seg_mem {α : Type} {xs : List α} {b e : Nat} {x : α} (h : x ∈ seg xs b e) : x ∈ xs := List.mem_of_mem_take (List.mem_of_mem_drop h)
theorem seg_len {α : Type} {xs : List α} {b e : Nat} : (seg xs b e).length ≤ xs.length := by
  unfold seg
  rw [List.length_drop, List.length_take]; omega
theorem ft_run {C : Nat → List D → R D} {N : Nat} {ns : List (List Rw)} {f l : Nat} {t : Int} (h1 : LwC C) (ok : ∀ n ∈ ns, NtOk n) (hz : ns.length ≤ 40) (hf : f ≤ l) (hl : l ≤ ns.length) : W (runD C N d3 [.lst .s (ns.map (ntD .s)), .int f, .int l, .int t]) (fun r => r = .lst .w ((footS t (seg ns f l).flatten).map spD)) nE := by
  refine W_run rfl rfl ?_
  wp_walk using b3, slic_lst, seg_cut hf hl
  have oks : ∀ n ∈ seg ns f l, NtOk n := fun n hn => ok n (seg_mem hn)
  have hsl : (seg ns f l).length ≤ 40 := Nat.le_trans seg_len hz
  generalize seg ns f l = sg at oks hsl
  have bnd : ∀ {done : List (List Rw)} {n : List Rw} {rest : List (List Rw)} {d1 : List Rw} {r : Rw} {r1 : List Rw}, sg = done ++ n :: rest → n = d1 ++ r :: r1 → (footS t (done.flatten ++ d1)).length ≤ 720 ∧ r.sp.length ≤ 6 := by
    intro done n rest d1 r r1 e1 e2
    have hok : ∀ q ∈ done.flatten ++ d1, q.sp.length ≤ 6 := fun q hq => by
      rcases List.mem_append.mp hq with hq | hq
      · exact (flat_ok (fun n hn => oks n (by rw [e1]; exact List.mem_append_left _ hn)) q hq).1.len
      · exact ((oks n (by rw [e1]; simp)).rw q (by rw [e2]; exact List.mem_append_left _ hq)).1.len
    have h3 := foot_len _ t hok
    have h4 := flat_len (ns := done) fun n hn => oks n (by rw [e1]; exact List.mem_append_left _ hn)
    have h5 := (oks n (by rw [e1]; simp)).len
    have h6 := congrArg List.length e1
    have h7 := congrArg List.length e2
    have h8 := ((oks n (by rw [e1]; simp)).rw r (by rw [e2]; simp)).1.len
    simp only [List.length_append, List.length_cons] at h3 h6 h7
    exact ⟨by omega, h8⟩
  refine T_list (inj := ntD .s) (fun done env => ∃ (x5 x6 : Option D), env = [some (.lst .s (ns.map (ntD .s))), some (.int f), some (.int l), some (.int (footT t done.flatten)), some (.lst .w ((footS t done.flatten).map spD)), x5, x6]) ⟨none, none, rfl⟩ ?_ ?_
  · rintro done n rest _ e1 ⟨x5, x6, rfl⟩
    wp_walk using b3_1, sh_nt, ntD, shs_rw
    refine T_list (inj := rwD .s) (fun d1 env => ∃ (x6 : Option D), env = [some (.lst .s (ns.map (ntD .s))), some (.int f), some (.int l), some (.int (footT t (done.flatten ++ d1))), some (.lst .w ((footS t (done.flatten ++ d1)).map spD)), some (.lst .s (n.map (rwD .s))), x6]) ⟨x6, by rw [List.append_nil]⟩ ?_ ?_
    · rintro d1 r r1 _ e2 ⟨x6, rfl⟩
      obtain ⟨q1, q2⟩ := bnd e1 e2
      wp_walk using b3_0, sh_rw, rwD, shs_sp
      refine W_nE (h1 _ _) ?_
      rintro _ rfl
      wp_walk using shs_sp
      refine ⟨by rw [List.length_map, List.length_map, lower_len]; omega, some (rwD .s r), ?_⟩
      have e3 : footS t (done.flatten ++ (d1 ++ [r])) = footS t (done.flatten ++ d1) ++ lower (footT t (done.flatten ++ d1)) r.sp := by
        rw [← List.append_assoc, foot_app _ [r]]
        show _ ++ (lower _ r.sp ++ []) = _
        rw [List.append_nil]
      have e4 : footT t (done.flatten ++ (d1 ++ [r])) = footT t (done.flatten ++ d1) + r.h := by
        rw [← List.append_assoc, footT_app _ [r]]; rfl
      rw [e3, e4, List.map_append]; rfl
    · rintro _ ⟨x6, rfl⟩
      wp_walk
      have ef : (done ++ [n]).flatten = done.flatten ++ n := by simp
      refine ⟨some (.lst .s (n.map (rwD .s))), x6, ?_⟩
      rw [ef]
  · rintro _ ⟨x5, x6, rfl⟩
    wp_walk
/-! ### pages -/
structure Pg where
  body : List Sp
  rule : Option Int
  foot : List Sp
def rlD : Option Int → D
  | none => .non
  | some i => .int i
def pgD (o : O) (p : Pg) : D := .tup [.lst o (p.body.map spD), rlD p.rule, .lst o (p.foot.map spD)]
theorem sh_rl (r : Option Int) : sh (rlD r) = rlD r := by cases r <;> rfl
theorem sh_pg (o : O) (p : Pg) : sh (pgD o p) = pgD o.sh p := by
  show D.tup [.lst o.sh (shs (p.body.map spD)), sh (rlD p.rule), .lst o.sh (shs (p.foot.map spD))] = _
  rw [shs_sp, shs_sp, sh_rl]; rfl
theorem shs_pg (o : O) (ps : List Pg) : shs (ps.map (pgD o)) = ps.map (pgD o.sh) := by
  induction ps with
  | nil => rfl
  | cons r n ih => show sh (pgD o r) :: shs (n.map (pgD o)) = _; rw [sh_pg, ih]; rfl
def msum (its : List Tm) (k : Nat) : Nat := ((its.take k).map (·.2.m)).sum
theorem take_seg {α : Type} {xs : List α} {b e : Nat} (h : b ≤ e) : xs.take e = xs.take b ++ seg xs b e := by
  unfold seg
  have := List.take_append_drop b (xs.take e)
  rw [List.take_take, Nat.min_eq_left h] at this
  exact this.symm
theorem msum_seg {its : List Tm} {b e : Nat} (h : b ≤ e) : msum its e = msum its b + ((seg its b e).map (·.2.m)).sum := by
  unfold msum
  rw [take_seg h, List.map_append, List.sum_append]
theorem msum_le {its : List Tm} {b e : Nat} (h : b ≤ e) : msum its b ≤ msum its e := by rw [msum_seg h]; omega
def pgF (H : Int) (its : List Tm) (ns : List (List Rw)) (b e f l : Nat) : Pg :=
  if f = l then ⟨bodyS true 0 (seg its b e), none, []⟩ else
    ⟨bodyS true 0 (seg its b e), some (max (bodyT true 0 (seg its b e)) (H - 1 - ((seg ns f l).map fun n => (n.map (·.h)).sum).sum)), footS (max (bodyT true 0 (seg its b e)) (H - 1 - ((seg ns f l).map fun n => (n.map (·.h)).sum).sum) + 1) (seg ns f l).flatten⟩
def pages (H : Int) (its : List Tm) (ns : List (List Rw)) : Nat → Nat → List (Nat × Nat) → List Pg
  | _, _, [] => []
  | b, f, q :: r => pgF H its ns b q.1 f (msum its q.1 - q.2) :: pages H its ns q.1 (msum its q.1 - q.2) r
def LvOk (its : List Tm) : Nat → List (Nat × Nat) → Prop
  | b, [] => b = its.length
  | b, q :: r => b < q.1 ∧ q.1 ≤ its.length ∧ q.2 ≤ msum its q.1 - msum its b ∧ (q.1 = its.length → q.2 = 0) ∧ LvOk its q.1 r
theorem lv_len {its : List Tm} : ∀ {r : List (Nat × Nat)} {b : Nat}, LvOk its b r → b + r.length ≤ its.length
  | [], b, h => by
    have h : b = its.length := h
    simp [h]
  | q :: r, b, ⟨h1, h2, _, _, h3⟩ => by
    have := lv_len h3
    rw [List.length_cons]; omega
def lvD (q : Nat × Nat) : D := .tup [.int q.1, .int q.2]
theorem shs_lv (xs : List (Nat × Nat)) : shs (xs.map lvD) = xs.map lvD := shs_map' fun _ => rfl
theorem sh_lv (q : Nat × Nat) : sh (lvD q) = lvD q := rfl
def ruK (H : Int) : List (Ky × D) := [(.inr [119, 105, 100, 116, 104], .int 40), (.inr [112, 97, 114, 116], .int 1), (.inr [116, 119, 105, 110], .int 2), (.inr [111, 118, 101, 114], .int 3), (.inr [108, 111, 110, 101], .int 4), (.inr [108, 97, 116, 101], .int 5), (.inr [103, 97, 112], .int 1), (.inr [104, 101, 105, 103, 104, 116], .int H), (.inr [97, 104, 101, 97, 100], .int 2), (.inr [98, 101, 104, 105, 110, 100], .int 2)]
def ruD (o : O) (H : Int) : D := .dic o (ruK H)
theorem sh_ru (o : O) (H : Int) : sh (ruD o H) = ruD o.sh H := rfl
theorem get_h {o : O} {H : Int} : getD (ruD o H) (.str [104, 101, 105, 103, 104, 116]) = .ok (.int H) := rfl
structure AllOk (its : List Tm) (ns : List (List Rw)) : Prop where
  it : ∀ x ∈ its, RwOk x.2
  il : its.length ≤ 20
  nt : ∀ n ∈ ns, NtOk n
  nl : ns.length = msum its its.length
theorem msum_max {its : List Tm} (h : ∀ x ∈ its, RwOk x.2) : ∀ k, msum its k ≤ 2 * its.length := by
  intro k
  unfold msum
  have : ∀ xs : List Tm, (∀ x ∈ xs, RwOk x.2) → (xs.map (·.2.m)).sum ≤ 2 * xs.length := by
    intro xs
    induction xs with
    | nil => intro _; exact Nat.le_refl _
    | cons x r ih =>
      intro h
      have h1 := (h x List.mem_cons_self).m
      have h2 := ih fun x hx => h x (List.mem_cons_of_mem _ hx)
      rw [List.map_cons, List.sum_cons, List.length_cons]; omega
  have h1 := this (its.take k) fun x hx => h x (List.mem_of_mem_take hx)
  rw [List.length_take] at h1
  omega
theorem sum_cast {α : Type} (g : α → Nat) (xs : List α) : (xs.map fun a => ((g a : Nat) : Int)).sum = (((xs.map g).sum : Nat) : Int) := by
  induction xs with
  | nil => rfl
  | cons x r ih => rw [List.map_cons, List.sum_cons, ih, List.map_cons, List.sum_cons]; omega
abbrev PlC (C : Nat → List D → R D) (H : Int) (its : List Tm) (ns : List (List Rw)) (lv : List (Nat × Nat)) : Prop := W (C 4 [ruD .s H, .lst .s (its.map stD), .lst .s (its.map rtD), .lst .s (ns.map (ntD .s)), .lst .s (lv.map lvD)]) (fun r => r = .lst .w ((pages H its ns 0 0 lv).map (pgD .w))) nE
theorem pl_run {C : Nat → List D → R D} {N : Nat} {H : Int} {its : List Tm} {ns : List (List Rw)} {lv : List (Nat × Nat)} (h0 : HgC C) (h2 : BdC C its) (h3 : FtC C ns) (ok : AllOk its ns) (hv : LvOk its 0 lv) : W (runD C N d4 [ruD .s H, .lst .s (its.map stD), .lst .s (its.map rtD), .lst .s (ns.map (ntD .s)), .lst .s (lv.map lvD)]) (fun r => r = .lst .w ((pages H its ns 0 0 lv).map (pgD .w))) nE := by
  refine W_run rfl rfl ?_
  wp_walk using b4
  have hlv := lv_len hv
  have hil := ok.il
  have hm0 : ((0 : Nat) : Int) = 0 := rfl
  refine T_list (inj := lvD) (fun done env => ∃ (acc : List Pg) (b f : Nat) (rest : List (Nat × Nat)) (x9 x10 x11 x12 x13 x14 x15 : Option D), env = [some (ruD .s H), some (.lst .s (its.map stD)), some (.lst .s (its.map rtD)), some (.lst .s (ns.map (ntD .s))), some (.lst .s (lv.map lvD)), some (.lst .w (acc.map (pgD .w))), some (.int b), some (.int f), some (.int (msum its b)), x9, x10, x11, x12, x13, x14, x15, none, none] ∧
    lv = done ++ rest ∧ acc ++ pages H its ns b f rest = pages H its ns 0 0 lv ∧ LvOk its b rest ∧ f ≤ msum its b ∧ acc.length = done.length) ⟨[], 0, 0, lv, none, none, none, none, none, none, none, rfl, rfl, rfl, hv, Nat.zero_le _, rfl⟩ ?_ ?_
  · rintro done q rest _ e1 ⟨acc, b, f, rest', x9, x10, x11, x12, x13, x14, x15, rfl, e2, e3, e4, e5, e6⟩
    rw [e1] at e2
    obtain rfl := List.append_cancel_left e2
    obtain ⟨c1, c2, c3, c4, c5⟩ := e4
    have hln := congrArg List.length e1
    rw [List.length_append, List.length_cons] at hln
    have hmx := msum_max ok.it q.1
    have hms := msum_seg (its := its) (b := b) (e := q.1) (by omega)
    have hfl : f ≤ msum its q.1 - q.2 := by omega
    have hln2 : msum its q.1 - q.2 ≤ ns.length := by rw [ok.nl]; have := msum_le (its := its) c2; omega
    have ela : ((msum its q.1 : Nat) : Int) - ((q.2 : Nat) : Int) = ((msum its q.1 - q.2 : Nat) : Int) := by omega
    have esm : ((msum its b : Nat) : Int) + ((seg its b q.1).map fun x : Tm => ((x.2.m : Nat) : Int)).sum = ((msum its q.1 : Nat) : Int) := by rw [sum_cast, hms]; omega
    wp_walk using b4_0, sh_lv, lvD, shs_st, shs_rt
    refine W_nE (h2 b q.1 (by omega) c2) ?_
    rintro _ rfl
    wp_walk using slic_lst, seg_cut (xs := its) (b := b) (e := q.1) (by omega) c2
    refine ⟨by decide, ?_⟩
    refine W_cmap (inj := stD) (fun x => D.int (x.2.m : Int)) (fun x _ => ?_) ?_
    · have e : sh (stD x) = stD x := rfl
      wp_walk using e, stD
    rw [W_eq sum_map]
    wp_walk using esm, ela
    have ets : pages H its ns b f (q :: rest) = pgF H its ns b q.1 f (msum its q.1 - q.2) :: pages H its ns q.1 (msum its q.1 - q.2) rest := rfl
    rw [ets] at e3
    generalize hla : msum its q.1 - q.2 = la at *
    refine T_cut (fun env => ∃ (x10 x12 x13 x14 x15 : Option D), env = [some (ruD .s H), some (.lst .s (its.map stD)), some (.lst .s (its.map rtD)), some (.lst .s (ns.map (ntD .s))), some (.lst .s (lv.map lvD)), some (.lst .w ((acc ++ [pgF H its ns b q.1 f la]).map (pgD .w))), some (.int b), some (.int f), some (.int (msum its q.1)), some (.int q.1), x10, some (.int la), x12, x13, x14, x15, none, none]) ?_ ?_
    · by_cases hf : f = la
      · subst hf
        have ep : pgF H its ns b q.1 f f = ⟨bodyS true 0 (seg its b q.1), none, []⟩ := if_pos rfl
        rw [ep, List.map_append]
        wp_walk using t_ifs
        exact ⟨by rw [List.length_map]; omega, _, _, _, _, _, rfl⟩
      · have ep : pgF H its ns b q.1 f la = ⟨bodyS true 0 (seg its b q.1), some (max (bodyT true 0 (seg its b q.1)) (H - 1 - ((seg ns f la).map fun n => (n.map (·.h)).sum).sum)), footS (max (bodyT true 0 (seg its b q.1)) (H - 1 - ((seg ns f la).map fun n => (n.map (·.h)).sum).sum) + 1) (seg ns f la).flatten⟩ := if_neg hf
        rw [ep, List.map_append]
        have hf2 : ¬ (f : Int) = la := by omega
        wp_walk using t_ifs, hf2, slic_lst, seg_cut (xs := ns) hfl hln2
        refine W_cmap (inj := ntD .s) (fun n => D.int (n.map (·.h)).sum) (fun n _ => ?_) ?_
        · wp_walk using sh_nt
          refine W_nE (h0 n) ?_
          rintro _ rfl
          wp_walk
        rw [W_eq sum_map]
        wp_walk using get_h, shs_nt
        refine W_nE (h3 f la _ hfl hln2) ?_
        rintro _ rfl
        wp_walk
        exact ⟨by rw [List.length_map]; omega, _, _, _, _, _, rfl⟩
    rintro _ ⟨x10, x12, x13, x14, x15, rfl⟩
    wp_walk
    refine ⟨acc ++ [pgF H its ns b q.1 f la], q.1, la, rest, _, _, _, _, _, _, _, rfl, by rw [e1, List.append_assoc]; rfl, by rw [List.append_assoc]; exact e3, c5, by omega, by rw [List.length_append, List.length_append, e6]; rfl⟩
  · rintro _ ⟨acc, b, f, rest', x9, x10, x11, x12, x13, x14, x15, rfl, e2, e3, e4, e5, e6⟩
    have e7 : rest' = [] := by simpa using e2.symm
    subst e7
    have e3 : acc ++ [] = _ := e3
    rw [List.append_nil] at e3
    wp_walk
    rw [e3]
end K25

set_option maxHeartbeats 2000000
namespace K25
open Q L2
local macro_rules | `(tactic| wp_walk using $ts,*) => `(tactic| simp only [↓t_cons, ↓t_nil, ↓t_set, ↓t_setm, ↓t_unp, ↓t_unpm, t_unpmS, ↓t_appm, mvs_nil, mvs_e, mvs_m, offs_nil, offs_cons, List.contains_nil, List.contains_cons, Nat.reduceBEq, ↓t_app, ↓t_apz, ↓t_sto, ↓t_ext, t_extS, t_extT, ↓t_clr, ↓t_stot, ↓t_pop0, ↓t_popu, ↓t_upd, t_updS, ↓t_exp, ↓t_for, ↓t_forB, ↓t_forh, ↓t_whl, ↓t_ret, ↓t_retm, ↓t_rett, ↓t_pass, ↓t_brk, ↓t_cont, ↓w_lit, ↓w_var, ↓w_mvar, ↓w_look0, ↓w_lookS, ↓w_bin, ↓w_neg, ↓w_cmp, ↓w_chain, ↓w_and, ↓w_or, ↓w_not, ↓w_iteE, ↓w_call, ↓w_call0, ↓w_callo, ownA_c, ↓w_bf, ↓w_meth, ↓w_fstr, m_lower, m_upper, m_starts, m_ends, m_find, m_joinL, m_joinT, m_get, fm_nil, fm_cons, fmt_str, fmt_int, rev_str, c_insign, c_nisign, str_int, ↓w_isi, ↓w_sub, ↓w_slice, ↓w_rev, ↓w_tup, ↓w_lst, ↓w_dic, ↓w_dict0, ↓w_comp, ↓w_nil, ↓w_cons, ↓w_rnil, ↓w_re, ↓w_rm, ↓w_onone, ↓w_osome, ↓w_cnil, ↓w_ccons, ↓w_val, ↓w_r1, ↓w_r2, ↓w_r3, ↓w_enum, ↓w_zip, ↓w_step, t_cons, t_nil, t_set, t_setm, t_unp, t_app, t_apz, t_sto, t_ext, t_clr, t_stot, t_pop0, t_popu, t_exp, t_upd, t_for, t_forB, t_whl, t_ret, t_retm, t_rett, t_pass, t_brk, t_cont, w_var, w_look0, w_lookS, w_comp, w_step, W_ok, W_exc, W_bad, W_b, W_grd, T_ok, T_exc, T_bad, T_upd1, wB_bl, wI_int, onw_nx, onw_rt, onw_bk, onw_ct, lpP_nx, lpP_ct, lpP_bk, lpP_rt, retP_nx, retP_rt, stE_nil, stE_cons, sh_int, sh_str, sh_bl, sh_non, sh_tup, sh_lst, sh_dic, shw, shS, shF, shs_nil, shs_cons, noSh_int, noSh_str, noSh_bl, noSh_non, noSh_tup, noSh_lst, noShs_nil, noShs_cons, now, noS, noF, bf_maxd, bf_len, bf_sum, bf_max, bf_min, bf_all, bf_any, bf_int, bf_str, bf_tuple, bf_list, bf_dict, len_lst, len_tup, len_ptu, len_str, len_dic, max_two, min_two, int_int, int_bl, list_lst, list_tup, tuple_lst, tuple_tup, dict_dic, sum_map, getD_map, getT_map, getS, g_t0, g_t1, g_t2, g_t3, g_l0, g_l1, g_l2, w_itL, w_itT, w_itS, w_itP, sh_tupD, sh_ptu, noSh_ptu, dict_ptu, w_enL, w_enS, w_zpT2, w_zpL, w_zpT, b_n, b_t2, b_l2, b_t3, b_t4, wipe_n, wipe_t2, wipe_t3, upS_nil, pathOk_def, canL_w, appD_w, extD_w, clrD_w, pop0D_w, updD_w, stoD_l, o_add, o_sub, o_mul, o_mod, o_fdiv, o_cat, c_lt, c_gt, c_le, c_ge, c_eqi, c_eqs, c_nei, c_nes, c_eqis, c_eqsi, c_neis, c_nesi, f_nil, frz_cons, mod_0, mod_S, Option.map_some, Option.map_none, startE_def, List.map_cons, List.map_nil, List.length_cons, List.length_nil, List.replicate_succ, List.replicate_zero, List.cons_append, List.nil_append, List.append_nil, List.set_cons_zero, List.set_cons_succ, List.getElem?_cons_zero, List.getElem?_cons_succ, Nat.reduceAdd, Nat.reduceSub, Int.reduceLT, Int.reduceLE, Int.reduceNeg, Int.reduceAdd, Int.reduceSub, Int.reduceMul, Int.reduceEq, Int.reduceNe, Bool.or_true, Bool.true_or, Bool.or_false, Bool.false_or, Bool.and_true, Bool.true_and, Bool.and_false, Bool.false_and, Bool.not_true, Bool.not_false, Bool.not_eq_true, Bool.or_eq_true, Bool.and_eq_true, Bool.not_eq_eq_eq_not, decide_eq_true_eq, decide_eq_false_iff_not, beq_iff_eq, beq_eq_false_iff_ne, Bool.false_eq_true, Bool.true_eq_false, eq_self, ne_eq, not_true_eq_false, not_false_eq_true, if_true, if_false, reduceIte, ite_true, ite_false, true_and, and_true, false_and, and_false, true_or, or_true, false_or, or_false, true_implies, false_implies, implies_true, forall_const, Option.some.injEq, Option.isSome_some, Option.getD_some, exists_eq_left, exists_eq_left', exists_eq_right, List.isEmpty_nil, List.isEmpty_cons, reduceCtorEq, grd_and, ok_int, ok_bl, ok_str, ok_non, ok_tup, ok_lst, ok_dic, ok_ptu, Q.isTy_ii, Q.isTy_ib, Q.isTy_is, Q.isTy_bb, Q.isTy_bi, Q.isTy_ss, Q.isTy_si, Q.isTy_sb, Q.isTy_ll, Q.isTy_tt, Q.isTy_lt, Q.isTy_tl, Q.isTy_ni, Q.isTy_ns, List.any_cons, List.any_nil, if_pb, and_assoc, lim_is, Nat.reduceLT, Nat.reduceLeDiff, is_lst, is_tup, is_int, is_str, is_non, is_bl, isn_lst, isn_tup, isn_int, isn_str, isn_non, sh_scr, eq_emp, len_scr, get_scr, $[$ts:term],*])
local macro_rules | `(tactic| wp_walk) => `(tactic| wp_walk using if_true)
abbrev CellC (C : Nat → List D → R D) (ns : List Int) : Prop := ∀ k : Int, 0 ≤ k → W (C 5 [scriptD ns, .int k]) (fun r => ∃ i : Int, r = .int i) nE
theorem cell_run {C : Nat → List D → R D} {N : Nat} {ns : List Int} {k : Int} (h0 : 0 ≤ k) : W (runD C N d5 [scriptD ns, .int k]) (fun r => ∃ i : Int, r = .int i) nE := by
  refine W_run rfl rfl ?_
  wp_walk using b5, t_ifs
  refine ⟨fun h => ?_, fun h => ⟨0, rfl⟩⟩
  obtain ⟨hl, e⟩ := atI_lt (xs := ns) ⟨h0, h⟩
  exact ⟨_, e, _, rfl⟩
theorem o_addL {o o' : O} {a b : List D} (h : o ≠ .f) (h' : o' ≠ .f) (hl : a.length + b.length ≤ 10000) : binop .add (.lst o a) (.lst o' b) = .ok (.lst .w (a ++ b)) := if_pos ⟨h, h', by rw [lim_is]; omega⟩
theorem num_le {n : Nat} (h : n ≤ 10000000) : (TL.numL n).length ≤ 8 := TL.numL_len (by omega) (by omega)
def SpOk (h : Int) (name : Cs) (q : Sp) : Prop := 0 ≤ q.1 ∧ q.1 < h ∧ ∃ t, q.2.2 = name ++ t
abbrev SpC (C : Nat → List D → R D) : Prop := ∀ (c h : Int) (name : Cs), 1 ≤ h → h ≤ 3 → name.length ≤ 100 → W (C 6 [.int c, .int h, .str name]) (fun r => ∃ sp : List Sp, r = .lst .w (sp.map spD) ∧ sp.length ≤ 6 ∧ ∀ q ∈ sp, SpOk h name q) nE
theorem sp_run {C : Nat → List D → R D} {N : Nat} {c h : Int} {name : Cs} (h1 : 1 ≤ h) (h3 : h ≤ 3) (hn : name.length ≤ 100) : W (runD C N d6 [.int c, .int h, .str name]) (fun r => ∃ sp : List Sp, r = .lst .w (sp.map spD) ∧ sp.length ≤ 6 ∧ ∀ q ∈ sp, SpOk h name q) nE := by
  refine W_run rfl rfl ?_
  wp_walk using b6
  refine ⟨sized_of (by omega), T_rng0 (n := h.toNat) (by omega) (fun i env => ∃ (sp : List Sp) (x4 x5 : Option D), env = [some (.int c), some (.int h), some (.str name), some (.lst .w (sp.map spD)), x4, x5] ∧ sp.length ≤ 2 * i ∧ ∀ q ∈ sp, SpOk h name q) ⟨[], none, none, rfl, Nat.zero_le _, fun _ h => nomatch h⟩ ?_ ?_⟩
  · rintro i _ hi ⟨sp, x4, x5, rfl, hl, hq⟩
    wp_walk using b6_1
    have hb := Int.emod_nonneg (c / (3 + (i : Int))) (show (3 : Int) ≠ 0 by omega)
    have hb2 := Int.emod_lt_of_pos (c / (3 + (i : Int))) (show (0 : Int) < 3 by omega)
    refine ⟨by omega, by omega, sized_of (by omega), ?_⟩
    refine T_rng0 (n := (c / (3 + (i : Int)) % 3).toNat) (by omega) (fun j env => ∃ (sp : List Sp) (x5 : Option D), env = [some (.int c), some (.int h), some (.str name), some (.lst .w (sp.map spD)), some (.int i), x5] ∧ sp.length ≤ 2 * i + j ∧ ∀ q ∈ sp, SpOk h name q) ⟨sp, x5, rfl, hl, hq⟩ ?_ ?_
    · rintro j _ hj ⟨sp, x5, rfl, hl, hq⟩
      have n1 := num_le (n := i) (by omega)
      have n2 := num_le (n := j) (by omega)
      have n3 : ((i : Int)).toNat = i := rfl
      have n4 : ((j : Int)).toNat = j := rfl
      wp_walk using b6_0, str_int, n3, n4
      have big : (10 : Int) < 10 ^ 100 := by decide
      refine ⟨.inl (by decide), by omega, by omega, by omega, by rw [List.length_append]; omega, by omega, by omega, by simp only [List.length_append, List.length_cons, List.length_nil]; omega, by rw [List.length_map]; omega, sp ++ [((i : Int), 5 * (j : Int) + c % 4, name ++ TL.numL i ++ [45] ++ TL.numL j)], some (.int j), by rw [List.map_append]; rfl, by rw [List.length_append, List.length_singleton]; omega, fun q hm => ?_⟩
      rcases List.mem_append.mp hm with hq' | hq'
      · exact hq q hq'
      · rw [List.mem_singleton.mp hq']
        exact ⟨by show (0 : Int) ≤ i; omega, by show (i : Int) < h; omega, _, by rw [List.append_assoc, List.append_assoc]⟩
    · rintro _ ⟨sp, x5, rfl, hl, hq⟩
      wp_walk
      exact ⟨sp, _, _, rfl, by omega, hq⟩
  · rintro _ ⟨sp, x4, x5, rfl, hl, hq⟩
    wp_walk
    exact ⟨sp, rfl, by omega, hq⟩
/-! ### rows -/
abbrev UnC (C : Nat → List D → R D) : Prop := ∀ (rs : List Rw) (t : Int), rs.length ≤ 120 → (∀ r ∈ rs, r.sp.length ≤ 6) → W (C 9 [.lst .s (rs.map (rwD .s)), .int t]) (fun r => r = .tup [.lst .s ((footS t rs).map spD), .int (footT t rs)]) nE
theorem un_run {C : Nat → List D → R D} {N : Nat} {rs : List Rw} {t : Int} (hz : rs.length ≤ 120) (ok : ∀ r ∈ rs, r.sp.length ≤ 6) : W (runD C N d9 [.lst .s (rs.map (rwD .s)), .int t]) (fun r => r = .tup [.lst .s ((footS t rs).map spD), .int (footT t rs)]) nE := by
  refine W_run rfl rfl ?_
  wp_walk using b9
  refine T_list (inj := rwD .s) (fun done env => ∃ (x3 : Option D), env = [some (.lst .s (rs.map (rwD .s))), some (.int (footT t done)), some (.lst .s ((footS t done).map spD)), x3, none]) ⟨none, rfl⟩ ?_ ?_
  · rintro done r rest _ e1 ⟨x3, rfl⟩
    have h1 := ok r (by rw [e1]; simp)
    have h2 := foot_len done t fun r hr => ok r (by rw [e1]; exact List.mem_append_left _ hr)
    have h3 := congrArg List.length e1
    rw [List.length_append, List.length_cons] at h3
    have e3 : footS t (done ++ [r]) = footS t done ++ lower (footT t done) r.sp := by
      rw [foot_app]
      show _ ++ (lower _ r.sp ++ []) = _
      rw [List.append_nil]
    have e4 : footT t (done ++ [r]) = footT t done + r.h := by rw [footT_app]; rfl
    rw [e3, e4, List.map_append]
    wp_walk using b9_0, sh_rw, rwD, shs_sp
    refine W_cmap (inj := spD) (fun q => spD (footT t done + q.1, q.2)) (fun q _ => ?_) ?_
    · wp_walk using sh_spD, spD
    have e5 : (r.sp.map fun q => spD (footT t done + q.1, q.2)) = (lower (footT t done) r.sp).map spD := by unfold lower; rw [List.map_map]; rfl
    rw [e5]
    rw [W_eq (o_addL (by decide) (by decide) (by rw [List.length_map, List.length_map, lower_len]; omega))]
    rw [← List.map_append]
    wp_walk using shs_sp
    exact ⟨_, rfl⟩
  · rintro _ ⟨x3, rfl⟩
    wp_walk
end K25

set_option maxHeartbeats 2000000
namespace K25
open Q L2
local macro_rules | `(tactic| wp_walk using $ts,*) => `(tactic| simp only [↓t_cons, ↓t_nil, ↓t_set, ↓t_setm, ↓t_unp, ↓t_unpm, t_unpmS, ↓t_appm, mvs_nil, mvs_e, mvs_m, offs_nil, offs_cons, List.contains_nil, List.contains_cons, Nat.reduceBEq, ↓t_app, ↓t_apz, ↓t_sto, ↓t_ext, t_extS, t_extT, ↓t_clr, ↓t_stot, ↓t_pop0, ↓t_popu, ↓t_upd, t_updS, ↓t_exp, ↓t_for, ↓t_forB, ↓t_forh, ↓t_whl, ↓t_ret, ↓t_retm, ↓t_rett, ↓t_pass, ↓t_brk, ↓t_cont, ↓w_lit, ↓w_var, ↓w_mvar, ↓w_look0, ↓w_lookS, ↓w_bin, ↓w_neg, ↓w_cmp, ↓w_chain, ↓w_and, ↓w_or, ↓w_not, ↓w_iteE, ↓w_call, ↓w_call0, ↓w_callo, ownA_c, ↓w_bf, ↓w_meth, ↓w_fstr, m_lower, m_upper, m_starts, m_ends, m_find, m_joinL, m_joinT, m_get, fm_nil, fm_cons, fmt_str, fmt_int, rev_str, c_insign, c_nisign, str_int, ↓w_isi, ↓w_sub, ↓w_slice, ↓w_rev, ↓w_tup, ↓w_lst, ↓w_dic, ↓w_dict0, ↓w_comp, ↓w_nil, ↓w_cons, ↓w_rnil, ↓w_re, ↓w_rm, ↓w_onone, ↓w_osome, ↓w_cnil, ↓w_ccons, ↓w_val, ↓w_r1, ↓w_r2, ↓w_r3, ↓w_enum, ↓w_zip, ↓w_step, t_cons, t_nil, t_set, t_setm, t_unp, t_app, t_apz, t_sto, t_ext, t_clr, t_stot, t_pop0, t_popu, t_exp, t_upd, t_for, t_forB, t_whl, t_ret, t_retm, t_rett, t_pass, t_brk, t_cont, w_var, w_look0, w_lookS, w_comp, w_step, W_ok, W_exc, W_bad, W_b, W_grd, T_ok, T_exc, T_bad, T_upd1, wB_bl, wI_int, onw_nx, onw_rt, onw_bk, onw_ct, lpP_nx, lpP_ct, lpP_bk, lpP_rt, retP_nx, retP_rt, stE_nil, stE_cons, sh_int, sh_str, sh_bl, sh_non, sh_tup, sh_lst, sh_dic, shw, shS, shF, shs_nil, shs_cons, noSh_int, noSh_str, noSh_bl, noSh_non, noSh_tup, noSh_lst, noShs_nil, noShs_cons, now, noS, noF, bf_maxd, bf_len, bf_sum, bf_max, bf_min, bf_all, bf_any, bf_int, bf_str, bf_tuple, bf_list, bf_dict, len_lst, len_tup, len_ptu, len_str, len_dic, max_two, min_two, int_int, int_bl, list_lst, list_tup, tuple_lst, tuple_tup, dict_dic, sum_map, getD_map, getT_map, getS, g_t0, g_t1, g_t2, g_t3, g_l0, g_l1, g_l2, w_itL, w_itT, w_itS, w_itP, sh_tupD, sh_ptu, noSh_ptu, dict_ptu, w_enL, w_enS, w_zpT2, w_zpL, w_zpT, b_n, b_t2, b_l2, b_t3, b_t4, wipe_n, wipe_t2, wipe_t3, upS_nil, pathOk_def, canL_w, appD_w, extD_w, clrD_w, pop0D_w, updD_w, stoD_l, o_add, o_sub, o_mul, o_mod, o_fdiv, o_cat, c_lt, c_gt, c_le, c_ge, c_eqi, c_eqs, c_nei, c_nes, c_eqis, c_eqsi, c_neis, c_nesi, f_nil, frz_cons, mod_0, mod_S, Option.map_some, Option.map_none, startE_def, List.map_cons, List.map_nil, List.length_cons, List.length_nil, List.replicate_succ, List.replicate_zero, List.cons_append, List.nil_append, List.append_nil, List.set_cons_zero, List.set_cons_succ, List.getElem?_cons_zero, List.getElem?_cons_succ, Nat.reduceAdd, Nat.reduceSub, Int.reduceLT, Int.reduceLE, Int.reduceNeg, Int.reduceAdd, Int.reduceSub, Int.reduceMul, Int.reduceEq, Int.reduceNe, Bool.or_true, Bool.true_or, Bool.or_false, Bool.false_or, Bool.and_true, Bool.true_and, Bool.and_false, Bool.false_and, Bool.not_true, Bool.not_false, Bool.not_eq_true, Bool.or_eq_true, Bool.and_eq_true, Bool.not_eq_eq_eq_not, decide_eq_true_eq, decide_eq_false_iff_not, beq_iff_eq, beq_eq_false_iff_ne, Bool.false_eq_true, Bool.true_eq_false, eq_self, ne_eq, not_true_eq_false, not_false_eq_true, if_true, if_false, reduceIte, ite_true, ite_false, true_and, and_true, false_and, and_false, true_or, or_true, false_or, or_false, true_implies, false_implies, implies_true, forall_const, Option.some.injEq, Option.isSome_some, Option.getD_some, exists_eq_left, exists_eq_left', exists_eq_right, List.isEmpty_nil, List.isEmpty_cons, reduceCtorEq, grd_and, ok_int, ok_bl, ok_str, ok_non, ok_tup, ok_lst, ok_dic, ok_ptu, Q.isTy_ii, Q.isTy_ib, Q.isTy_is, Q.isTy_bb, Q.isTy_bi, Q.isTy_ss, Q.isTy_si, Q.isTy_sb, Q.isTy_ll, Q.isTy_tt, Q.isTy_lt, Q.isTy_tl, Q.isTy_ni, Q.isTy_ns, List.any_cons, List.any_nil, if_pb, and_assoc, lim_is, Nat.reduceLT, Nat.reduceLeDiff, is_lst, is_tup, is_int, is_str, is_non, is_bl, isn_lst, isn_tup, isn_int, isn_str, isn_non, sh_scr, eq_emp, len_scr, get_scr, $[$ts:term],*])
local macro_rules | `(tactic| wp_walk) => `(tactic| wp_walk using if_true)
theorem shs_ntw (xs : List (List Rw)) : shs (xs.map (ntD .w)) = xs.map (ntD .s) := by
  induction xs with
  | nil => rfl
  | cons x r ih => show sh (ntD .w x) :: shs (r.map (ntD .w)) = _; rw [sh_nt, ih]; rfl
def RhOk (r : Rw) : Prop := ∃ hd : Cs, 46 ∉ hd ∧ ∀ q ∈ r.sp, 0 ≤ q.1 ∧ q.1 < r.h ∧ ∃ t, q.2.2 = hd ++ 46 :: t
def rwW (s : Tm) : D := rwD .w s.2
def tsum (its : List Tm) : Nat := (its.map (·.2.m)).sum
theorem msum_all (its : List Tm) : msum its its.length = tsum its := by unfold msum tsum; rw [List.take_length]
theorem tsum_snoc (its : List Tm) (x : Tm) : tsum (its ++ [x]) = tsum its + x.2.m := by unfold tsum; simp
structure BOk (its : List Tm) (ns : List (List Rw)) : Prop where
  gp : ∀ x ∈ its, 0 ≤ x.1
  it : ∀ x ∈ its, RwOk x.2 ∧ RhOk x.2
  nt : ∀ n ∈ ns, NtOk n ∧ ∀ r ∈ n, RhOk r
theorem num_46 (n : Nat) : 46 ∉ TL.numL n := fun h => by
  have := TL.numL_digits n 46 h
  omega
theorem hd_ok {h : Int} {p : Cs} {n : Nat} {t : Cs} {sp : List Sp} {m : Nat} (hp : 46 ∉ p) (hs : ∀ q ∈ sp, SpOk h ((p ++ TL.numL n) ++ 46 :: t) q) : RhOk ⟨h, sp, m⟩ := ⟨p ++ TL.numL n, fun hm => (List.mem_append.mp hm).elim hp (num_46 n), fun q hq => by
  obtain ⟨h1, h2, t2, e⟩ := hs q hq
  exact ⟨h1, h2, t ++ t2, by rw [e, List.append_assoc]; rfl⟩⟩
theorem rows_run {C : Nat → List D → R D} {N : Nat} {sc : List Int} (hc : CellC C sc) (h6 : SpC C) : W (runD C N d7 [scriptD sc]) (fun r => ∃ (its : List Tm) (ns : List (List Rw)), r = .tup [.lst .w (its.map rwW), .lst .w (its.map stD), .lst .w (ns.map (ntD .w))] ∧ its.length ≤ 20 ∧ BOk its ns ∧ ns.length = tsum its) nE := by
  refine W_run rfl rfl ?_
  wp_walk using b7
  refine W_nE (hc 0 (by omega)) ?_
  rintro _ ⟨n0, rfl⟩
  wp_walk
  refine ⟨sized_of (by omega), T_rng0 (n := (n0 % 21).toNat) (by omega) (fun i env => ∃ (its : List Tm) (ns : List (List Rw)) (x4 x5 x6 x7 x8 x9 x10 : Option D), env = [some (scriptD sc), some (.lst .w (its.map rwW)), some (.lst .w (its.map stD)), some (.lst .w (ns.map (ntD .w))), x4, x5, x6, x7, x8, x9, x10, none] ∧ its.length = i ∧ BOk its ns ∧ ns.length = tsum its) ⟨[], [], none, none, none, none, none, none, none, rfl, rfl, ⟨(fun _ h => nomatch h), (fun _ h => nomatch h), fun _ h => nomatch h⟩, rfl⟩ ?_ ?_⟩
  · rintro i _ hi ⟨its, ns, x4, x5, x6, x7, x8, x9, x10, rfl, hl, ok, hn⟩
    wp_walk using b7_1
    refine W_nE (hc _ (by omega)) ?_
    rintro _ ⟨c0, rfl⟩
    wp_walk
    refine ⟨.inl (by decide), .inr (by decide), ?_⟩
    generalize (c0 + 17 * (i : Int)) * 48271 % 1000003 = c
    refine W_pick ⟨by omega, by simp only [List.length_cons, List.length_nil]; omega⟩ ?_
    intro d hd
    obtain ⟨h, rfl, h1, h3⟩ : ∃ h : Int, d = .int h ∧ 1 ≤ h ∧ h ≤ 3 := by
      simp only [List.mem_cons, List.not_mem_nil, or_false] at hd
      rcases hd with rfl | rfl | rfl | rfl | rfl <;> exact ⟨_, rfl, by decide, by decide⟩
    wp_walk
    refine W_pick ⟨by omega, by simp only [List.length_cons, List.length_nil]; omega⟩ ?_
    intro d hd
    obtain ⟨m, rfl, hm⟩ : ∃ m : Nat, d = .int m ∧ m ≤ 2 := by
      simp only [List.mem_cons, List.not_mem_nil, or_false] at hd
      rcases hd with rfl | rfl | rfl | rfl | rfl
      · exact ⟨0, rfl, by decide⟩
      · exact ⟨0, rfl, by decide⟩
      · exact ⟨1, rfl, by decide⟩
      · exact ⟨0, rfl, by decide⟩
      · exact ⟨2, rfl, by decide⟩
    have n1 := num_le (n := i) (by omega)
    have n3 : ((i : Int)).toNat = i := rfl
    have big : (100 : Int) < 10 ^ 100 := by decide
    wp_walk using str_int, n3
    refine ⟨by omega, by omega, by first | omega | (simp only [List.length_cons, List.length_nil, List.length_append]; omega), by first | omega | (simp only [List.length_cons, List.length_nil, List.length_append]; omega), ?_⟩
    refine W_nE (h6 _ h _ h1 h3 (by first | omega | (simp only [List.length_cons, List.length_nil, List.length_append]; omega))) ?_
    rintro _ ⟨sp, rfl, hsl, hsp⟩
    wp_walk
    refine ⟨by rw [List.length_map]; omega, W_pick ⟨by omega, by simp only [List.length_cons, List.length_nil]; omega⟩ ?_⟩
    intro d hd
    obtain ⟨g, rfl, hg⟩ : ∃ g : Int, d = .int g ∧ 0 ≤ g := by
      simp only [List.mem_cons, List.not_mem_nil, or_false] at hd
      rcases hd with rfl | rfl | rfl | rfl | rfl <;> exact ⟨_, rfl, by decide⟩
    have e1 : its.map rwW ++ [D.tup [.int h, .lst .w (sp.map spD), .int (m : Int)]] = (its ++ [((g, Rw.mk h sp m) : Tm)]).map rwW := by rw [List.map_append]; rfl
    have e2 : its.map stD ++ [D.tup [.int g, .int h, .int 0, .int (m : Int)]] = (its ++ [((g, Rw.mk h sp m) : Tm)]).map stD := by rw [List.map_append]; rfl
    wp_walk
    refine ⟨by rw [List.length_map]; omega, sized_of (by omega), ?_⟩
    rw [e1, e2]
    have ho : RhOk ⟨h, sp, m⟩ := hd_ok (p := [114, 111, 119]) (n := i) (t := []) (by decide) hsp
    refine T_rng0 (n := m) rfl (fun j env => ∃ (ns' : List (List Rw)) (x8 x9 x10 : Option D), env = [some (scriptD sc), some (.lst .w ((its ++ [((g, Rw.mk h sp m) : Tm)]).map rwW)), some (.lst .w ((its ++ [((g, Rw.mk h sp m) : Tm)]).map stD)), some (.lst .w (ns'.map (ntD .w))), some (.int i), some (.int c), some (.int h), some (.int m), x8, x9, x10, none] ∧ (∀ n ∈ ns', NtOk n ∧ ∀ r ∈ n, RhOk r) ∧ ns'.length = ns.length + j) ⟨ns, x8, x9, x10, rfl, ok.nt, rfl⟩ ?_ ?_
    · rintro j _ hj ⟨ns', x8, x9, x10, rfl, ok', hn'⟩
      have hts : ns.length ≤ 40 := by
        rw [hn, ← msum_all]
        have := msum_max (fun x hx => (ok.it x hx).1) its.length
        omega
      have n5 := num_le (n := ns'.length) (by omega)
      have n6 : ((ns'.length : Int)).toNat = ns'.length := rfl
      wp_walk using b7_0, str_int, n6, List.length_map, shs_ntw
      refine ⟨by omega, by omega, by omega, by omega, by first | omega | (simp only [List.length_cons, List.length_nil, List.length_append]; omega), by first | omega | (simp only [List.length_cons, List.length_nil, List.length_append]; omega), ?_⟩
      have hb := Int.emod_nonneg (c / (11 + (j : Int))) (show (3 : Int) ≠ 0 by omega)
      have hb2 := Int.emod_lt_of_pos (c / (11 + (j : Int))) (show (0 : Int) < 3 by omega)
      generalize c / (11 + (j : Int)) = c2 at hb hb2 ⊢
      generalize hk2 : c2 % 3 = k2 at hb hb2 ⊢
      refine ⟨sized_of (by omega), ?_⟩
      rw [rngUp_eq]
      refine W_crel (inj' := rwD .w) (fun n r => RwOk r ∧ r.h = 1 ∧ RhOk r) (fun n hn2 => ?_) fun ys hy hys => ?_
      · have hn3 : n < 3 := by have := List.mem_range.mp hn2; omega
        have n7 := num_le (n := n) (by omega)
        have n8 : ((0 : Int) + (n : Int)).toNat = n := by omega
        wp_walk using str_int, n8
        refine ⟨by omega, by omega, by omega, by omega, by first | omega | (simp only [List.length_cons, List.length_nil, List.length_append]; omega), ?_⟩
        refine W_nE (h6 _ 1 _ (by omega) (by omega) (by first | omega | (simp only [List.length_cons, List.length_nil, List.length_append]; omega))) ?_
        rintro _ ⟨sp2, rfl, hsl2, hsp2⟩
        wp_walk
        refine ⟨⟨1, sp2, 0⟩, rfl, ⟨hsl2, Int.le_refl 1, (by decide : (1 : Int) ≤ 3), Nat.zero_le 2⟩, rfl, hd_ok (p := [110, 111, 116, 101]) (n := ns'.length) (t := TL.numL n) (by decide) ?_⟩
        intro q hq
        have := hsp2 q hq
        rw [show ([110, 111, 116, 101] ++ TL.numL ns'.length) ++ 46 :: TL.numL n = 110 :: 111 :: 116 :: 101 :: (TL.numL ns'.length ++ [46] ++ TL.numL n) by simp]
        exact this
      · rw [List.length_range] at hy
        have hy0 : ys.length = (1 + k2).toNat := by rw [hy]; congr 1; omega
        have e7 : ns'.map (ntD .w) ++ [D.lst .w (ys.map (rwD .w))] = (ns' ++ [ys]).map (ntD .w) := by rw [List.map_append]; rfl
        rw [e7]
        refine ⟨by omega, ns' ++ [ys], _, _, _, rfl, fun n hn2 => ?_, by rw [List.length_append, hn']; rfl⟩
        rcases List.mem_append.mp hn2 with hn3 | hn3
        · exact ok' n hn3
        · rw [List.mem_singleton.mp hn3]
          refine ⟨⟨fun e => ?_, by omega, fun r hr => ?_⟩, fun r hr => ?_⟩
          · rw [e] at hy0
            have : (0 : Nat) = (1 + k2).toNat := hy0
            omega
          · obtain ⟨a, _, h1, h2, _⟩ := hys r hr
            exact ⟨h1, h2⟩
          · obtain ⟨a, _, _, _, h3⟩ := hys r hr
            exact h3
    · rintro _ ⟨ns', x8, x9, x10, rfl, ok', hn'⟩
      wp_walk
      refine ⟨_, ns', _, _, _, _, x8, x9, x10, rfl, by rw [List.length_append, hl]; rfl, ⟨fun x hx => ?_, fun x hx => ?_, ok'⟩, by rw [tsum_snoc, hn', hn]⟩
      · rcases List.mem_append.mp hx with hx | hx
        · exact ok.gp x hx
        · rw [List.mem_singleton.mp hx]; exact hg
      rcases List.mem_append.mp hx with hx | hx
      · exact ok.it x hx
      · rw [List.mem_singleton.mp hx]
        exact ⟨⟨hsl, h1, h3, hm⟩, ho⟩
  · rintro _ ⟨its, ns, x4, x5, x6, x7, x8, x9, x10, rfl, hl, ok, hn⟩
    wp_walk
    exact ⟨its, ns, rfl, by omega, ok, hn⟩
end K25

set_option maxHeartbeats 2000000
namespace K25
open Q L2
local macro_rules | `(tactic| wp_walk using $ts,*) => `(tactic| simp only [↓t_cons, ↓t_nil, ↓t_set, ↓t_setm, ↓t_unp, ↓t_unpm, t_unpmS, ↓t_appm, mvs_nil, mvs_e, mvs_m, offs_nil, offs_cons, List.contains_nil, List.contains_cons, Nat.reduceBEq, ↓t_app, ↓t_apz, ↓t_sto, ↓t_ext, t_extS, t_extT, ↓t_clr, ↓t_stot, ↓t_pop0, ↓t_popu, ↓t_upd, t_updS, ↓t_exp, ↓t_for, ↓t_forB, ↓t_forh, ↓t_whl, ↓t_ret, ↓t_retm, ↓t_rett, ↓t_pass, ↓t_brk, ↓t_cont, ↓w_lit, ↓w_var, ↓w_mvar, ↓w_look0, ↓w_lookS, ↓w_bin, ↓w_neg, ↓w_cmp, ↓w_chain, ↓w_and, ↓w_or, ↓w_not, ↓w_iteE, ↓w_call, ↓w_call0, ↓w_callo, ownA_c, ↓w_bf, ↓w_meth, ↓w_fstr, m_lower, m_upper, m_starts, m_ends, m_find, m_joinL, m_joinT, m_get, fm_nil, fm_cons, fmt_str, fmt_int, rev_str, c_insign, c_nisign, str_int, ↓w_isi, ↓w_sub, ↓w_slice, ↓w_rev, ↓w_tup, ↓w_lst, ↓w_dic, ↓w_dict0, ↓w_comp, ↓w_nil, ↓w_cons, ↓w_rnil, ↓w_re, ↓w_rm, ↓w_onone, ↓w_osome, ↓w_cnil, ↓w_ccons, ↓w_val, ↓w_r1, ↓w_r2, ↓w_r3, ↓w_enum, ↓w_zip, ↓w_step, t_cons, t_nil, t_set, t_setm, t_unp, t_app, t_apz, t_sto, t_ext, t_clr, t_stot, t_pop0, t_popu, t_exp, t_upd, t_for, t_forB, t_whl, t_ret, t_retm, t_rett, t_pass, t_brk, t_cont, w_var, w_look0, w_lookS, w_comp, w_step, W_ok, W_exc, W_bad, W_b, W_grd, T_ok, T_exc, T_bad, T_upd1, wB_bl, wI_int, onw_nx, onw_rt, onw_bk, onw_ct, lpP_nx, lpP_ct, lpP_bk, lpP_rt, retP_nx, retP_rt, stE_nil, stE_cons, sh_int, sh_str, sh_bl, sh_non, sh_tup, sh_lst, sh_dic, shw, shS, shF, shs_nil, shs_cons, noSh_int, noSh_str, noSh_bl, noSh_non, noSh_tup, noSh_lst, noShs_nil, noShs_cons, now, noS, noF, bf_maxd, bf_len, bf_sum, bf_max, bf_min, bf_all, bf_any, bf_int, bf_str, bf_tuple, bf_list, bf_dict, len_lst, len_tup, len_ptu, len_str, len_dic, max_two, min_two, int_int, int_bl, list_lst, list_tup, tuple_lst, tuple_tup, dict_dic, sum_map, getD_map, getT_map, getS, g_t0, g_t1, g_t2, g_t3, g_l0, g_l1, g_l2, w_itL, w_itT, w_itS, w_itP, sh_tupD, sh_ptu, noSh_ptu, dict_ptu, w_enL, w_enS, w_zpT2, w_zpL, w_zpT, b_n, b_t2, b_l2, b_t3, b_t4, wipe_n, wipe_t2, wipe_t3, upS_nil, pathOk_def, canL_w, appD_w, extD_w, clrD_w, pop0D_w, updD_w, stoD_l, o_add, o_sub, o_mul, o_mod, o_fdiv, o_cat, c_lt, c_gt, c_le, c_ge, c_eqi, c_eqs, c_nei, c_nes, c_eqis, c_eqsi, c_neis, c_nesi, f_nil, frz_cons, mod_0, mod_S, Option.map_some, Option.map_none, startE_def, List.map_cons, List.map_nil, List.length_cons, List.length_nil, List.replicate_succ, List.replicate_zero, List.cons_append, List.nil_append, List.append_nil, List.set_cons_zero, List.set_cons_succ, List.getElem?_cons_zero, List.getElem?_cons_succ, Nat.reduceAdd, Nat.reduceSub, Int.reduceLT, Int.reduceLE, Int.reduceNeg, Int.reduceAdd, Int.reduceSub, Int.reduceMul, Int.reduceEq, Int.reduceNe, Bool.or_true, Bool.true_or, Bool.or_false, Bool.false_or, Bool.and_true, Bool.true_and, Bool.and_false, Bool.false_and, Bool.not_true, Bool.not_false, Bool.not_eq_true, Bool.or_eq_true, Bool.and_eq_true, Bool.not_eq_eq_eq_not, decide_eq_true_eq, decide_eq_false_iff_not, beq_iff_eq, beq_eq_false_iff_ne, Bool.false_eq_true, Bool.true_eq_false, eq_self, ne_eq, not_true_eq_false, not_false_eq_true, if_true, if_false, reduceIte, ite_true, ite_false, true_and, and_true, false_and, and_false, true_or, or_true, false_or, or_false, true_implies, false_implies, implies_true, forall_const, Option.some.injEq, Option.isSome_some, Option.getD_some, exists_eq_left, exists_eq_left', exists_eq_right, List.isEmpty_nil, List.isEmpty_cons, reduceCtorEq, grd_and, ok_int, ok_bl, ok_str, ok_non, ok_tup, ok_lst, ok_dic, ok_ptu, Q.isTy_ii, Q.isTy_ib, Q.isTy_is, Q.isTy_bb, Q.isTy_bi, Q.isTy_ss, Q.isTy_si, Q.isTy_sb, Q.isTy_ll, Q.isTy_tt, Q.isTy_lt, Q.isTy_tl, Q.isTy_ni, Q.isTy_ns, List.any_cons, List.any_nil, if_pb, and_assoc, lim_is, Nat.reduceLT, Nat.reduceLeDiff, is_lst, is_tup, is_int, is_str, is_non, is_bl, isn_lst, isn_tup, isn_int, isn_str, isn_non, sh_scr, eq_emp, len_scr, get_scr, $[$ts:term],*])
local macro_rules | `(tactic| wp_walk) => `(tactic| wp_walk using if_true)
/-! ### leaves -/
theorem leaves_run {C : Nat → List D → R D} {N : Nat} {sc : List Int} {its : List Tm} (hc : CellC C sc) (hN : 100 < N) (hz : its.length ≤ 20) : W (runD C N d8 [scriptD sc, .lst .s (its.map stD)]) (fun r => ∃ lv : List (Nat × Nat), r = .lst .w (lv.map lvD) ∧ LvOk its 0 lv) nE := by
  refine W_run rfl rfl ?_
  wp_walk using b8
  refine T_while (fun m env => ∃ (done : List (Nat × Nat)) (b : Nat) (x4 x5 x6 x7 : Option D), m = its.length - b ∧ b ≤ its.length ∧ done.length ≤ b ∧ (∀ rest, LvOk its b rest → LvOk its 0 (done ++ rest)) ∧ env = [some (scriptD sc), some (.lst .s (its.map stD)), some (.lst .w (done.map lvD)), some (.int b), x4, x5, x6, x7, none]) ?_ N its.length _ (by omega) ⟨[], 0, none, none, none, none, rfl, Nat.zero_le _, Nat.le_refl _, (fun _ h => h), rfl⟩
  rintro m _ ⟨done, b, x4, x5, x6, x7, rfl, hb, hd, hI, rfl⟩
  rw [W_asB]
  wp_walk using List.length_map
  refine ⟨fun hlt => ?_, fun hge => ⟨done, rfl, by have := hI [] (show b = its.length by omega); rwa [List.append_nil] at this⟩⟩
  have ed : (done.map lvD).length = done.length := List.length_map ..
  wp_walk using b8_0, shs_lv, ed
  refine W_nE (hc _ (by omega)) ?_
  rintro _ ⟨c, rfl⟩
  wp_walk using List.length_map
  refine ⟨.inl (by decide), ?_⟩
  generalize c + 5 * (done.length : Int) = c1
  have h1 := Int.emod_nonneg c1 (show (6 : Int) ≠ 0 by omega)
  obtain ⟨e, he⟩ : ∃ e : Nat, min (its.length : Int) ((b : Int) + 1 + c1 % 6) = (e : Int) := ⟨(min (its.length : Int) ((b : Int) + 1 + c1 % 6)).toNat, by omega⟩
  have hbe : b < e := by omega
  have hel : e ≤ its.length := by omega
  rw [he]
  wp_walk using slic_lst, seg_cut (xs := its) (b := b) (e := e) (by omega) hel
  refine W_cmap (inj := stD) (fun x => D.int (x.2.m : Int)) (fun x _ => ?_) ?_
  · have e : sh (stD x) = stD x := rfl
    wp_walk using e, stD
  rw [W_eq sum_map]
  have hms := msum_seg (its := its) (b := b) (e := e) (by omega)
  have esm : ((seg its b e).map fun x : Tm => ((x.2.m : Nat) : Int)).sum = ((msum its e - msum its b : Nat) : Int) := by rw [sum_cast, hms]; omega
  have go : ∀ l : Nat, l ≤ msum its e - msum its b → (e = its.length → l = 0) → ∀ rest, LvOk its e rest → LvOk its 0 ((done ++ [(e, l)]) ++ rest) := fun l h1 h2 rest h3 => by
    rw [List.append_assoc]
    exact hI _ ⟨hbe, hel, h1, h2, h3⟩
  have em : ∀ l : Nat, done.map lvD ++ [D.tup [.int e, .int l]] = (done ++ [(e, l)]).map lvD := fun l => by rw [List.map_append]; rfl
  have p0 := Int.emod_nonneg (c1 / 6) (show ((msum its e - msum its b : Nat) : Int) + 1 ≠ 0 by omega)
  have p1 := Int.emod_lt_of_pos (c1 / 6) (show (0 : Int) < ((msum its e - msum its b : Nat) : Int) + 1 by omega)
  obtain ⟨l, hl⟩ : ∃ l : Nat, (c1 / 6) % (((msum its e - msum its b : Nat) : Int) + 1) = (l : Int) := ⟨((c1 / 6) % (((msum its e - msum its b : Nat) : Int) + 1)).toNat, by omega⟩
  rw [hl] at p0 p1
  have em0 := em 0
  have z0 : ((0 : Nat) : Int) = 0 := rfl
  rw [z0] at em0
  wp_walk using esm, List.length_map, hl, em, em0
  exact ⟨fun h => ⟨by omega, by omega, its.length - e, by omega, done ++ [(e, l)], e, _, _, _, _, rfl, hel, by rw [List.length_append]; show done.length + 1 ≤ e; omega, go l (by omega) (by omega), rfl⟩,
    fun h => ⟨by omega, its.length - e, by omega, done ++ [(e, 0)], e, _, _, _, _, rfl, hel, by rw [List.length_append]; show done.length + 1 ≤ e; omega, go 0 (by omega) (fun _ => rfl), rfl⟩⟩
/-! ### what is due -/
def pgX (p : Pg) : D := .tup [.lst .s (p.body.map spD), rlD p.rule, .lst (if p.rule.isNone then .w else .s) (p.foot.map spD)]
theorem sh_pgX (p : Pg) : sh (pgX p) = pgD .s p := by
  show D.tup [.lst .s (shs (p.body.map spD)), sh (rlD p.rule), .lst (if p.rule.isNone then O.w else O.s).sh (shs (p.foot.map spD))] = _
  rw [shs_sp, shs_sp, sh_rl]
  have : (if p.rule.isNone then O.w else O.s).sh = .s := by split <;> rfl
  rw [this]; rfl
theorem shs_pgX (ps : List Pg) : shs (ps.map pgX) = ps.map (pgD .s) := by
  induction ps with
  | nil => rfl
  | cons r n ih => show sh (pgX r) :: shs (n.map pgX) = _; rw [sh_pgX, ih]; rfl
theorem flat_h : ∀ {ns : List (List Rw)}, (∀ n ∈ ns, NtOk n) → (ns.map fun n => (n.map (·.h)).sum).sum = (ns.flatten.length : Int)
  | [], _ => rfl
  | n :: r, h => by
    have h1 : ∀ rs : List Rw, (∀ r ∈ rs, r.h = 1) → (rs.map (·.h)).sum = (rs.length : Int) := by
      intro rs
      induction rs with
      | nil => intro _; rfl
      | cons x t ih =>
        intro hx
        rw [List.map_cons, List.sum_cons, ih fun r hr => hx r (List.mem_cons_of_mem _ hr), hx x List.mem_cons_self, List.length_cons]; omega
    rw [List.map_cons, List.sum_cons, flat_h fun n hn => h n (List.mem_cons_of_mem _ hn), h1 n fun r hr => ((h n List.mem_cons_self).rw r hr).2, List.flatten_cons, List.length_append]
    omega
theorem dep_sp (q : Sp) : dep (spD q) ≤ 1 := by show max 0 (max 0 (max 0 0)) + 1 ≤ 1; decide
theorem dep_rw (o : O) (r : Rw) : dep (rwD o r) ≤ 3 := by
  have := deps_map dep_sp r.sp
  show max 0 (max (deps (r.sp.map spD) + 1) (max 0 0)) + 1 ≤ 3
  omega
theorem due_run {C : Nat → List D → R D} {N : Nat} {H : Int} {its : List Tm} {ns : List (List Rw)} {lv : List (Nat × Nat)} (h9 : UnC C) (ok : AllOk its ns) (hv : LvOk its 0 lv) : W (runD C N d10 [ruD .s H, .lst .s (its.map stD), .lst .s (its.map rtD), .lst .s (ns.map (ntD .s)), .lst .s (lv.map lvD)]) (fun r => r = .lst .w ((pages H its ns 0 0 lv).map pgX)) nE := by
  refine W_run rfl rfl ?_
  wp_walk using b10
  have hlv := lv_len hv
  have hil := ok.il
  refine T_list (inj := lvD) (fun done env => ∃ (acc : List Pg) (b f : Nat) (rest : List (Nat × Nat)) (x8 x9 x10 x11 x12 x13 x14 x15 x16 x17 : Option D), env = [some (ruD .s H), some (.lst .s (its.map stD)), some (.lst .s (its.map rtD)), some (.lst .s (ns.map (ntD .s))), some (.lst .s (lv.map lvD)), some (.lst .w (acc.map pgX)), some (.int b), some (.int f), x8, x9, x10, x11, x12, x13, x14, x15, x16, x17, none] ∧
    lv = done ++ rest ∧ acc ++ pages H its ns b f rest = pages H its ns 0 0 lv ∧ LvOk its b rest ∧ f ≤ msum its b ∧ acc.length = done.length) ⟨[], 0, 0, lv, none, none, none, none, none, none, none, none, none, none, rfl, rfl, rfl, hv, Nat.zero_le _, rfl⟩ ?_ ?_
  · rintro done q rest _ e1 ⟨acc, b, f, rest', x8, x9, x10, x11, x12, x13, x14, x15, x16, x17, rfl, e2, e3, e4, e5, e6⟩
    rw [e1] at e2
    obtain rfl := List.append_cancel_left e2
    obtain ⟨c1, c2, c3, c4, c5⟩ := e4
    have hln := congrArg List.length e1
    rw [List.length_append, List.length_cons] at hln
    have hmx := msum_max ok.it q.1
    have hms := msum_seg (its := its) (b := b) (e := q.1) (by omega)
    have hfl : f ≤ msum its q.1 - q.2 := by omega
    have hln2 : msum its q.1 - q.2 ≤ ns.length := by rw [ok.nl]; have := msum_le (its := its) c2; omega
    have ela : ((msum its q.1 : Nat) : Int) - ((q.2 : Nat) : Int) = ((msum its q.1 - q.2 : Nat) : Int) := by omega
    wp_walk using b10_2, sh_lv, lvD
    refine ⟨sized_of (by omega), sized_of (by omega), ?_⟩
    refine T_rng (fun i env => ∃ (ac : List Sp) (t : Int) (x12 x17 : Option D), env = [some (ruD .s H), some (.lst .s (its.map stD)), some (.lst .s (its.map rtD)), some (.lst .s (ns.map (ntD .s))), some (.lst .s (lv.map lvD)), some (.lst .w (acc.map pgX)), some (.int b), some (.int f), some (.int q.1), some (.int q.2), some (.lst .s (ac.map spD)), some (.int t), x12, x13, x14, x15, x16, x17, none] ∧
      ac ++ bodyS (decide (i = 0)) t (seg its (b + i) q.1) = bodyS true 0 (seg its b q.1) ∧ bodyT (decide (i = 0)) t (seg its (b + i) q.1) = bodyT true 0 (seg its b q.1) ∧ ac.length ≤ 6 * i) ⟨[], 0, x12, x17, rfl, rfl, rfl, by simp⟩ ?_ ?_
    · rintro i _ hi ⟨ac, t, x12, x17, rfl, g1, g2, gl⟩
      have hk : b + i < its.length := by omega
      have hat : atI its ((b : Int) + i) = some its[b + i] := by rw [← Int.natCast_add]; exact at_its hk
      have sc := seg_cons (xs := its) (b := b + i) (e := q.1) (by omega) c2
      have okx := ok.it its[b + i] (List.getElem_mem hk)
      generalize its[b + i] = x at hat sc okx
      rw [sc] at g1 g2
      wp_walk using b10_0, getD_map, hat, stD, rtD, sh_rw
      have et : t + x.1 * (if (b : Int) < (b : Int) + (i : Int) then 1 else 0) = nx (decide (i = 0)) t x.1 := by
        unfold nx
        by_cases h0 : i = 0
        · rw [if_neg (by omega), decide_eq_true h0, if_pos rfl, Int.mul_zero, Int.add_zero]
        · rw [if_pos (by omega), decide_eq_false h0, if_neg Bool.false_ne_true, Int.mul_one]
      rw [et]
      refine ⟨.inr (by split <;> decide), ?_⟩
      refine W_nE (h9 [x.2] _ (by show 1 ≤ 120; decide) fun r hr => by rw [List.mem_singleton.mp hr]; exact okx.len) ?_
      rintro _ rfl
      have e8 : footS (nx (decide (i = 0)) t x.1) [x.2] = lower (nx (decide (i = 0)) t x.1) x.2.sp := List.append_nil _
      have e9 : footT (nx (decide (i = 0)) t x.1) [x.2] = nx (decide (i = 0)) t x.1 + x.2.h := rfl
      rw [e8, e9]
      have hx6 := okx.len
      wp_walk using shs_sp
      rw [W_eq (o_addL (by decide) (by decide) (by rw [List.length_map, List.length_map, lower_len]; omega)), ← List.map_append]
      wp_walk using shs_sp
      refine ⟨ac ++ lower (nx (decide (i = 0)) t x.1) x.2.sp, _, _, _, rfl, ?_, g2, ?_⟩
      · rw [List.append_assoc]; exact g1
      · rw [List.length_append, lower_len]; omega
    · rintro _ ⟨ac, t, x12, x17, rfl, g1, g2, gl⟩
      rw [seg_nil (by omega)] at g1 g2
      have g1 : ac ++ [] = _ := g1
      have g2 : t = _ := g2
      rw [List.append_nil] at g1
      subst g1 g2
      wp_walk using slic_lst, cut_0
      refine W_cmap (inj := stD) (fun x => D.int (x.2.m : Int)) (fun x _ => ?_) ?_
      · have e : sh (stD x) = stD x := rfl
        wp_walk using e, stD
      rw [W_eq sum_map]
      have esm : ((its.take q.1).map fun x : Tm => ((x.2.m : Nat) : Int)).sum = ((msum its q.1 : Nat) : Int) := sum_cast _ _
      wp_walk using esm, ela, slic_lst
      have ets : pages H its ns b f (q :: rest) = pgF H its ns b q.1 f (msum its q.1 - q.2) :: pages H its ns q.1 (msum its q.1 - q.2) rest := rfl
      rw [ets] at e3
      generalize hla : msum its q.1 - q.2 = la at *
      wp_walk using seg_cut (xs := ns) hfl hln2
      have oks : ∀ n ∈ seg ns f la, NtOk n := fun n hn => ok.nt n (seg_mem hn)
      have hz : (seg ns f la).length ≤ 40 := Nat.le_trans seg_len (by rw [ok.nl]; have := msum_max ok.it its.length; omega)
      refine T_list (inj := ntD .s) (fun dn env => ∃ (x15 : Option D), env = [some (ruD .s H), some (.lst .s (its.map stD)), some (.lst .s (its.map rtD)), some (.lst .s (ns.map (ntD .s))), some (.lst .s (lv.map lvD)), some (.lst .w (acc.map pgX)), some (.int b), some (.int f), some (.int q.1), some (.int q.2), some (.lst .s ((bodyS true 0 (seg its b q.1)).map spD)), some (.int (bodyT true 0 (seg its b q.1))), x12, some (.int la), some (.lst .s (dn.flatten.map (rwD .s))), x15, x16, x17, none]) ⟨x15, rfl⟩ ?_ ?_
      · rintro dn n rs _ k1 ⟨x15, rfl⟩
        have k2 := flat_len (ns := dn) fun m hm => oks m (by rw [k1]; exact List.mem_append_left _ hm)
        have k3 := (oks n (by rw [k1]; simp)).len
        have k4 := congrArg List.length k1
        rw [List.length_append, List.length_cons] at k4
        have k5 : (dn ++ [n]).flatten = dn.flatten ++ n := by simp
        wp_walk using b10_1, sh_nt, ntD, shs_rw
        rw [W_eq (o_addL (by decide) (by decide) (by rw [List.length_map, List.length_map]; omega)), ← List.map_append, ← k5]
        wp_walk using shs_rw
        exact ⟨_, rfl⟩
      · rintro _ ⟨x15, rfl⟩
        have hfe : deqs ((seg ns f la).flatten.map (rwD .s)) [] = (seg ns f la).flatten.isEmpty := by cases (seg ns f la).flatten <;> rfl
        have hdp : deps ((seg ns f la).flatten.map (rwD .s)) ≤ 63 := Nat.le_trans (deps_map (dep_rw .s) _) (by decide)
        have heq : cmpop .eq (.lst .s ((seg ns f la).flatten.map (rwD .s))) (.lst .w []) = .ok (seg ns f la).flatten.isEmpty := by rw [eq_lsts hdp (by decide), hfe]
        wp_walk
        refine T_cut (fun env => ∃ (x12 x14 x15 x16 x17 : Option D), env = [some (ruD .s H), some (.lst .s (its.map stD)), some (.lst .s (its.map rtD)), some (.lst .s (ns.map (ntD .s))), some (.lst .s (lv.map lvD)), some (.lst .w ((acc ++ [pgF H its ns b q.1 f la]).map pgX)), some (.int b), some (.int f), some (.int q.1), some (.int q.2), some (.lst .s ((bodyS true 0 (seg its b q.1)).map spD)), some (.int (bodyT true 0 (seg its b q.1))), x12, some (.int la), x14, x15, x16, x17, none]) ?_ ?_
        · by_cases hf : f = la
          · subst hf
            have ep : pgF H its ns b q.1 f f = ⟨bodyS true 0 (seg its b q.1), none, []⟩ := if_pos rfl
            have hem : (seg ns f f).flatten.isEmpty = true := by rw [seg_nil (Nat.le_refl _)]; rfl
            rw [ep, List.map_append]
            wp_walk using t_ifs, heq, hem
            exact ⟨by rw [List.length_map]; omega, _, _, _, _, _, rfl⟩
          · have hem : (seg ns f la).flatten.isEmpty = false := by
              have h1 := oks (ns[f]'(by omega)) (by rw [seg_cons (by omega) hln2]; exact List.mem_cons_self)
              rw [seg_cons (by omega) hln2, List.flatten_cons]
              cases hn : ns[f]'(by omega) with
              | nil => rw [hn] at h1; exact absurd rfl h1.ne
              | cons x r => rfl
            have ep : pgF H its ns b q.1 f la = ⟨bodyS true 0 (seg its b q.1), some (max (bodyT true 0 (seg its b q.1)) (H - 1 - ((seg ns f la).flatten.length : Int))), footS (max (bodyT true 0 (seg its b q.1)) (H - 1 - ((seg ns f la).flatten.length : Int)) + 1) (seg ns f la).flatten⟩ := by
              unfold pgF
              rw [if_neg hf, flat_h oks]
            rw [ep, List.map_append]
            wp_walk using t_ifs, heq, hem, get_h, List.length_map, shs_rw
            have k2 := flat_len oks
            refine W_nE (h9 (seg ns f la).flatten _ (by omega) fun r hr => (flat_ok oks r hr).1.len) ?_
            rintro _ rfl
            wp_walk
            exact ⟨by omega, _, _, _, _, _, rfl⟩
        rintro _ ⟨x12, x14, x15, x16, x17, rfl⟩
        wp_walk
        refine ⟨acc ++ [pgF H its ns b q.1 f la], q.1, la, rest, _, _, _, _, _, _, _, _, _, _, rfl, by rw [e1, List.append_assoc]; rfl, by rw [List.append_assoc]; exact e3, c5, by omega, by rw [List.length_append, List.length_append, e6]; rfl⟩
  · rintro _ ⟨acc, b, f, rest', x8, x9, x10, x11, x12, x13, x14, x15, x16, x17, rfl, e2, e3, e4, e5, e6⟩
    have e7 : rest' = [] := by simpa using e2.symm
    subst e7
    have e3 : acc ++ [] = _ := e3
    rw [List.append_nil] at e3
    wp_walk
    rw [e3]
end K25

set_option maxHeartbeats 2000000
namespace K25
open Q L2
/-! ### each page -/
def headF (s : Cs) : Cs := match findC s 46 with
  | some i => s.take i
  | none => s
theorem head_is {hd t : Cs} (h : 46 ∉ hd) : headF (hd ++ 46 :: t) = hd := by
  have e : findC (hd ++ 46 :: t) 46 = some hd.length := by
    unfold findC
    rw [List.findIdx?_append, List.findIdx?_eq_none_iff.mpr (fun x hx => by
      refine decide_eq_false fun e => h (e ▸ hx)), List.findIdx?_cons]
    simp
  unfold headF
  rw [e]
  simp
theorem nx_le {f : Bool} {t g : Int} (h : 0 ≤ g) : t ≤ nx f t g := by
  unfold nx
  cases f with
  | true => exact Int.le_refl _
  | false => rw [if_neg Bool.false_ne_true]; omega
structure TmOk (x : Tm) : Prop where
  g : 0 ≤ x.1
  r : RwOk x.2
  h : RhOk x.2
theorem bodyT_le : ∀ {l : List Tm} {f : Bool} {t : Int}, (∀ x ∈ l, TmOk x) → t ≤ bodyT f t l
  | [], f, t, _ => Int.le_refl _
  | x :: l, f, t, h => by
    have h1 := bodyT_le (l := l) (f := false) (t := nx f t x.1 + x.2.h) fun y hy => h y (List.mem_cons_of_mem _ hy)
    have h2 := h x List.mem_cons_self
    have h3 := nx_le (f := f) (t := t) h2.g
    have h4 := h2.r.h1
    show t ≤ bodyT false (nx f t x.1 + x.2.h) l
    omega
theorem body_own : ∀ {l : List Tm} {f : Bool} {t : Int}, (∀ x ∈ l, TmOk x) → ∃ own : Int → Cs, ∀ q ∈ bodyS f t l, t ≤ q.1 ∧ q.1 < bodyT f t l ∧ headF q.2.2 = own q.1
  | [], f, t, _ => ⟨fun _ => [], fun q h => nomatch h⟩
  | x :: l, f, t, h => by
    have hl : ∀ y ∈ l, TmOk y := fun y hy => h y (List.mem_cons_of_mem _ hy)
    obtain ⟨own, ho⟩ := body_own (f := false) (t := nx f t x.1 + x.2.h) hl
    have h1 := bodyT_le (f := false) (t := nx f t x.1 + x.2.h) hl
    have h2 := h x List.mem_cons_self
    have h3 := nx_le (f := f) (t := t) h2.g
    have h4 := h2.r.h1
    obtain ⟨hd, hn, hq⟩ := h2.h
    refine ⟨fun i => if i < nx f t x.1 + x.2.h then hd else own i, fun q hm => ?_⟩
    have e : bodyT f t (x :: l) = bodyT false (nx f t x.1 + x.2.h) l := rfl
    rw [e]
    rcases List.mem_append.mp (show q ∈ lower (nx f t x.1) x.2.sp ++ bodyS false (nx f t x.1 + x.2.h) l from hm) with hm | hm
    · obtain ⟨p, hp, rfl⟩ := List.mem_map.mp hm
      obtain ⟨a1, a2, tl, a3⟩ := hq p hp
      refine ⟨by show t ≤ nx f t x.1 + p.1; omega, by show nx f t x.1 + p.1 < _; omega, ?_⟩
      show headF p.2.2 = if nx f t x.1 + p.1 < nx f t x.1 + x.2.h then hd else own (nx f t x.1 + p.1)
      rw [if_pos (by omega), a3, head_is hn]
    · obtain ⟨b1, b2, b3⟩ := ho q hm
      refine ⟨by omega, b2, ?_⟩
      show headF q.2.2 = if q.1 < nx f t x.1 + x.2.h then hd else own q.1
      rw [if_neg (by omega)]; exact b3
theorem foot_own : ∀ {l : List Rw} {t : Int}, (∀ x ∈ l, RhOk x ∧ x.h = 1) → ∃ own : Int → Cs, ∀ q ∈ footS t l, t ≤ q.1 ∧ headF q.2.2 = own q.1
  | [], t, _ => ⟨fun _ => [], fun q h => nomatch h⟩
  | x :: l, t, h => by
    obtain ⟨own, ho⟩ := foot_own (t := t + x.h) fun y hy => h y (List.mem_cons_of_mem _ hy)
    obtain ⟨⟨hd, hn, hq⟩, h1⟩ := h x List.mem_cons_self
    refine ⟨fun i => if i < t + x.h then hd else own i, fun q hm => ?_⟩
    rcases List.mem_append.mp (show q ∈ lower t x.sp ++ footS (t + x.h) l from hm) with hm | hm
    · obtain ⟨p, hp, rfl⟩ := List.mem_map.mp hm
      obtain ⟨a1, a2, tl, a3⟩ := hq p hp
      refine ⟨by show t ≤ t + p.1; omega, ?_⟩
      show headF p.2.2 = if t + p.1 < t + x.h then hd else own (t + p.1)
      rw [if_pos (by omega), a3, head_is hn]
    · obtain ⟨b1, b3⟩ := ho q hm
      refine ⟨by omega, ?_⟩
      show headF q.2.2 = if q.1 < t + x.h then hd else own q.1
      rw [if_neg (by omega)]; exact b3
structure PgOk (p : Pg) : Prop where
  b : p.body.length ≤ 120
  f : p.foot.length ≤ 720
  own : ∃ own : Int → Cs, ∀ q ∈ p.body ++ p.foot, headF q.2.2 = own q.1
  off : ∀ q ∈ p.body ++ p.foot, p.rule ≠ some q.1
  lt : ∀ r, p.rule = some r → ∀ q ∈ p.body, q.1 < r
  gt : ∀ r, p.rule = some r → ∀ q ∈ p.foot, r < q.1
theorem body_len : ∀ {l : List Tm} {f : Bool} {t : Int}, (∀ x ∈ l, RwOk x.2) → (bodyS f t l).length ≤ 6 * l.length
  | [], _, _, _ => Nat.le_refl _
  | x :: l, f, t, h => by
    have h1 := (h x List.mem_cons_self).len
    have h2 := body_len (f := false) (t := nx f t x.1 + x.2.h) fun y hy => h y (List.mem_cons_of_mem _ hy)
    show (lower (nx f t x.1) x.2.sp ++ bodyS false (nx f t x.1 + x.2.h) l).length ≤ _
    rw [List.length_append, lower_len, List.length_cons]; omega
structure FulOk (its : List Tm) (ns : List (List Rw)) : Prop where
  it : ∀ x ∈ its, TmOk x
  il : its.length ≤ 20
  nt : ∀ n ∈ ns, NtOk n ∧ ∀ r ∈ n, RhOk r
  nl : ns.length = msum its its.length
theorem FulOk.all {its : List Tm} {ns : List (List Rw)} (h : FulOk its ns) : AllOk its ns := ⟨fun x hx => (h.it x hx).r, h.il, fun n hn => (h.nt n hn).1, h.nl⟩
theorem FulOk.n40 {its : List Tm} {ns : List (List Rw)} (h : FulOk its ns) : ns.length ≤ 40 := by
  rw [h.nl]
  have := msum_max h.all.it its.length
  have := h.il
  omega
theorem pg_ok {H : Int} {its : List Tm} {ns : List (List Rw)} {b e f l : Nat} (ok : FulOk its ns) : PgOk (pgF H its ns b e f l) := by
  have ob : ∀ x ∈ seg its b e, TmOk x := fun x hx => ok.it x (seg_mem hx)
  have of : ∀ r ∈ (seg ns f l).flatten, RhOk r ∧ r.h = 1 := fun r hr => by
    obtain ⟨n, h1, h2⟩ := List.mem_flatten.mp hr
    have h3 := ok.nt n (seg_mem h1)
    exact ⟨h3.2 r h2, (h3.1.rw r h2).2⟩
  have lb : (bodyS true 0 (seg its b e)).length ≤ 120 := by
    have h1 := body_len (l := seg its b e) (f := true) (t := 0) fun x hx => (ob x hx).r
    have h2 := seg_len (xs := its) (b := b) (e := e)
    have := ok.il
    omega
  obtain ⟨ownB, hB⟩ := body_own (l := seg its b e) (f := true) (t := 0) ob
  unfold pgF
  split
  · refine ⟨lb, Nat.zero_le _, ⟨ownB, fun q hq => ?_⟩, fun q _ => (by simp), (fun r h => nomatch h), fun r h => nomatch h⟩
    have hq : q ∈ bodyS true 0 (seg its b e) ++ [] := hq
    rw [List.append_nil] at hq
    exact (hB q hq).2.2
  · generalize hr : max (bodyT true 0 (seg its b e)) (H - 1 - ((seg ns f l).map fun n => (n.map (·.h)).sum).sum) = rl
    have hrb : bodyT true 0 (seg its b e) ≤ rl := by rw [← hr]; exact Int.le_max_left ..
    obtain ⟨ownF, hF⟩ := foot_own (l := (seg ns f l).flatten) (t := rl + 1) of
    refine ⟨lb, ?_, ⟨fun i => if i < rl then ownB i else ownF i, fun q hq => ?_⟩, fun q hq e => ?_, fun r e q hq => ?_, fun r e q hq => ?_⟩
    · have h1 := foot_len (seg ns f l).flatten (rl + 1) fun r hr => by
        obtain ⟨n, h1, h2⟩ := List.mem_flatten.mp hr
        exact (((ok.nt n (seg_mem h1)).1.rw r h2).1).len
      have h2 := flat_len (ns := seg ns f l) fun n hn => (ok.nt n (seg_mem hn)).1
      have h3 := seg_len (xs := ns) (b := f) (e := l)
      have := ok.n40
      show (footS (rl + 1) (seg ns f l).flatten).length ≤ 720
      omega
    · rcases List.mem_append.mp hq with hq | hq
      · obtain ⟨a1, a2, a3⟩ := hB q hq
        show headF q.2.2 = if q.1 < rl then ownB q.1 else ownF q.1
        rw [if_pos (by omega)]; exact a3
      · obtain ⟨a1, a3⟩ := hF q hq
        show headF q.2.2 = if q.1 < rl then ownB q.1 else ownF q.1
        rw [if_neg (by omega)]; exact a3
    · have e : rl = q.1 := by simpa using e
      rcases List.mem_append.mp hq with hq | hq
      · obtain ⟨a1, a2, a3⟩ := hB q hq
        omega
      · obtain ⟨a1, a3⟩ := hF q hq
        omega
    · have e : rl = r := by simpa using e
      obtain ⟨a1, a2, a3⟩ := hB q hq
      omega
    · have e : rl = r := by simpa using e
      obtain ⟨a1, a3⟩ := hF q hq
      omega
theorem pgs_ok {H : Int} {its : List Tm} {ns : List (List Rw)} (ok : FulOk its ns) : ∀ (lv : List (Nat × Nat)) (b f : Nat), ∀ p ∈ pages H its ns b f lv, PgOk p
  | [], _, _, p, h => nomatch h
  | q :: r, b, f, p, h => by
    rcases List.mem_cons.mp h with rfl | h
    · exact pg_ok ok
    · exact pgs_ok ok r _ _ p h
/-! ### each spot once -/
def txS (sp : List Sp) : List Cs := sp.map (·.2.2)
def txR (rs : List Rw) : List Cs := rs.flatMap fun r => txS r.sp
theorem txS_app (a b : List Sp) : txS (a ++ b) = txS a ++ txS b := List.map_append
theorem txS_lower (t : Int) (sp : List Sp) : txS (lower t sp) = txS sp := by
  unfold txS lower
  rw [List.map_map]; rfl
theorem tx_body : ∀ (l : List Tm) (f : Bool) (t : Int), txS (bodyS f t l) = txR (l.map (·.2))
  | [], _, _ => rfl
  | x :: l, f, t => by
    show txS (lower (nx f t x.1) x.2.sp ++ bodyS false _ l) = txS x.2.sp ++ txR (l.map (·.2))
    rw [txS_app, txS_lower, tx_body l]
theorem tx_foot : ∀ (l : List Rw) (t : Int), txS (footS t l) = txR l
  | [], _ => rfl
  | x :: l, t => by
    show txS (lower t x.sp ++ footS _ l) = txS x.sp ++ txR l
    rw [txS_app, txS_lower, tx_foot l]
theorem txR_app (a b : List Rw) : txR (a ++ b) = txR a ++ txR b := List.flatMap_append
def txP (ps : List Pg) : List Cs := ps.flatMap fun p => txS (p.body ++ p.foot)
theorem drop_seg {α : Type} {xs : List α} {b e : Nat} (h : b ≤ e) : xs.drop b = seg xs b e ++ xs.drop e := by
  unfold seg
  have h1 : (xs.take e).drop b ++ xs.drop e = (xs.drop b).take (e - b) ++ (xs.drop b).drop (e - b) := by
    rw [List.drop_take, List.drop_drop, Nat.add_sub_cancel' h]
  rw [h1, List.take_append_drop]
theorem pages_tx {H : Int} {its : List Tm} {ns : List (List Rw)} (ok : AllOk its ns) : ∀ (lv : List (Nat × Nat)) (b f : Nat), LvOk its b lv → f ≤ msum its b → (b = its.length → f = msum its b) →
    (txP (pages H its ns b f lv)).Perm (txR ((its.drop b).map (·.2)) ++ txR (ns.drop f).flatten)
  | [], b, f, h, _, he => by
    have h : b = its.length := h
    have e := he h
    rw [h] at e
    rw [← ok.nl] at e
    rw [List.drop_of_length_le (by omega), List.drop_of_length_le (by omega)]
    exact .nil
  | q :: r, b, f, ⟨c1, c2, c3, c4, c5⟩, hf, _ => by
    have hm := msum_le (its := its) (b := b) (e := q.1) (by omega)
    have ih := pages_tx (H := H) ok r q.1 (msum its q.1 - q.2) c5 (Nat.sub_le _ _) (fun e => by rw [c4 e]; rfl)
    have ep : txS ((pgF H its ns b q.1 f (msum its q.1 - q.2)).body ++ (pgF H its ns b q.1 f (msum its q.1 - q.2)).foot) = txR ((seg its b q.1).map (·.2)) ++ txR (seg ns f (msum its q.1 - q.2)).flatten := by
      rw [txS_app]
      unfold pgF
      split
      · rename_i e
        rw [← e, seg_nil (Nat.le_refl _)]
        show txS (bodyS true 0 (seg its b q.1)) ++ [] = _ ++ txR []
        rw [tx_body]; rfl
      · show txS (bodyS true 0 (seg its b q.1)) ++ txS (footS _ _) = _
        rw [tx_body, tx_foot]
    show (txS _ ++ txP (pages H its ns q.1 (msum its q.1 - q.2) r)).Perm _
    rw [ep, drop_seg (xs := its) (b := b) (e := q.1) (by omega), drop_seg (xs := ns) (b := f) (e := msum its q.1 - q.2) (by omega), List.map_append, txR_app, List.flatten_append, txR_app]
    refine (List.Perm.append_left _ ih).trans ?_
    rw [List.append_assoc, List.append_assoc]
    refine List.Perm.append_left _ ?_
    rw [← List.append_assoc, ← List.append_assoc]
    exact List.Perm.append_right _ List.perm_append_comm
theorem all_tx {H : Int} {its : List Tm} {ns : List (List Rw)} {lv : List (Nat × Nat)} (ok : AllOk its ns) (hv : LvOk its 0 lv) : sortC (txP (pages H its ns 0 0 lv)) = sortC (txR (its.map (·.2)) ++ txR ns.flatten) := by
  have h := pages_tx (H := H) ok lv 0 0 hv (Nat.zero_le _) (fun e => by unfold msum; rfl)
  exact pw_one ((sortC_perm _).trans (h.trans (sortC_perm _).symm)) (sortC_pw _) (sortC_pw _)
end K25

set_option maxHeartbeats 2000000
namespace K25
open Q L2
local macro_rules | `(tactic| wp_walk using $ts,*) => `(tactic| simp only [↓t_cons, ↓t_nil, ↓t_set, ↓t_setm, ↓t_unp, ↓t_unpm, t_unpmS, ↓t_appm, mvs_nil, mvs_e, mvs_m, offs_nil, offs_cons, List.contains_nil, List.contains_cons, Nat.reduceBEq, ↓t_app, ↓t_apz, ↓t_sto, ↓t_ext, t_extS, t_extT, ↓t_clr, ↓t_stot, ↓t_pop0, ↓t_popu, ↓t_upd, t_updS, ↓t_exp, ↓t_for, ↓t_forB, ↓t_forh, ↓t_whl, ↓t_ret, ↓t_retm, ↓t_rett, ↓t_pass, ↓t_brk, ↓t_cont, ↓w_lit, ↓w_var, ↓w_mvar, ↓w_look0, ↓w_lookS, ↓w_bin, ↓w_neg, ↓w_cmp, ↓w_chain, ↓w_and, ↓w_or, ↓w_not, ↓w_iteE, ↓w_call, ↓w_call0, ↓w_callo, ownA_c, ↓w_bf, ↓w_meth, ↓w_fstr, m_lower, m_upper, m_starts, m_ends, m_find, m_joinL, m_joinT, m_get, fm_nil, fm_cons, fmt_str, fmt_int, rev_str, c_insign, c_nisign, str_int, ↓w_isi, ↓w_sub, ↓w_slice, ↓w_rev, ↓w_tup, ↓w_lst, ↓w_dic, ↓w_dict0, ↓w_comp, ↓w_nil, ↓w_cons, ↓w_rnil, ↓w_re, ↓w_rm, ↓w_onone, ↓w_osome, ↓w_cnil, ↓w_ccons, ↓w_val, ↓w_r1, ↓w_r2, ↓w_r3, ↓w_enum, ↓w_zip, ↓w_step, t_cons, t_nil, t_set, t_setm, t_unp, t_app, t_apz, t_sto, t_ext, t_clr, t_stot, t_pop0, t_popu, t_exp, t_upd, t_for, t_forB, t_whl, t_ret, t_retm, t_rett, t_pass, t_brk, t_cont, w_var, w_look0, w_lookS, w_comp, w_step, W_ok, W_exc, W_bad, W_b, W_grd, T_ok, T_exc, T_bad, T_upd1, wB_bl, wI_int, onw_nx, onw_rt, onw_bk, onw_ct, lpP_nx, lpP_ct, lpP_bk, lpP_rt, retP_nx, retP_rt, stE_nil, stE_cons, sh_int, sh_str, sh_bl, sh_non, sh_tup, sh_lst, sh_dic, shw, shS, shF, shs_nil, shs_cons, noSh_int, noSh_str, noSh_bl, noSh_non, noSh_tup, noSh_lst, noShs_nil, noShs_cons, now, noS, noF, bf_maxd, bf_len, bf_sum, bf_max, bf_min, bf_all, bf_any, bf_int, bf_str, bf_tuple, bf_list, bf_dict, len_lst, len_tup, len_ptu, len_str, len_dic, max_two, min_two, int_int, int_bl, list_lst, list_tup, tuple_lst, tuple_tup, dict_dic, sum_map, getD_map, getT_map, getS, g_t0, g_t1, g_t2, g_t3, g_l0, g_l1, g_l2, w_itL, w_itT, w_itS, w_itP, sh_tupD, sh_ptu, noSh_ptu, dict_ptu, w_enL, w_enS, w_zpT2, w_zpL, w_zpT, b_n, b_t2, b_l2, b_t3, b_t4, wipe_n, wipe_t2, wipe_t3, upS_nil, pathOk_def, canL_w, appD_w, extD_w, clrD_w, pop0D_w, updD_w, stoD_l, o_add, o_sub, o_mul, o_mod, o_fdiv, o_cat, c_lt, c_gt, c_le, c_ge, c_eqi, c_eqs, c_nei, c_nes, c_eqis, c_eqsi, c_neis, c_nesi, f_nil, frz_cons, mod_0, mod_S, Option.map_some, Option.map_none, startE_def, List.map_cons, List.map_nil, List.length_cons, List.length_nil, List.replicate_succ, List.replicate_zero, List.cons_append, List.nil_append, List.append_nil, List.set_cons_zero, List.set_cons_succ, List.getElem?_cons_zero, List.getElem?_cons_succ, Nat.reduceAdd, Nat.reduceSub, Int.reduceLT, Int.reduceLE, Int.reduceNeg, Int.reduceAdd, Int.reduceSub, Int.reduceMul, Int.reduceEq, Int.reduceNe, Bool.or_true, Bool.true_or, Bool.or_false, Bool.false_or, Bool.and_true, Bool.true_and, Bool.and_false, Bool.false_and, Bool.not_true, Bool.not_false, Bool.not_eq_true, Bool.or_eq_true, Bool.and_eq_true, Bool.not_eq_eq_eq_not, decide_eq_true_eq, decide_eq_false_iff_not, beq_iff_eq, beq_eq_false_iff_ne, Bool.false_eq_true, Bool.true_eq_false, eq_self, ne_eq, not_true_eq_false, not_false_eq_true, if_true, if_false, reduceIte, ite_true, ite_false, true_and, and_true, false_and, and_false, true_or, or_true, false_or, or_false, true_implies, false_implies, implies_true, forall_const, Option.some.injEq, Option.isSome_some, Option.getD_some, exists_eq_left, exists_eq_left', exists_eq_right, List.isEmpty_nil, List.isEmpty_cons, reduceCtorEq, grd_and, ok_int, ok_bl, ok_str, ok_non, ok_tup, ok_lst, ok_dic, ok_ptu, Q.isTy_ii, Q.isTy_ib, Q.isTy_is, Q.isTy_bb, Q.isTy_bi, Q.isTy_ss, Q.isTy_si, Q.isTy_sb, Q.isTy_ll, Q.isTy_tt, Q.isTy_lt, Q.isTy_tl, Q.isTy_ni, Q.isTy_ns, List.any_cons, List.any_nil, if_pb, and_assoc, lim_is, Nat.reduceLT, Nat.reduceLeDiff, is_lst, is_tup, is_int, is_str, is_non, is_bl, isn_lst, isn_tup, isn_int, isn_str, isn_non, sh_scr, eq_emp, len_scr, get_scr, $[$ts:term],*])
local macro_rules | `(tactic| wp_walk) => `(tactic| wp_walk using if_true)
theorem all_t {α : Type} {o : O} {g : α → Bool} {xs : List α} (h : ∀ x ∈ xs, g x = true) : fAll [.lst o (xs.map fun a => D.bl (g a))] = .ok (D.bl true) := by
  have e : ∀ ys : List α, (∀ x ∈ ys, g x = true) → blsOf (ys.map fun a => D.bl (g a)) = some (ys.map fun _ => true) := by
    intro ys
    induction ys with
    | nil => intro _; rfl
    | cons a r ih =>
      intro hy
      show (blsOf (r.map fun a => D.bl (g a))).map (g a :: ·) = _
      rw [ih fun x hx => hy x (List.mem_cons_of_mem _ hx), hy a List.mem_cons_self]; rfl
  show (match blsOf (xs.map fun a => D.bl (g a)) with
    | some bs => R.ok (D.bl (bs.all id))
    | none => .bad) = _
  rw [e xs h]
  simp
theorem deq_sp (q : Sp) : deq (spD q) (spD q) = true := deq_refl _ rfl
theorem deq_rl (r : Option Int) : deq (rlD r) (rlD r) = true := by cases r <;> exact deq_refl _ rfl
theorem deq_pg (o o' : O) (p : Pg) : deq (pgD o p) (pgD o' p) = true := by
  show (deqs (p.body.map spD) (p.body.map spD) && (deq (rlD p.rule) (rlD p.rule) && (deqs (p.foot.map spD) (p.foot.map spD) && true))) = true
  rw [deqs_map deq_sp, deqs_map deq_sp, deq_rl]; rfl
theorem dep_rl (r : Option Int) : dep (rlD r) ≤ 0 := by cases r <;> exact Nat.le_refl _
theorem dep_pg (o : O) (p : Pg) : dep (pgD o p) ≤ 3 := by
  have h1 := deps_map dep_sp p.body
  have h2 := deps_map dep_sp p.foot
  have h3 := dep_rl p.rule
  show max (deps (p.body.map spD) + 1) (max (dep (rlD p.rule)) (max (deps (p.foot.map spD) + 1) 0)) + 1 ≤ 3
  omega
theorem ne_pgs {o o' a b : O} (ps : List Pg) : cmpop .ne (.lst o (ps.map (pgD a))) (.lst o' (ps.map (pgD b))) = .ok false := by
  rw [ne_lsts (Nat.le_trans (deps_map (dep_pg a) ps) (by decide)) (Nat.le_trans (deps_map (dep_pg b) ps) (by decide)), deqs_map (deq_pg a b)]; rfl
abbrev RiC (C : Nat → List D → R D) : Prop := ∀ ps : List Pg, (∀ p ∈ ps, PgOk p) → W (C 11 [.lst .s (ps.map (pgD .s)), .lst .s (ps.map (pgD .s))]) (fun r => r = .bl true) nE
theorem rl_bool (r : Option Int) : isTy (rlD r) .bool = false := by cases r <;> rfl
theorem rl_ok (r : Option Int) : isOk (rlD r) = true := by cases r <;> rfl
theorem ri_run {C : Nat → List D → R D} {N : Nat} {ps : List Pg} (ok : ∀ p ∈ ps, PgOk p) : W (runD C N d11 [.lst .s (ps.map (pgD .s)), .lst .s (ps.map (pgD .s))]) (fun r => r = .bl true) nE := by
  refine W_run rfl rfl ?_
  wp_walk using b11
  refine T_cut (fun e => e = [some (.lst .s (ps.map (pgD .s))), some (.lst .s (ps.map (pgD .s))), none, none]) ?_ ?_
  · wp_walk using t_ifs, ne_pgs
  rintro _ rfl
  wp_walk
  refine T_list (inj := pgD .s) (fun _ e => ∃ x2, e = [some (.lst .s (ps.map (pgD .s))), some (.lst .s (ps.map (pgD .s))), x2, none]) ⟨none, rfl⟩ ?_ ?_
  · rintro done p rest _ e1 ⟨x2, rfl⟩
    have okp := ok p (by rw [e1]; simp)
    wp_walk using b11_0, sh_pg
    refine T_cut (fun e => e = [some (.lst .s (ps.map (pgD .s))), some (.lst .s (ps.map (pgD .s))), some (pgD .s p), none]) ?_ ?_
    · wp_walk using t_ifs, pgD
    rintro _ rfl
    wp_walk using t_ifs, pgD, rl_bool, rl_ok
    rw [W_eq (o_addL (by decide) (by decide) (by rw [List.length_map, List.length_map]; have := okp.b; have := okp.f; omega)), ← List.map_append]
    wp_walk
    refine W_cmap (inj := spD) (fun _ => D.bl true) (fun q _ => ?_) ?_
    · wp_walk using sh_spD, spD
    rw [W_eq (all_t (g := fun _ => true) fun _ _ => rfl)]
    wp_walk
    exact ⟨_, rfl⟩
  · rintro _ ⟨x2, rfl⟩
    wp_walk
theorem shs_str (xs : List Cs) : shs (xs.map D.str) = xs.map D.str := shs_map' fun _ => rfl
/-! ### apart -/
theorem part_head (s : Cs) : ∃ r, mfun .part (.str s) [.str [46]] = .ok (.tup (.str (headF s) :: r)) := by
  show ∃ r, (match findC s 46 with
    | some i => R.ok (D.tup [.str (s.take i), .str [46], .str (s.drop (i + 1))])
    | none => R.ok (D.tup [.str s, .str [], .str []])) = _
  unfold headF
  cases findC s 46 with
  | none => exact ⟨_, rfl⟩
  | some i => exact ⟨_, rfl⟩
theorem putD_mem {kvs : List (Ky × D)} {k : Ky} {v : D} {kv : Ky × D} (h : kv ∈ putD kvs k v) : kv ∈ kvs ∨ kv = (k, v) := by
  unfold putD at h
  split at h
  · obtain ⟨p, hp, rfl⟩ := List.mem_map.mp h
    split
    · rename_i e; rw [e]; exact .inr rfl
    · exact .inl hp
  · rcases List.mem_append.mp h with h | h
    · exact .inl h
    · exact .inr (List.mem_singleton.mp h)
def OwOk (own : Int → Cs) (kvs : List (Ky × D)) : Prop := ∀ kv ∈ kvs, ∃ t, kv.1 = .inl t ∧ kv.2 = .str (own t)
theorem setd_ok {own : Int → Cs} {kvs : List (Ky × D)} {t : Int} {hd : Cs} (h : OwOk own kvs) (he : hd = own t) (hl : kvs.length < 16777216) : ∃ kvs', sdD (.int t) (.str hd) (.dic .w kvs) = some (.str hd, .dic .w kvs') ∧ OwOk own kvs' ∧ kvs'.length ≤ kvs.length + 1 := by
  have e0 : sdD (.int t) (.str hd) (.dic .w kvs) = if kvs.length < lim then (match lookD kvs (.inl t) with
    | some d => if flatD d = true then some (d, .dic .w kvs) else none
    | none => if flatD (.str hd) = true then some (.str hd, .dic .w (putD kvs (.inl t) (.str hd))) else none) else none := rfl
  rw [e0, if_pos (by rw [lim_is]; exact hl)]
  cases hlk : lookD kvs (.inl t) with
  | some d =>
    unfold lookD at hlk
    obtain ⟨p, hp, e⟩ := Option.map_eq_some_iff.mp hlk
    have hm := List.mem_of_find?_eq_some hp
    have hk := List.find?_some hp
    obtain ⟨t', e1, e2⟩ := h p hm
    have e3 : p.1 = .inl t := by simpa using hk
    rw [e1] at e3
    cases e3
    rw [e2] at e
    subst e
    rw [he]
    exact ⟨kvs, rfl, h, Nat.le_succ _⟩
  | none =>
    refine ⟨putD kvs (.inl t) (.str hd), rfl, fun kv hkv => ?_, putD_len _ _ _⟩
    rcases putD_mem hkv with hkv | rfl
    · exact h kv hkv
    · exact ⟨t, rfl, by rw [he]⟩
theorem eq_rule {t : Int} {r : Option Int} (h : r ≠ some t) : cmpop .eq (.int t) (rlD r) = .ok false := by
  cases r with
  | none => rfl
  | some i =>
    show R.ok (t == i) = _
    have : (t == i) = false := by simpa using fun e : t = i => h (by rw [e])
    rw [this]
theorem isn_rl (r : Option Int) : cmpop .isnot (rlD r) .non = .ok r.isSome := by cases r <;> rfl
theorem sorted_strs {o : O} (ps : List Cs) : bfun .sorted [.lst o (ps.map D.str)] = .ok (.lst .w ((sortC ps).map D.str)) := by
  show (match strsOf (ps.map D.str) with
    | some ps => R.ok (D.lst .w ((sortC ps).map D.str))
    | none => .bad) = _
  rw [strsOf_map]
theorem eq_strs (ps : List Cs) : cmpop .eq (.lst .w (ps.map D.str)) (.lst .w (ps.map D.str)) = .ok true := by
  have h := Nat.le_trans (deps_map (f := D.str) (n := 0) (fun _ => Nat.le_refl _) ps) (show 0 ≤ 63 by decide)
  rw [eq_lsts h h, deqs_map (f := D.str) (g := D.str) fun s => deq_refl _ rfl]
abbrev ApC (C : Nat → List D → R D) (ps : List Pg) (its : List Tm) (ns : List (List Rw)) : Prop := W (C 12 [.lst .s (ps.map (pgD .s)), .lst .s (its.map rtD), .lst .s (ns.map (ntD .s))]) (fun r => r = .bl true) nE
theorem ap_run {C : Nat → List D → R D} {N : Nat} {ps : List Pg} {its : List Tm} {ns : List (List Rw)} (ok : ∀ p ∈ ps, PgOk p) (hl : ps.length ≤ 20) (ok2 : FulOk its ns) (hs : sortC (txP ps) = sortC (txR (its.map (·.2)) ++ txR ns.flatten)) : W (runD C N d12 [.lst .s (ps.map (pgD .s)), .lst .s (its.map rtD), .lst .s (ns.map (ntD .s))]) (fun r => r = .bl true) nE := by
  refine W_run rfl rfl ?_
  wp_walk using b12
  refine T_list (inj := pgD .s) (fun done env => ∃ (x7 x8 x9 x10 x11 x12 : Option D), env = [some (.lst .s (ps.map (pgD .s))), some (.lst .s (its.map rtD)), some (.lst .s (ns.map (ntD .s))), some (.lst .w ((txP done).map D.str)), none, none, none, x7, x8, x9, x10, x11, x12]) ⟨none, none, none, none, none, none, rfl⟩ ?_ ?_
  · rintro done p rest _ e1 ⟨x7, x8, x9, x10, x11, x12, rfl⟩
    have okp := ok p (by rw [e1]; simp)
    have tlen : (txP done).length ≤ 840 * done.length := by
      have : ∀ ds : List Pg, (∀ p ∈ ds, PgOk p) → (txP ds).length ≤ 840 * ds.length := by
        intro ds
        induction ds with
        | nil => intro _; exact Nat.le_refl _
        | cons p r ih =>
          intro h
          have h1 := (h p List.mem_cons_self).b
          have h2 := (h p List.mem_cons_self).f
          have h3 := ih fun p hp => h p (List.mem_cons_of_mem _ hp)
          show (txS (p.body ++ p.foot) ++ txP r).length ≤ _
          unfold txS
          rw [List.length_append, List.length_map, List.length_append, List.length_cons]; omega
      exact this done fun p hp => ok p (by rw [e1]; exact List.mem_append_left _ hp)
    have dlen := congrArg List.length e1
    rw [List.length_append, List.length_cons] at dlen
    obtain ⟨own, hown⟩ := okp.own
    wp_walk using b12_1, sh_pg, pgD, shs_sp
    rw [W_eq (o_addL (by decide) (by decide) (by rw [List.length_map, List.length_map]; have := okp.b; have := okp.f; omega)), ← List.map_append]
    wp_walk
    refine T_list (inj := spD) (fun dn env => ∃ (kvs : List (Ky × D)) (x11 x12 : Option D), env = [some (.lst .s (ps.map (pgD .s))), some (.lst .s (its.map rtD)), some (.lst .s (ns.map (ntD .s))), some (.lst .w ((txP done ++ txS dn).map D.str)), none, none, none, some (.lst .s (p.body.map spD)), some (rlD p.rule), some (.lst .s (p.foot.map spD)), some (.dic .w kvs), x11, x12] ∧ OwOk own kvs ∧ kvs.length ≤ dn.length) ⟨[], x11, x12, ?_, (fun _ h => nomatch h), Nat.zero_le _⟩ ?_ ?_
    · show _ = [_, _, _, some (D.lst .w ((txP done ++ []).map D.str)), _, _, _, _, _, _, _, _, _]
      rw [List.append_nil, sh_rl]
    · rintro dn q rs _ k1 ⟨kvs, x11, x12, rfl, how, hkl⟩
      have hq : q ∈ p.body ++ p.foot := by rw [k1]; simp
      have dnl := congrArg List.length k1
      rw [List.length_append, List.length_append, List.length_cons] at dnl
      have bl := okp.b
      have fl := okp.f
      obtain ⟨r, epart⟩ := part_head q.2.2
      obtain ⟨kvs', es, how', hkl'⟩ := setd_ok how (hown q hq) (by omega)
      have hoff := eq_rule (okp.off q hq)
      have e5 : (txP done ++ txS dn).map D.str ++ [D.str q.2.2] = (txP done ++ txS (dn ++ [q])).map D.str := by
        rw [txS_app, ← List.append_assoc, List.map_append (l₂ := txS [q])]; rfl
      wp_walk using b12_0, sh_spD, spD
      have hne : cmpop .ne (.str (headF q.2.2)) (.str (headF q.2.2)) = .ok false := by
        show R.ok (!(headF q.2.2 == headF q.2.2)) = _
        simp
      have txl : (txS dn).length = dn.length := List.length_map ..
      refine ⟨by rw [List.length_map, List.length_append]; omega, ?_⟩
      rw [W_eq epart]
      wp_walk
      rw [t_ifsd]
      wp_walk
      rw [T_sdS (show _ = _ from rfl) es]
      wp_walk
      rw [t_sdB]
      wp_walk using hne, hoff
      refine ⟨kvs', some (.tup [.int q.1, .int q.2.1, .str q.2.2]), some (.str (headF q.2.2)), ?_, how', by rw [List.length_append]; show kvs'.length ≤ dn.length + 1; omega⟩
      rw [e5]
    · rintro _ ⟨kvs, x11, x12, rfl, how, hkl⟩
      have e6 : txP done ++ txS (p.body ++ p.foot) = txP (done ++ [p]) := by
        unfold txP
        rw [List.flatMap_append]
        show _ = _ ++ (txS (p.body ++ p.foot) ++ [])
        rw [List.append_nil]
      rw [e6]
      have hlt := okp.lt
      have hgt := okp.gt
      generalize hru : p.rule = ru at hlt hgt ⊢
      wp_walk
      refine T_cut (fun env => env = [some (.lst .s (ps.map (pgD .s))), some (.lst .s (its.map rtD)), some (.lst .s (ns.map (ntD .s))), some (.lst .w ((txP (done ++ [p])).map D.str)), none, none, none, some (.lst .s (p.body.map spD)), some (rlD ru), some (.lst .s (p.foot.map spD)), some (.dic .w kvs), x11, x12]) ?_ ?_
      · cases ru with
        | none =>
          have e8 : rlD none = .non := rfl
          wp_walk using t_ifs, e8
        | some r =>
          have e8 : rlD (some r) = .int r := rfl
          wp_walk using t_ifs, e8
          refine W_cmap (inj := spD) (fun q => D.bl (decide (q.1 < r))) (fun q hq => ?_) ?_
          · wp_walk using sh_spD, spD
          rw [W_eq (all_t (g := fun q : Sp => decide (q.1 < r)) fun q hq => decide_eq_true (hlt r rfl q hq))]
          wp_walk
      rintro _ rfl
      wp_walk
      refine T_cut (fun env => env = [some (.lst .s (ps.map (pgD .s))), some (.lst .s (its.map rtD)), some (.lst .s (ns.map (ntD .s))), some (.lst .w ((txP (done ++ [p])).map D.str)), none, none, none, some (.lst .s (p.body.map spD)), some (rlD ru), some (.lst .s (p.foot.map spD)), some (.dic .w kvs), x11, x12]) ?_ ?_
      · cases ru with
        | none =>
          have e8 : rlD none = .non := rfl
          wp_walk using t_ifs, e8
        | some r =>
          have e8 : rlD (some r) = .int r := rfl
          wp_walk using t_ifs, e8
          refine W_cmap (inj := spD) (fun q => D.bl (decide (r < q.1))) (fun q hq => ?_) ?_
          · wp_walk using sh_spD, spD
          rw [W_eq (all_t (g := fun q : Sp => decide (r < q.1)) fun q hq => decide_eq_true (hgt r rfl q hq))]
          wp_walk
      rintro _ rfl
      wp_walk
      exact ⟨_, _, _, _, _, _, rfl⟩
  · rintro _ ⟨x7, x8, x9, x10, x11, x12, rfl⟩
    have txc : ∀ sp : List Sp, (sp.map fun q => D.str q.2.2) = (txS sp).map D.str := fun sp => by unfold txS; rw [List.map_map]; rfl
    have rlen : ∀ rs : List Rw, (∀ r ∈ rs, r.sp.length ≤ 6) → (txR rs).length ≤ 6 * rs.length := by
      intro rs
      induction rs with
      | nil => intro _; exact Nat.le_refl _
      | cons r t ih =>
        intro h
        have h1 := h r List.mem_cons_self
        have h2 := ih fun p hp => h p (List.mem_cons_of_mem _ hp)
        show (txS r.sp ++ txR t).length ≤ _
        unfold txS
        rw [List.length_append, List.length_map, List.length_cons]; omega
    have hil := ok2.il
    have hnl := ok2.n40
    have hrl := rlen (its.map (·.2)) fun r hr => by
      obtain ⟨x, hx, rfl⟩ := List.mem_map.mp hr
      exact (ok2.it x hx).r.len
    rw [List.length_map] at hrl
    wp_walk
    refine T_list (inj := rtD) (fun dn env => ∃ (x5 : Option D), env = [some (.lst .s (ps.map (pgD .s))), some (.lst .s (its.map rtD)), some (.lst .s (ns.map (ntD .s))), some (.lst .w ((txP ps).map D.str)), some (.lst .s ((txR (dn.map (·.2))).map D.str)), x5, none, x7, x8, x9, x10, x11, x12]) ⟨none, rfl⟩ ?_ ?_
    · rintro dn x rs _ k1 ⟨x5, rfl⟩
      have hx := (ok2.it x (by rw [k1]; simp)).r.len
      have k2 := rlen (dn.map (·.2)) fun r hr => by
        obtain ⟨y, hy, rfl⟩ := List.mem_map.mp hr
        exact (ok2.it y (by rw [k1]; exact List.mem_append_left _ hy)).r.len
      have k3 := congrArg List.length k1
      rw [List.length_append, List.length_cons] at k3
      rw [List.length_map] at k2
      have k4 : txR ((dn ++ [x]).map (·.2)) = txR (dn.map (·.2)) ++ txS x.2.sp := by
        rw [List.map_append, txR_app]
        show _ ++ (txS x.2.sp ++ []) = _
        rw [List.append_nil]
      have esh : sh (rtD x) = .tup [.int x.2.h, .lst .s (x.2.sp.map spD), .int (x.2.m : Int)] := sh_rw .s x.2
      rw [k4]
      wp_walk using b12_2, esh, shs_sp
      refine W_cmap (inj := spD) (fun q => D.str q.2.2) (fun q _ => ?_) ?_
      · wp_walk using sh_spD, spD
      rw [txc, W_eq (o_addL (by decide) (by decide) (by rw [List.length_map, List.length_map]; unfold txS; rw [List.length_map]; omega)), ← List.map_append]
      wp_walk using shs_str
      exact ⟨_, rfl⟩
    · rintro _ ⟨x5, rfl⟩
      wp_walk
      refine T_list (inj := ntD .s) (fun dn env => ∃ (x5 x6 : Option D), env = [some (.lst .s (ps.map (pgD .s))), some (.lst .s (its.map rtD)), some (.lst .s (ns.map (ntD .s))), some (.lst .w ((txP ps).map D.str)), some (.lst .s ((txR (its.map (·.2)) ++ txR dn.flatten).map D.str)), x5, x6, x7, x8, x9, x10, x11, x12]) ⟨x5, none, ?_⟩ ?_ ?_
      · show _ = [_, _, _, _, some (D.lst .s ((txR (its.map fun x : Tm => x.2) ++ []).map D.str)), _, _, _, _, _, _, _, _]
        rw [List.append_nil]
      · rintro dn n rs _ k1 ⟨x5, x6, rfl⟩
        have hn := ok2.nt n (by rw [k1]; simp)
        have k3 := congrArg List.length k1
        rw [List.length_append, List.length_cons] at k3
        have k5 := flat_len (ns := dn) fun m hm => (ok2.nt m (by rw [k1]; exact List.mem_append_left _ hm)).1
        have k6 := rlen dn.flatten fun r hr => by
          obtain ⟨m, h1, h2⟩ := List.mem_flatten.mp hr
          exact ((ok2.nt m (by rw [k1]; exact List.mem_append_left _ h1)).1.rw r h2).1.len
        wp_walk using b12_4, sh_nt, ntD, shs_rw
        refine T_list (inj := rwD .s) (fun d1 env => ∃ (x5 : Option D), env = [some (.lst .s (ps.map (pgD .s))), some (.lst .s (its.map rtD)), some (.lst .s (ns.map (ntD .s))), some (.lst .w ((txP ps).map D.str)), some (.lst .s ((txR (its.map (·.2)) ++ txR (dn.flatten ++ d1)).map D.str)), x5, some (.lst .s (n.map (rwD .s))), x7, x8, x9, x10, x11, x12]) ⟨x5, by rw [List.append_nil]⟩ ?_ ?_
        · rintro d1 r r1 _ m1 ⟨x5, rfl⟩
          have m2 := (hn.1.rw r (by rw [m1]; simp)).1.len
          have m3 := congrArg List.length m1
          rw [List.length_append, List.length_cons] at m3
          have m4 := rlen d1 fun r hr => (hn.1.rw r (by rw [m1]; exact List.mem_append_left _ hr)).1.len
          have m5 := hn.1.len
          have m6 : txR (dn.flatten ++ (d1 ++ [r])) = txR (dn.flatten ++ d1) ++ txS r.sp := by
            rw [← List.append_assoc, txR_app _ [r]]
            show _ ++ (txS r.sp ++ []) = _
            rw [List.append_nil]
          have m7 : (txR (dn.flatten ++ d1)).length = (txR dn.flatten).length + (txR d1).length := by rw [txR_app, List.length_append]
          rw [m6, ← List.append_assoc]
          wp_walk using b12_3, sh_rw, rwD, shs_sp
          refine W_cmap (inj := spD) (fun q => D.str q.2.2) (fun q _ => ?_) ?_
          · wp_walk using sh_spD, spD
          rw [txc, W_eq (o_addL (by decide) (by decide) (by rw [List.length_map, List.length_map, List.length_append]; unfold txS; rw [List.length_map]; omega)), ← List.map_append]
          wp_walk using shs_str
          exact ⟨_, rfl⟩
        · rintro _ ⟨x5, rfl⟩
          have ef : (dn ++ [n]).flatten = dn.flatten ++ n := by simp
          rw [ef]
          wp_walk
          exact ⟨_, _, rfl⟩
      · rintro _ ⟨x5, x6, rfl⟩
        wp_walk using shs_str
        rw [W_eq (sorted_strs _)]
        wp_walk
        rw [W_eq (sorted_strs _), hs, W_eq (eq_strs _)]
        wp_walk
end K25

set_option maxHeartbeats 2000000
namespace K25
open Q L2
local macro_rules | `(tactic| wp_walk using $ts,*) => `(tactic| simp only [↓t_cons, ↓t_nil, ↓t_set, ↓t_setm, ↓t_unp, ↓t_unpm, t_unpmS, ↓t_appm, mvs_nil, mvs_e, mvs_m, offs_nil, offs_cons, List.contains_nil, List.contains_cons, Nat.reduceBEq, ↓t_app, ↓t_apz, ↓t_sto, ↓t_ext, t_extS, t_extT, ↓t_clr, ↓t_stot, ↓t_pop0, ↓t_popu, ↓t_upd, t_updS, ↓t_exp, ↓t_for, ↓t_forB, ↓t_forh, ↓t_whl, ↓t_ret, ↓t_retm, ↓t_rett, ↓t_pass, ↓t_brk, ↓t_cont, ↓w_lit, ↓w_var, ↓w_mvar, ↓w_look0, ↓w_lookS, ↓w_bin, ↓w_neg, ↓w_cmp, ↓w_chain, ↓w_and, ↓w_or, ↓w_not, ↓w_iteE, ↓w_call, ↓w_call0, ↓w_callo, ownA_c, ↓w_bf, ↓w_meth, ↓w_fstr, m_lower, m_upper, m_starts, m_ends, m_find, m_joinL, m_joinT, m_get, fm_nil, fm_cons, fmt_str, fmt_int, rev_str, c_insign, c_nisign, str_int, ↓w_isi, ↓w_sub, ↓w_slice, ↓w_rev, ↓w_tup, ↓w_lst, ↓w_dic, ↓w_dict0, ↓w_comp, ↓w_nil, ↓w_cons, ↓w_rnil, ↓w_re, ↓w_rm, ↓w_onone, ↓w_osome, ↓w_cnil, ↓w_ccons, ↓w_val, ↓w_r1, ↓w_r2, ↓w_r3, ↓w_enum, ↓w_zip, ↓w_step, t_cons, t_nil, t_set, t_setm, t_unp, t_app, t_apz, t_sto, t_ext, t_clr, t_stot, t_pop0, t_popu, t_exp, t_upd, t_for, t_forB, t_whl, t_ret, t_retm, t_rett, t_pass, t_brk, t_cont, w_var, w_look0, w_lookS, w_comp, w_step, W_ok, W_exc, W_bad, W_b, W_grd, T_ok, T_exc, T_bad, T_upd1, wB_bl, wI_int, onw_nx, onw_rt, onw_bk, onw_ct, lpP_nx, lpP_ct, lpP_bk, lpP_rt, retP_nx, retP_rt, stE_nil, stE_cons, sh_int, sh_str, sh_bl, sh_non, sh_tup, sh_lst, sh_dic, shw, shS, shF, shs_nil, shs_cons, noSh_int, noSh_str, noSh_bl, noSh_non, noSh_tup, noSh_lst, noShs_nil, noShs_cons, now, noS, noF, bf_maxd, bf_len, bf_sum, bf_max, bf_min, bf_all, bf_any, bf_int, bf_str, bf_tuple, bf_list, bf_dict, len_lst, len_tup, len_ptu, len_str, len_dic, max_two, min_two, int_int, int_bl, list_lst, list_tup, tuple_lst, tuple_tup, dict_dic, sum_map, getD_map, getT_map, getS, g_t0, g_t1, g_t2, g_t3, g_l0, g_l1, g_l2, w_itL, w_itT, w_itS, w_itP, sh_tupD, sh_ptu, noSh_ptu, dict_ptu, w_enL, w_enS, w_zpT2, w_zpL, w_zpT, b_n, b_t2, b_l2, b_t3, b_t4, wipe_n, wipe_t2, wipe_t3, upS_nil, pathOk_def, canL_w, appD_w, extD_w, clrD_w, pop0D_w, updD_w, stoD_l, o_add, o_sub, o_mul, o_mod, o_fdiv, o_cat, c_lt, c_gt, c_le, c_ge, c_eqi, c_eqs, c_nei, c_nes, c_eqis, c_eqsi, c_neis, c_nesi, f_nil, frz_cons, mod_0, mod_S, Option.map_some, Option.map_none, startE_def, List.map_cons, List.map_nil, List.length_cons, List.length_nil, List.replicate_succ, List.replicate_zero, List.cons_append, List.nil_append, List.append_nil, List.set_cons_zero, List.set_cons_succ, List.getElem?_cons_zero, List.getElem?_cons_succ, Nat.reduceAdd, Nat.reduceSub, Int.reduceLT, Int.reduceLE, Int.reduceNeg, Int.reduceAdd, Int.reduceSub, Int.reduceMul, Int.reduceEq, Int.reduceNe, Bool.or_true, Bool.true_or, Bool.or_false, Bool.false_or, Bool.and_true, Bool.true_and, Bool.and_false, Bool.false_and, Bool.not_true, Bool.not_false, Bool.not_eq_true, Bool.or_eq_true, Bool.and_eq_true, Bool.not_eq_eq_eq_not, decide_eq_true_eq, decide_eq_false_iff_not, beq_iff_eq, beq_eq_false_iff_ne, Bool.false_eq_true, Bool.true_eq_false, eq_self, ne_eq, not_true_eq_false, not_false_eq_true, if_true, if_false, reduceIte, ite_true, ite_false, true_and, and_true, false_and, and_false, true_or, or_true, false_or, or_false, true_implies, false_implies, implies_true, forall_const, Option.some.injEq, Option.isSome_some, Option.getD_some, exists_eq_left, exists_eq_left', exists_eq_right, List.isEmpty_nil, List.isEmpty_cons, reduceCtorEq, grd_and, ok_int, ok_bl, ok_str, ok_non, ok_tup, ok_lst, ok_dic, ok_ptu, Q.isTy_ii, Q.isTy_ib, Q.isTy_is, Q.isTy_bb, Q.isTy_bi, Q.isTy_ss, Q.isTy_si, Q.isTy_sb, Q.isTy_ll, Q.isTy_tt, Q.isTy_lt, Q.isTy_tl, Q.isTy_ni, Q.isTy_ns, List.any_cons, List.any_nil, if_pb, and_assoc, lim_is, Nat.reduceLT, Nat.reduceLeDiff, is_lst, is_tup, is_int, is_str, is_non, is_bl, isn_lst, isn_tup, isn_int, isn_str, isn_non, sh_scr, eq_emp, len_scr, get_scr, $[$ts:term],*])
local macro_rules | `(tactic| wp_walk) => `(tactic| wp_walk using if_true)
theorem shs_rwW (its : List Tm) : shs (its.map rwW) = its.map rtD := by
  induction its with
  | nil => rfl
  | cons x r ih => show sh (rwD .w x.2) :: shs (r.map rwW) = _; rw [sh_rw, ih]; rfl
theorem app_w {x : D} {ds : List D} (h : ds.length < lim) : appD x (.lst .w ds) = some (.lst .w (ds ++ [x])) := if_pos h
def moS : Sp := (0, 0, [109, 111, 114, 101])
def pgM (p : Pg) : Pg := ⟨p.body ++ [moS], p.rule, p.foot ++ [moS]⟩
theorem fapp_pgs {ps : List Pg} (h : ∀ p ∈ ps, PgOk p) : fappD [([.int 0], spD moS), ([.int 2], spD moS)] (.lst .w (ps.map (pgD .w))) = some (.lst .w ((ps.map pgM).map (pgD .w))) := by
  have e : appItems [([.int 0], spD moS), ([.int 2], spD moS)] (ps.map (pgD .w)) = some ((ps.map pgM).map (pgD .w)) := by
    induction ps with
    | nil => rfl
    | cons p r ih =>
      have ih := ih fun q hq => h q (List.mem_cons_of_mem _ hq)
      have hb := (h p List.mem_cons_self).b
      have hf := (h p List.mem_cons_self).f
      have e1 : updP (appD (spD moS)) [.int 0] (pgD .w p) = some (pgD .w ⟨p.body ++ [moS], p.rule, p.foot⟩) := by
        show (appD (spD moS) (.lst .w (p.body.map spD))).map (fun y => D.tup [y, rlD p.rule, .lst .w (p.foot.map spD)]) = _
        rw [app_w (by rw [List.length_map, lim_is]; omega)]
        show some (D.tup [.lst .w (p.body.map spD ++ [spD moS]), _, _]) = some (D.tup [.lst .w ((p.body ++ [moS]).map spD), _, _])
        rw [List.map_append]; rfl
      have e2 : updP (appD (spD moS)) [.int 2] (pgD .w ⟨p.body ++ [moS], p.rule, p.foot⟩) = some (pgD .w (pgM p)) := by
        show (appD (spD moS) (.lst .w (p.foot.map spD))).map (fun y => D.tup [.lst .w ((p.body ++ [moS]).map spD), rlD p.rule, y]) = _
        rw [app_w (by rw [List.length_map, lim_is]; omega)]
        show some (D.tup [.lst .w ((p.body ++ [moS]).map spD), rlD p.rule, .lst .w (p.foot.map spD ++ [spD moS])]) = some (D.tup [.lst .w ((p.body ++ [moS]).map spD), rlD p.rule, .lst .w ((p.foot ++ [moS]).map spD)])
        rw [List.map_append (l₁ := p.foot)]; rfl
      show ((appItem [([.int 0], spD moS), ([.int 2], spD moS)] (pgD .w p)).bind fun y => (appItems _ (r.map (pgD .w))).map (y :: ·)) = _
      have e3 : appItem [([.int 0], spD moS), ([.int 2], spD moS)] (pgD .w p) = some (pgD .w (pgM p)) := by
        show ((updP (appD (spD moS)) [.int 0] (pgD .w p)).bind (appItem [([.int 2], spD moS)])) = _
        rw [e1]
        show ((updP (appD (spD moS)) [.int 2] (pgD .w ⟨p.body ++ [moS], p.rule, p.foot⟩)).bind (appItem [])) = _
        rw [e2]; rfl
      rw [e3, ih]; rfl
  show (appItems _ (ps.map (pgD .w))).map (D.lst .w) = _
  rw [e]; rfl
theorem deq_st (x : Tm) : deq (stD x) (stD x) = true := deq_refl _ rfl
theorem deq_lv (x : Nat × Nat) : deq (lvD x) (lvD x) = true := deq_refl _ rfl
theorem deq_rw (o o' : O) (r : Rw) : deq (rwD o r) (rwD o' r) = true := by
  show (r.h == r.h && (deqs (r.sp.map spD) (r.sp.map spD) && ((r.m : Int) == r.m && true))) = true
  rw [deqs_map deq_sp]
  simp
theorem deq_rt (x : Tm) : deq (rtD x) (rtD x) = true := deq_rw _ _ _
theorem dep_rt (x : Tm) : dep (rtD x) ≤ 3 := dep_rw .s x.2
theorem deq_nt (n : List Rw) : deq (ntD .s n) (ntD .s n) = true := deqs_map (deq_rw .s .s) n
theorem dep_nt (n : List Rw) : dep (ntD .s n) ≤ 4 := by
  have := deps_map (dep_rw .s) n
  show deps _ + 1 ≤ 4
  omega
theorem dep_st (x : Tm) : dep (stD x) ≤ 1 := by show max 0 (max 0 (max 0 (max 0 0))) + 1 ≤ 1; decide
theorem dep_lv (x : Nat × Nat) : dep (lvD x) ≤ 1 := by show max 0 (max 0 0) + 1 ≤ 1; decide
theorem item_l {α : Type} {f : α → D} {n : Nat} (hd : ∀ a, dep (f a) ≤ n) (hn : n ≤ 60) (hq : ∀ a, deq (f a) (f a) = true) (xs : List α) : itemEq (.lst .s (xs.map f)) (.lst .s (xs.map f)) = true := by
  have h := deps_map hd xs
  have h2 : dep (.lst .s (xs.map f)) ≤ 64 := by show deps _ + 1 ≤ 64; omega
  exact itemEq_plain h2 h2 (deqs_map hq xs)
theorem dicEq_ru (H : Int) : dicEq (ruK H) (ruK H) = true := by
  have h : sameF (.int H) (.int H) = true := by show (H == H) = true; simp
  show (true && (true && (true && (true && (true && (true && (true && (true && (sameF (.int H) (.int H) && (true && (true && true))))))))))) = true
  rw [h]; rfl
theorem ne_hand (H : Int) (its : List Tm) (ns : List (List Rw)) (lv : List (Nat × Nat)) : cmpop .ne (.lst .s [ruD .s H, .lst .s (its.map stD), .lst .s (its.map rtD), .lst .s (ns.map (ntD .s)), .lst .s (lv.map lvD)]) (.lst .w [ruD .s H, .lst .s (its.map stD), .lst .s (its.map rtD), .lst .s (ns.map (ntD .s)), .lst .s (lv.map lvD)]) = .ok false := by
  refine ne_items ?_ ?_
  · show 64 ≤ max 100 _
    exact Nat.le_trans (by decide) (Nat.le_max_left _ _)
  · show (dicEq (ruK H) (ruK H) && (itemEq (.lst .s (its.map stD)) (.lst .s (its.map stD)) && (itemEq (.lst .s (its.map rtD)) (.lst .s (its.map rtD)) && (itemEq (.lst .s (ns.map (ntD .s))) (.lst .s (ns.map (ntD .s))) && (itemEq (.lst .s (lv.map lvD)) (.lst .s (lv.map lvD)) && true))))) = true
    rw [dicEq_ru, item_l dep_st (by decide) deq_st, item_l dep_rt (by decide) deq_rt, item_l dep_nt (by decide) deq_nt, item_l dep_lv (by decide) deq_lv]; rfl
theorem pages_len {H : Int} {its : List Tm} {ns : List (List Rw)} : ∀ (lv : List (Nat × Nat)) (b f : Nat), (pages H its ns b f lv).length = lv.length
  | [], _, _ => rfl
  | q :: r, b, f => by
    show (pages H its ns q.1 (msum its q.1 - q.2) r).length + 1 = _
    rw [pages_len r, List.length_cons]
theorem law_run {C : Nat → List D → R D} {N : Nat} {sc : List Int} (hc : CellC C sc)
    (h7 : W (C 7 [scriptD sc]) (fun r => ∃ (its : List Tm) (ns : List (List Rw)), r = .tup [.lst .w (its.map rwW), .lst .w (its.map stD), .lst .w (ns.map (ntD .w))] ∧ its.length ≤ 20 ∧ BOk its ns ∧ ns.length = tsum its) nE)
    (h8 : ∀ its : List Tm, its.length ≤ 20 → W (C 8 [scriptD sc, .lst .s (its.map stD)]) (fun r => ∃ lv : List (Nat × Nat), r = .lst .w (lv.map lvD) ∧ LvOk its 0 lv) nE)
    (h10 : ∀ (H : Int) (its : List Tm) (ns : List (List Rw)) (lv : List (Nat × Nat)), AllOk its ns → LvOk its 0 lv → W (C 10 [ruD .s H, .lst .s (its.map stD), .lst .s (its.map rtD), .lst .s (ns.map (ntD .s)), .lst .s (lv.map lvD)]) (fun r => r = .lst .w ((pages H its ns 0 0 lv).map pgX)) nE)
    (h4 : ∀ (H : Int) (its : List Tm) (ns : List (List Rw)) (lv : List (Nat × Nat)), AllOk its ns → LvOk its 0 lv → PlC C H its ns lv)
    (h11 : RiC C) (h12 : ∀ (ps : List Pg) (its : List Tm) (ns : List (List Rw)), (∀ p ∈ ps, PgOk p) → ps.length ≤ 20 → FulOk its ns → sortC (txP ps) = sortC (txR (its.map (·.2)) ++ txR ns.flatten) → ApC C ps its ns) :
    W (runD C N d13 [scriptD sc]) (fun r => r = .bl true) nE := by
  refine W_run rfl rfl ?_
  wp_walk using b13
  refine W_nE h7 ?_
  rintro _ ⟨its, ns, rfl, hil, bok, hnl⟩
  wp_walk using shs_rwW, shs_st, shs_ntw
  refine W_nE (h8 its hil) ?_
  rintro _ ⟨lv, rfl, hv⟩
  wp_walk using shs_lv
  have ful : FulOk its ns := ⟨fun x hx => ⟨bok.gp x hx, (bok.it x hx).1, (bok.it x hx).2⟩, hil, bok.nt, by rw [hnl, msum_all]⟩
  refine W_nE (hc 1 (by omega)) ?_
  rintro _ ⟨i, rfl⟩
  wp_walk
  generalize 4 + i % 11 = H
  refine ⟨.dic .w ((ruK H).take 8), rfl, .dic .w ((ruK H).take 9), rfl, ruD .w H, rfl, ?_⟩
  have s1 : sh (ruD .w H) = ruD .s H := rfl
  have s2 : sh (ruD .s H) = ruD .s H := rfl
  wp_walk using s1, s2, shs_rt, shs_nt
  refine W_nE (h10 H its ns lv ful.all hv) ?_
  rintro _ rfl
  have pok := pgs_ok (H := H) ful lv 0 0
  have plen := pages_len (H := H) (its := its) (ns := ns) lv 0 0
  have hlv := lv_len hv
  have hall := all_tx (H := H) ful.all hv
  have h4' : W (C 4 [ruD .s H, .lst .s (its.map stD), .lst .s (its.map rtD), .lst .s (ns.map (ntD .s)), .lst .s (lv.map lvD)]) (fun r => r = .lst .w ((pages H its ns 0 0 lv).map (pgD .w))) nE := h4 H its ns lv ful.all hv
  generalize pages H its ns 0 0 lv = ps at pok plen hall h4' ⊢
  have hif : ∀ b : Bool, ∃ o : O, (o = .w ∨ o = .s) ∧ (if b = true then [some (scriptD sc), some (.lst .s (lv.map lvD)), some (ruD .w H), none, none, none, none, some (.lst .s (its.map rtD)), some (.lst .s (its.map stD)), some (.lst .s (ns.map (ntD .s)))] else [some (scriptD sc), some (.lst .s (lv.map lvD)), some (ruD .s H), none, none, none, none, some (.lst .s (its.map rtD)), some (.lst .s (its.map stD)), some (.lst .s (ns.map (ntD .s)))]) = [some (scriptD sc), some (.lst .s (lv.map lvD)), some (ruD o H), none, none, none, none, some (.lst .s (its.map rtD)), some (.lst .s (its.map stD)), some (.lst .s (ns.map (ntD .s)))] := by
    intro b
    cases b
    · exact ⟨.s, .inr rfl, rfl⟩
    · exact ⟨.w, .inl rfl, rfl⟩
  obtain ⟨o, ho, eo⟩ := hif (noShs (ps.map pgX))
  wp_walk using eo, s1, s2, shs_pgX
  have so : sh (ruD o H) = ruD .s H := by rcases ho with rfl | rfl <;> rfl
  have hdic : fDict [ruD .s H] = .ok (ruD .w H) := rfl
  rw [so, W_eq hdic, s1, shs_st, shs_rt, shs_nt, shs_lv, shs_st, shs_rt, shs_nt, shs_lv]
  have rest : ∀ o2 : O, (o2 = .w ∨ o2 = .s) → T (evSs C N (b13.drop 8) [some (scriptD sc), some (.lst .s (lv.map lvD)), some (ruD o2 H), some (.lst .s (ps.map (pgD .s))), some (.lst .s [ruD .s H, .lst .s (its.map stD), .lst .s (its.map rtD), .lst .s (ns.map (ntD .s)), .lst .s (lv.map lvD)]), none, none, some (.lst .s (its.map rtD)), some (.lst .s (its.map stD)), some (.lst .s (ns.map (ntD .s)))]) (retP fun r => r = .bl true) fun e x => nE e := by
    intro o2 ho2
    have so2 : sh (ruD o2 H) = ruD .s H := by rcases ho2 with rfl | rfl <;> rfl
    have g3 : ∀ a b c d e : D, getD (.lst .s [a, b, c, d, e]) (.int 3) = .ok d := fun _ _ _ _ _ => rfl
    have g4 : ∀ a b c d e : D, getD (.lst .s [a, b, c, d, e]) (.int 4) = .ok e := fun _ _ _ _ _ => rfl
    have eb : b13.drop 8 = [b13.getD 8 .pass, b13.getD 9 .pass, b13.getD 10 .pass, b13.getD 11 .pass, b13.getD 12 .pass, b13.getD 13 .pass] := rfl
    rw [eb]
    have x8 : b13.getD 8 .pass = .setm 5 [] (.call 4 [(.sub (.var 4) (.lit (.int 0))), (.sub (.var 4) (.lit (.int 1))), (.sub (.var 4) (.lit (.int 2))), (.sub (.var 4) (.lit (.int 3))), (.sub (.var 4) (.lit (.int 4)))]) := rfl
    have x9 : b13.getD 9 .pass = .ifs (.or_ (.not_ (.call 11 [(.mvar 5), (.var 3)])) (.cmp .ne (.var 4) (.lst [(.mvar 2), (.var 8), (.var 7), (.var 9), (.var 1)]))) [.ret (.lit (.bl false))] [] := rfl
    have x10 : b13.getD 10 .pass = .ifs (.not_ (.call 12 [(.mvar 5), (.var 7), (.var 9)])) [.ret (.lit (.bl false))] [] := rfl
    have x11 : b13.getD 11 .pass = .fapp 5 [] 6 [([0], (.tup [(.lit (.int 0)), (.lit (.int 0)), (.lit (.str [109, 111, 114, 101]))])), ([2], (.tup [(.lit (.int 0)), (.lit (.int 0)), (.lit (.str [109, 111, 114, 101]))]))] := rfl
    have x12 : b13.getD 12 .pass = .app 5 [] false (.tup [(.lst []), (.lit .non), (.lst [])]) := rfl
    have x13 : b13.getD 13 .pass = .ret (.call 11 [(.call 4 [(.mvar 2), (.var 8), (.var 7), (.var 9), (.var 1)]), (.var 3)]) := rfl
    rw [x8, x9, x10, x11, x12, x13]
    wp_walk using g3, g4, s2, shs_st, shs_rt, shs_nt, shs_lv
    refine W_nE h4' ?_
    rintro _ rfl
    wp_walk
    refine T_cut (fun env => env = [some (scriptD sc), some (.lst .s (lv.map lvD)), some (ruD o2 H), some (.lst .s (ps.map (pgD .s))), some (.lst .s [ruD .s H, .lst .s (its.map stD), .lst .s (its.map rtD), .lst .s (ns.map (ntD .s)), .lst .s (lv.map lvD)]), some (.lst .w (ps.map (pgD .w))), none, some (.lst .s (its.map rtD)), some (.lst .s (its.map stD)), some (.lst .s (ns.map (ntD .s)))]) ?_ ?_
    · wp_walk using t_ifs, shs_pg
      refine W_nE (h11 ps pok) ?_
      rintro _ rfl
      wp_walk using so2, ne_hand
    rintro _ rfl
    wp_walk
    refine T_cut (fun env => env = [some (scriptD sc), some (.lst .s (lv.map lvD)), some (ruD o2 H), some (.lst .s (ps.map (pgD .s))), some (.lst .s [ruD .s H, .lst .s (its.map stD), .lst .s (its.map rtD), .lst .s (ns.map (ntD .s)), .lst .s (lv.map lvD)]), some (.lst .w (ps.map (pgD .w))), none, some (.lst .s (its.map rtD)), some (.lst .s (its.map stD)), some (.lst .s (ns.map (ntD .s)))]) ?_ ?_
    · wp_walk using t_ifs, shs_pg, shs_rt, shs_nt
      refine W_nE (h12 ps its ns pok (by omega) ful hall) ?_
      rintro _ rfl
      wp_walk
    rintro _ rfl
    wp_walk using t_fapp
    show W (R.ok [([D.int 0], spD moS), ([D.int 2], spD moS)]) _ _
    rw [W_ok]
    wp_walk
    refine ⟨_, fapp_pgs pok, rfl, _, app_w (by rw [List.length_map, List.length_map, lim_is]; omega), ?_⟩
    rw [so2, s2, shs_st, shs_rt, shs_nt, shs_lv]
    refine W_nE h4' ?_
    rintro _ rfl
    rw [shs_pg]
    wp_walk using shs_pg
    exact h11 ps pok
  split
  · exact rest o ho
  · exact rest .s (.inr rfl)
theorem pure_law (N : Nat) (hN : 100 < N) (sc : List Int) (hl : sc.length ≤ 63) : callL N fs 8 13 [scriptD sc] = .ok (.bl true) := by
  have hc : ∀ k, CellC (callL N fs (k + 1)) sc := fun k i h => callL_W rfl (cell_run h)
  have h6 : ∀ k, SpC (callL N fs (k + 1)) := fun k c h name a1 a2 a3 => callL_W rfl (sp_run a1 a2 a3)
  have h0 : ∀ k, HgC (callL N fs (k + 1)) := fun k n => callL_W rfl hg_run
  have h1 : ∀ k, LwC (callL N fs (k + 1)) := fun k sp t => callL_W rfl lw_run
  have h9 : ∀ k, UnC (callL N fs (k + 1)) := fun k rs t a1 a2 => callL_W rfl (un_run a1 a2)
  have h2 : ∀ k its ns, AllOk its ns → BdC (callL N fs (k + 2)) its := fun k its ns ok b e a1 a2 => callL_W rfl (bd_run (h1 k) ok.it ok.il a1 a2)
  have h3 : ∀ k its ns, AllOk its ns → FtC (callL N fs (k + 2)) ns := fun k its ns ok f l t a1 a2 => callL_W rfl (ft_run (h1 k) ok.nt (by rw [ok.nl]; have := msum_max ok.it its.length; have := ok.il; omega) a1 a2)
  refine W_toE (callL_W rfl (law_run (C := callL N fs 7) (hc 6) (callL_W rfl (rows_run (hc 5) (h6 5))) (fun its hz => callL_W rfl (leaves_run (hc 5) hN hz)) (fun H its ns lv ok hv => callL_W rfl (due_run (h9 5) ok hv)) (fun H its ns lv ok hv => callL_W rfl (pl_run (h0 5) (h2 4 its ns ok) (h3 4 its ns ok) ok hv)) (fun ps ok => callL_W rfl (ri_run ok)) (fun ps its ns a1 a2 a3 a4 => callL_W rfl (ap_run a1 a2 a3 a4))))
end K25

set_option maxHeartbeats 1000000
namespace Q
open PySem PySem.Spec L2
open PyProof.Rows hiding St
theorem walk_w {l : PySem.W.OpenLaw} {n k : Nat} {q : Program} {loose : List Str} {XP : (Str → Option Value) → Heap → Prop} {YP : World → Heap → Prop} {d : PySem.DefRec} {CX : World → CXT} {x : Str}
    (hn : l.most = some n) (hn2 : n ≤ sizeLine) (hdf : d.params.defaults = []) (hr : Room k callerA)
    (F : ∀ (w : World) (mg : Str → Option Value) (fa : Addr) (h : Heap), YP w h → h.Ns mainGlobals mg → mg d.name = some (.ref fa) →
      ∃ (K : PySem.W.Frag) (fd : FuncData) (sp : Sp), K.In h ∧ (∀ (s : Shared) (u : Value), BindsTo s fd ⟨[u], []⟩ [(x, u)]) ∧
        (∀ (H : Hp) (a : Addr) (ns : List Int), ns.length ≤ n → Only H → SqL K H a (ns.map V.int) → sp [.ref a] H (fun v _ => v = .bl true) fun _ _ _ => False) ∧
        ∀ base : Heap, K.In base → base.Ns mainGlobals mg → FnOk l.prog w K mg base (CX w) k fa fd [x] sp)
    (hCX : ∀ (w : World) (H : Hp) (s : Shared) (e : Value) (s' : Shared), CX w [] H s (fun _ _ _ => False) e s' → False) :
    PySem.W.WalkO q loose XP YP l.row.toRowW d [] (fun f vs => PySem.call f vs) := by
  refine Att.attach_call hn hdf fun w s0 s1 mg mb fa o pm cd doc a vs ns G Y ho hd hcd hmg hobj hints hlen hg => ?_
  obtain ⟨K, fd, sp, KX, hb, hsp, hF⟩ := F w mg fa _ Y G.T.g hmg
  exact law_call KX G.T.g G.T.b G.T.builtins G.T.nolimit hg hobj hints (Nat.le_trans hlen hn2) hr hF hb (fun H hO hS => hsp H a ns hlen hO hS) fun H e s' => hCX w H s1 e s'
end Q

set_option maxHeartbeats 0
open PySem PySem.W PySem.Calls PyProof.Rows
theorem PySem.Challenge.cw_quirehand_k25_whole_pages_placed_holds : PySem.Challenge.rw_quirehand_k25_whole_pages_placed.Holds := by
  w_on; o_law
  refine HandSHeadRun.head_any (r := OpenLaw.row PySem.Challenge.rw_quirehand_k25_whole_pages_placed) (q := view (OpenLaw.row PySem.Challenge.rw_quirehand_k25_whole_pages_placed).prog [15]) (H := QHead.hk) (ob := QHead.ob) (M := 20000) (loose := QHead.loose) (d := HandSHeadRun.topDef (OpenLaw.row PySem.Challenge.rw_quirehand_k25_whole_pages_placed).prog 15) (kwd := []) QHead.ob_eq
    (by kernel_rfl) (fun s => by kernel_rfl) QHead.run (by kernel_rfl) (by kernel_rfl) (by kernel_rfl) (by rfl) (by first | assumption | decide +kernel) (by decide +kernel) ⟨rfl, rfl, rfl, rfl, rfl, by decide +kernel⟩ ?hw ?hc
  case hw => w_witness2
  case hc =>
    refine Q.walk_w (l := PySem.Challenge.rw_quirehand_k25_whole_pages_placed) (n := 63) (k := 8) (x := "_law_script") (CX := fun w => L2.CX PySem.Challenge.rw_quirehand_k25_whole_pages_placed.prog w) rfl (by decide) (by kernel_rfl) ⟨rfl, by decide, by decide⟩ ?F (fun w H s e s' h => by
      obtain ⟨_, _, _, _, _, _, _, _, _, _, _, _, z⟩ := h
      exact z)
    intro w mg fa h Y Gg hmg0
    obtain ⟨K, KX, c⟩ := Y
    have tf := Q.table_facts KX Gg c.d QHead.tb_ok
    obtain ⟨fa2, fd, F, hm, hb⟩ := tf 13 _ rfl
    have hmg : mg ("law" : PySem.Str) = some (.ref fa) := by
      have e : (HandSHeadRun.topDef (OpenLaw.row PySem.Challenge.rw_quirehand_k25_whole_pages_placed).prog 15).name = ("law" : PySem.Str) := by kernel_rfl
      rw [← e]
      exact hmg0
    have ee := hm.symm.trans hmg
    cases ee
    refine ⟨K, fd, Q.spM K (Q.xrOf K QHead.cl) (Q.callL 200 K25.fs 8 13) 1, KX, fun s v => L2.FunD.bindsA (ps := ["_law_script"]) F QHead.bind13 s [v] rfl, Q.law_sp (by decide) (K25.pure_law 200 (by decide)), fun base hK hG => ?_⟩
    exact ((Q.table_ok (fu := 200) K25.tr_ok tf (QHead.glo_ok KX Gg c.d) (QHead.blt_ok KX Gg c.d) (QHead.exs_ok KX Gg c.d) (QHead.trys_ok KX Gg c) K25.xf_ok (by decide) K25.cm_ok 8).1 13 _ fa fd rfl F).1
