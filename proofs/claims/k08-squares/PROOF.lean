import PyProof.Rows.All
import Wide.All
import OpenK.AllK
import Wide.FinOn
import HandS.ForMost
import KE.KeyNested
import KE.KDictKeyed
import KE.KDictDisplayH
import HandS.Wide
import HandS.IsInst
import HandS.EndBits
import KE.SortData
import HandS.TupSets
import HandS.Style
import HandS.Defaults
import HandS.Head0
import HandS.Head1
import HandS.Head2
import HandS.HeadEnd
import HandS.HeadHook1
import HandS.HeadHook2
import HandS.Deep
import HandS.Text
import HandS.Conv
import HandS.Strs
import HandS.Replace
import HandS.SetFor
import HandS.More
import HandS.Codes
import HandS.Iter
import HandS.OwnEq
import PyProof.Rows.StrSplitCount
import HandS.DictComp
import HandS.DictTup
import KE.DataMinMax
import HandS.ReplaceLit
import HandS.ReplaceList
import HandS.StrMore
import HandS.Exc
import HandS.ExcOwn
import HandS.ExcIs
import HandS.WordsExc
import PySem.Challenge.RW_longlife_k08_squares_of_a_store
set_option Elab.async false
set_option linter.all false
set_option maxRecDepth 100000
set_option maxHeartbeats 4000000
set_option maxHeartbeats 4000000
/-! Lf, part A: values as trees (W), the frozen heap F, mutable objects L, and what it means that the machine's state is described by them. -/
namespace Lf
open PySem PySem.Spec PyProof.Rows L2

/-- a value as a tree: lists and dicts that nobody changes any more are written out; a thing that may still change is a number -/
inductive W where
  | non | bl (b : Bool) | int (i : Int) | str (s : Str) | ty (n : String)
  | tup (xs : List W) | lst (xs : List W) | kt (xs : List W)
  | dK (kvs : List (Key × W)) | dT (kvs : List (List Key × W))
  | ob (i : Nat) | scr (ns : List Int)
/-- the contents of a thing that may change -/
inductive M where
  | lst (xs : List W) | dK (kvs : List (Key × W)) | dT (kvs : List (List Key × W))
def M.fz : M → W
  | .lst xs => .lst xs
  | .dK k => .dK k
  | .dT k => .dT k
/-- a numbered thing -/
inductive Ob where
  | ins (c : Str) (fs : List (Str × W)) | box (m : M) | dead
  | nd (kvs : List (List (Int × Int) × W))
/-- a name's slot: nothing, a value, a thing that this name alone holds -/
inductive Sl where
  | un | va (w : W) | ow (m : M)
abbrev Ro := List Sl
abbrev Lg := List Ob

def TupAt (_ : PySem.W.Frag) (F : Hp) (a : Addr) (xs : List V) : Prop := F a = some (.tup xs)
/-- a tuple of the written part -/
def TupK (K : PySem.W.Frag) (a : Addr) (xs : List V) : Prop := ∃ (o : Obj) (its : Array Value) (n : Nat), K.lookup a = some o ∧ o.cls = .type "tuple" ∧ o.data = .seq its n ∧ its.size ≤ sizeLine ∧ Vals xs its.toList
def DAt (F : Hp) (a : Addr) (o : HO) : Prop := F a = some o ∨ ∃ ob, F a = some (.frz ob o)

mutual
inductive R (K : PySem.W.Frag) (F : Hp) (φ : List Addr) : W → V → Prop
  | non : R K F φ .non .non
  | bl (b : Bool) : R K F φ (.bl b) (.bl b)
  | int (i : Int) : R K F φ (.int i) (.int i)
  | str (s : Str) : R K F φ (.str s) (.str s)
  | ty (n : String) : R K F φ (.ty n) (.ty n)
  | tup {ws : List W} {a : Addr} {vs : List V} : TupAt K F a vs → Rs K F φ ws vs → R K F φ (.tup ws) (.ref a)
  | lst {ws : List W} {a : Addr} {vs : List V} : F a = some (.lst vs) → Rs K F φ ws vs → R K F φ (.lst ws) (.ref a)
  | kt {ws : List W} {a : Addr} {vs : List V} : TupK K a vs → Rs K F φ ws vs → R K F φ (.kt ws) (.ref a)
  | dK {kvs : List (Key × W)} {a : Addr} {vs : List (Key × V)} : DAt F a (.dK vs) → kvs.map Prod.fst = vs.map Prod.fst → Rs K F φ (kvs.map Prod.snd) (vs.map Prod.snd) → R K F φ (.dK kvs) (.ref a)
  | dT {kvs : List (List Key × W)} {a : Addr} {vs : List (List Key × V)} : DAt F a (.dT vs) → kvs.map Prod.fst = vs.map Prod.fst → Rs K F φ (kvs.map Prod.snd) (vs.map Prod.snd) → R K F φ (.dT kvs) (.ref a)
  | ob {i : Nat} {a : Addr} : φ[i]? = some a → R K F φ (.ob i) (.ref a)
  | scr {ns : List Int} {a : Addr} : SqL K F a (ns.map V.int) → R K F φ (.scr ns) (.ref a)
inductive Rs (K : PySem.W.Frag) (F : Hp) (φ : List Addr) : List W → List V → Prop
  | nil : Rs K F φ [] []
  | cons {w : W} {ws : List W} {v : V} {vs : List V} : R K F φ w v → Rs K F φ ws vs → Rs K F φ (w :: ws) (v :: vs)
end

def Sub (F F' : Hp) : Prop := ∀ a o, F a = some o → F' a = some o
theorem Sub.refl (F : Hp) : Sub F F := fun _ _ h => h
theorem Sub.trans {F F1 F2 : Hp} (a : Sub F F1) (b : Sub F1 F2) : Sub F F2 := fun c o h => b c o (a c o h)
theorem Sub.new {F : Hp} {p : Addr} {o : HO} (h : F p = none) : Sub F (upd F p o) := fun a u e => by rw [upd_ne (ne_of_none e h)]; exact e
theorem TupAt.mono {K : PySem.W.Frag} {F F' : Hp} {a : Addr} {xs : List V} (s : Sub F F') (h : TupAt K F a xs) : TupAt K F' a xs := s _ _ h
theorem DAt.mono {F F' : Hp} {a : Addr} {o : HO} (s : Sub F F') (h : DAt F a o) : DAt F' a o := h.elim (fun h => .inl (s _ _ h)) fun ⟨u, h⟩ => .inr ⟨u, s _ _ h⟩
theorem SqL.mono {K : PySem.W.Frag} {F F' : Hp} {a : Addr} {xs : List V} (s : Sub F F') (h : SqL K F a xs) : SqL K F' a xs := by
  rcases h with (h | ⟨o, h⟩) | h
  · exact .inl (.inl (s _ _ h))
  · exact .inl (.inr ⟨o, s _ _ h⟩)
  · exact .inr h
theorem TupAt.sq {K : PySem.W.Frag} {F H : Hp} {a : Addr} {xs : List V} (s : Sub F H) (h : TupAt K F a xs) : SqT K H a xs := .inl (.inl (s _ _ h))
theorem TupK.sq {K : PySem.W.Frag} {H : Hp} {a : Addr} {xs : List V} (h : TupK K a xs) : SqT K H a xs := .inr h
theorem pre_get {φ φ' : List Addr} (p : φ <+: φ') {i : Nat} {a : Addr} (h : φ[i]? = some a) : φ'[i]? = some a := by
  obtain ⟨r, rfl⟩ := p
  have hi : i < φ.length := (List.getElem?_eq_some_iff.mp h).1
  rw [List.getElem?_append_left hi]; exact h
mutual
theorem R.mono {K : PySem.W.Frag} {F F' : Hp} {φ φ' : List Addr} (s : Sub F F') (p : φ <+: φ') : ∀ {w : W} {v : V}, R K F φ w v → R K F' φ' w v
  | _, _, .non => .non
  | _, _, .bl b => .bl b
  | _, _, .int i => .int i
  | _, _, .str x => .str x
  | _, _, .ty n => .ty n
  | _, _, .tup h hs => .tup (h.mono s) (Rs.mono s p hs)
  | _, _, .lst h hs => .lst (s _ _ h) (Rs.mono s p hs)
  | _, _, .kt h hs => .kt h (Rs.mono s p hs)
  | _, _, .dK h k hs => .dK (h.mono s) k (Rs.mono s p hs)
  | _, _, .dT h k hs => .dT (h.mono s) k (Rs.mono s p hs)
  | _, _, .ob h => .ob (pre_get p h)
  | _, _, .scr h => .scr (SqL.mono s h)
theorem Rs.mono {K : PySem.W.Frag} {F F' : Hp} {φ φ' : List Addr} (s : Sub F F') (p : φ <+: φ') : ∀ {ws : List W} {vs : List V}, Rs K F φ ws vs → Rs K F' φ' ws vs
  | _, _, .nil => .nil
  | _, _, .cons h hs => .cons (R.mono s p h) (Rs.mono s p hs)
end
theorem Rs.length {K : PySem.W.Frag} {F : Hp} {φ : List Addr} : ∀ {ws : List W} {vs : List V}, Rs K F φ ws vs → ws.length = vs.length
  | _, _, .nil => rfl
  | _, _, .cons _ t => by simp [Rs.length t]
theorem Rs.get {K : PySem.W.Frag} {F : Hp} {φ : List Addr} : ∀ {ws : List W} {vs : List V} {i : Nat} {w : W}, Rs K F φ ws vs → ws[i]? = some w → ∃ v, vs[i]? = some v ∧ R K F φ w v
  | _, _, _, _, .nil, e => by simp at e
  | _, _, 0, _, .cons r _, e => by simp at e; subst e; exact ⟨_, rfl, r⟩
  | _, _, i + 1, _, .cons _ t, e => by
    obtain ⟨v, h1, h2⟩ := Rs.get (i := i) t (by simpa using e)
    exact ⟨v, by simpa using h1, h2⟩
theorem Rs.get' {K : PySem.W.Frag} {F : Hp} {φ : List Addr} : ∀ {ws : List W} {vs : List V} {i : Nat} {v : V}, Rs K F φ ws vs → vs[i]? = some v → ∃ w, ws[i]? = some w ∧ R K F φ w v
  | _, _, _, _, .nil, e => by simp at e
  | _, _, 0, _, .cons r _, e => by simp at e; subst e; exact ⟨_, rfl, r⟩
  | _, _, i + 1, _, .cons _ t, e => by
    obtain ⟨v, h1, h2⟩ := Rs.get' (i := i) t (by simpa using e)
    exact ⟨v, by simpa using h1, h2⟩
theorem Rs.append {K : PySem.W.Frag} {F : Hp} {φ : List Addr} : ∀ {ws ws' : List W} {vs vs' : List V}, Rs K F φ ws vs → Rs K F φ ws' vs' → Rs K F φ (ws ++ ws') (vs ++ vs')
  | _, _, _, _, .nil, s => s
  | _, _, _, _, .cons r t, s => .cons r (Rs.append t s)
theorem Rs.take {K : PySem.W.Frag} {F : Hp} {φ : List Addr} : ∀ {ws : List W} {vs : List V} (n : Nat), Rs K F φ ws vs → Rs K F φ (ws.take n) (vs.take n)
  | _, _, 0, _ => .nil
  | _, _, _ + 1, .nil => .nil
  | _, _, n + 1, .cons r t => .cons r (Rs.take n t)
theorem Rs.drop {K : PySem.W.Frag} {F : Hp} {φ : List Addr} : ∀ {ws : List W} {vs : List V} (n : Nat), Rs K F φ ws vs → Rs K F φ (ws.drop n) (vs.drop n)
  | _, _, 0, r => r
  | _, _, _ + 1, .nil => .nil
  | _, _, n + 1, .cons _ t => Rs.drop n t
theorem Rs.set {K : PySem.W.Frag} {F : Hp} {φ : List Addr} {w : W} {v : V} (r : R K F φ w v) : ∀ {ws : List W} {vs : List V} (i : Nat), Rs K F φ ws vs → Rs K F φ (ws.set i w) (vs.set i v)
  | _, _, _, .nil => .nil
  | _, _, 0, .cons _ t => .cons r t
  | _, _, i + 1, .cons q t => .cons q (Rs.set r i t)
theorem Rs.reverse {K : PySem.W.Frag} {F : Hp} {φ : List Addr} : ∀ {ws : List W} {vs : List V}, Rs K F φ ws vs → Rs K F φ ws.reverse vs.reverse
  | _, _, .nil => .nil
  | _, _, .cons r t => by
    rw [List.reverse_cons, List.reverse_cons]
    exact Rs.append (Rs.reverse t) (.cons r .nil)
theorem Rs.one {K : PySem.W.Frag} {F : Hp} {φ : List Addr} {w : W} {v : V} (r : R K F φ w v) : Rs K F φ [w] [v] := .cons r .nil
theorem Rs.ints {K : PySem.W.Frag} {F : Hp} {φ : List Addr} : ∀ {ns : List Int} {vs : List V}, Rs K F φ (ns.map W.int) vs → vs = ns.map V.int
  | [], _, h => by cases h; rfl
  | n :: ns, _, h => by
    cases h with
    | cons r t =>
      cases r
      rw [Rs.ints t]; rfl
theorem Rs.of_ints {K : PySem.W.Frag} {F : Hp} {φ : List Addr} : ∀ (ns : List Int), Rs K F φ (ns.map W.int) (ns.map V.int)
  | [] => .nil
  | n :: ns => .cons (.int n) (Rs.of_ints ns)

/-- contents and object -/
def MOk (K : PySem.W.Frag) (F : Hp) (φ : List Addr) : M → HO → Prop
  | .lst ws, .lst vs => Rs K F φ ws vs
  | .dK kvs, .dK vs => kvs.map Prod.fst = vs.map Prod.fst ∧ Rs K F φ (kvs.map Prod.snd) (vs.map Prod.snd)
  | .dT kvs, .dT vs => kvs.map Prod.fst = vs.map Prod.fst ∧ Rs K F φ (kvs.map Prod.snd) (vs.map Prod.snd)
  | _, _ => False
theorem MOk.mono {K : PySem.W.Frag} {F F' : Hp} {φ φ' : List Addr} (s : Sub F F') (p : φ <+: φ') {m : M} {o : HO} (h : MOk K F φ m o) : MOk K F' φ' m o := by
  cases m <;> cases o <;> first | exact Rs.mono s p h | exact ⟨h.1, Rs.mono s p h.2⟩ | exact h
theorem MOk.fz {K : PySem.W.Frag} {F : Hp} {φ : List Addr} {m : M} {o : HO} {a : Addr} (h : MOk K F φ m o) (e : F a = some o) : R K F φ m.fz (.ref a) := by
  cases m <;> cases o <;> first | exact .lst e h | exact .dK (.inl e) h.1 h.2 | exact .dT (.inl e) h.1 h.2 | exact h.elim
/-- tuples of pairs of ints, as keys -/
def encC (c : Int × Int) : NestedKey := .tup [.num c.1, .num c.2]
def encK (cs : List (Int × Int)) : NestedKey := .tup (cs.map encC)
def pairW (c : Int × Int) : W := .tup [.int c.1, .int c.2]
def keyNW (cs : List (Int × Int)) : W := .tup (cs.map pairW)
/-- a dict whose keys are such tuples, by its entries -/
def DNo (P : Program) (w : World) (a : Addr) (xs : List (NestedKey × Addr × Value)) : HO := .ext fun h => xs.length ≤ sizeLine ∧ (a == sysModules) = false ∧
  ∃ o es ep, h.get? a = some o ∧ o.ExactDict ∧ o.data = .dict es ep ∧ es.toList = xs.map (entryOfKey (nestedKind P w)) ∧ (xs.map (·.1)).Nodup
def ObOk (K : PySem.W.Frag) (mg : Str → Option Value) (F : Hp) (φ : List Addr) (H : Hp) (a : Addr) : Ob → Prop
  | .ins c fs => F a = none ∧ ∃ (C dx : Addr) (vs : List (Str × V)), mg c = some (.ref C) ∧ H a = some (.ins C dx vs) ∧ fs.map Prod.fst = vs.map Prod.fst ∧ Rs K F φ (fs.map Prod.snd) (vs.map Prod.snd)
  | .box m => F a = none ∧ ∃ o, H a = some o ∧ MOk K F φ m o
  | .dead => True
  | .nd kvs => F a = none ∧ ∃ (P : Program) (w : World) (xs : List (NestedKey × Addr × Value)) (vs : List V), H a = some (DNo P w a xs) ∧ xs.map (·.1) = kvs.map (fun p => encK p.1) ∧
      Rs K F φ (kvs.map fun p => keyNW p.1) (xs.map fun q => V.ref q.2.1) ∧ Rs K F φ (kvs.map Prod.snd) vs ∧ Vals vs (xs.map (·.2.2))
/-- no tuple -/
def NT (o : HO) : Prop := ∀ xs, o ≠ .tup xs
theorem NT.lst {xs : List V} : NT (.lst xs) := fun _ h => nomatch h
theorem NT.dK {xs : List (Key × V)} : NT (.dK xs) := fun _ h => nomatch h
theorem NT.dT {xs : List (List Key × V)} : NT (.dT xs) := fun _ h => nomatch h
theorem NT.ins {C dx : Addr} {fs : List (Str × V)} : NT (.ins C dx fs) := fun _ h => nomatch h
theorem MOk.nt {K : PySem.W.Frag} {F : Hp} {φ : List Addr} {m : M} {o : HO} (h : MOk K F φ m o) : NT o := by
  cases m <;> cases o <;> first | exact h.elim | exact fun _ e => nomatch e
/-- the heap is described: Z what is kept aside (and changed by no one else), F what is frozen, L the numbered things at φ -/
structure Hs (K : PySem.W.Frag) (mg : Str → Option Value) (Z F : Hp) (φ : List Addr) (L : Lg) (H : Hp) : Prop where
  sub : Sub F H
  ext : ∀ a o, Z a = some o → H a = some o ∧ F a = none ∧ a ∉ φ ∧ NT o
  len : φ.length = L.length
  nd : φ.Nodup
  has : ∀ a ∈ φ, ∃ o, H a = some o ∧ NT o
  objs : ∀ (i : Nat) (o : Ob) (a : Addr), L[i]? = some o → φ[i]? = some a → ObOk K mg F φ H a o
/-- the slots -/
structure Ss (K : PySem.W.Frag) (Zx Z F : Hp) (φ : List Addr) (ρ : Ro) (σ : L2.St) : Prop where
  len : ρ.length = σ.length
  va : ∀ (i : Nat) (w : W), ρ[i]? = some (.va w) → ∃ v, σ[i]? = some (some v) ∧ R K F φ w v
  ow : ∀ (i : Nat) (m : M), ρ[i]? = some (.ow m) → ∃ a o, σ[i]? = some (some (.ref a)) ∧ Z a = some o ∧ Zx a = none ∧ MOk K F φ m o
  sep : ∀ (i j : Nat) (m m' : M) (a : Addr), ρ[i]? = some (.ow m) → ρ[j]? = some (.ow m') → σ[i]? = some (some (.ref a)) → σ[j]? = some (some (.ref a)) → i = j
  out : Sub Zx Z
theorem Ss.mono {K : PySem.W.Frag} {Zx Z F F' : Hp} {φ φ' : List Addr} {ρ : Ro} {σ : L2.St} (s : Sub F F') (p : φ <+: φ') (h : Ss K Zx Z F φ ρ σ) : Ss K Zx Z F' φ' ρ σ :=
  ⟨h.len, fun i w e => let ⟨v, h1, h2⟩ := h.va i w e; ⟨v, h1, h2.mono s p⟩, fun i m e => let ⟨a, o, h1, h2, h3, h4⟩ := h.ow i m e; ⟨a, o, h1, h2, h3, h4.mono s p⟩, h.sep, h.out⟩
theorem Hs.weak {K : PySem.W.Frag} {mg : Str → Option Value} {Z Z' F : Hp} {φ : List Addr} {L : Lg} {H : Hp} (h : Hs K mg Z' F φ L H) (s : Sub Z Z') : Hs K mg Z F φ L H :=
  ⟨h.sub, fun a o e => h.ext a o (s a o e), h.len, h.nd, h.has, h.objs⟩
theorem pre_nd {φ : List Addr} {i : Nat} {a b : Addr} (h : φ[i]? = some a) (hb : b ∉ φ) : a ≠ b := fun e => hb (e ▸ List.mem_of_getElem? h)
theorem ObOk.mono {K : PySem.W.Frag} {mg : Str → Option Value} {F F' : Hp} {φ φ' : List Addr} {H H' : Hp} {a : Addr} {o : Ob} (s : Sub F F') (p : φ <+: φ') (hF : F a = none → F' a = none) (hH : ∀ u, H a = some u → H' a = some u) (h : ObOk K mg F φ H a o) : ObOk K mg F' φ' H' a o := by
  cases o with
  | ins c fs => obtain ⟨n, C, dx, vs, h1, h2, h3, h4⟩ := h; exact ⟨hF n, C, dx, vs, h1, hH _ h2, h3, Rs.mono s p h4⟩
  | box m => obtain ⟨n, o, h1, h2⟩ := h; exact ⟨hF n, o, hH _ h1, h2.mono s p⟩
  | dead => exact True.intro
  | nd kvs => obtain ⟨n, P, w, xs, vs, h1, h2, h3, h4, h5⟩ := h; exact ⟨hF n, P, w, xs, vs, hH _ h1, h2, Rs.mono s p h3, Rs.mono s p h4, h5⟩
section
variable {K : PySem.W.Frag} {mg : Str → Option Value} {Z F : Hp} {φ : List Addr} {L : Lg} {H : Hp} {p : Addr} {o : HO}
theorem Hs.free (h : Hs K mg Z F φ L H) (hp : H p = none) : F p = none ∧ Z p = none ∧ p ∉ φ := by
  refine ⟨?_, ?_, fun m => ?_⟩
  · cases e : F p with
    | none => rfl
    | some u => rw [h.sub p u e] at hp; cases hp
  · cases e : Z p with
    | none => rfl
    | some u => rw [(h.ext p u e).1] at hp; cases hp
  · obtain ⟨u, e, _⟩ := h.has p m
    rw [e] at hp; cases hp
/-- a new object, kept aside -/
theorem Hs.fresh (h : Hs K mg Z F φ L H) (hp : H p = none) (nt : NT o := by intro _ z; cases z) : Hs K mg (upd Z p o) F φ L (upd H p o) := by
  obtain ⟨f1, f2, f3⟩ := h.free hp
  refine ⟨fun a u e => ?_, fun a u e => ?_, h.len, h.nd, fun a m => ?_, fun i u a e1 e2 => ?_⟩
  · rw [upd_ne (ne_of_none e f1)]; exact h.sub a u e
  · by_cases q : a = p
    · subst q; rw [upd_same] at e; cases e; exact ⟨upd_same, f1, f3, nt⟩
    · rw [upd_ne q] at e ⊢; exact h.ext a u e
  · obtain ⟨u, e, n⟩ := h.has a m
    exact ⟨u, by rw [upd_ne (ne_of_none e hp)]; exact e, n⟩
  · exact (h.objs i u a e1 e2).mono (Sub.refl F) (List.prefix_refl φ) (fun z => z) fun u e => by rw [upd_ne (ne_of_none e hp)]; exact e
/-- what was kept aside is frozen -/
theorem Hs.freeze (h : Hs K mg (upd Z p o) F φ L H) (hz : Z p = none) : Hs K mg Z (upd F p o) φ L H ∧ Sub F (upd F p o) := by
  obtain ⟨h1, h2, h3, h4⟩ := h.ext p o upd_same
  have sb : Sub F (upd F p o) := Sub.new h2
  refine ⟨⟨fun a u e => ?_, fun a u e => ?_, h.len, h.nd, h.has, fun i u a e1 e2 => ?_⟩, sb⟩
  · by_cases q : a = p
    · subst q; rw [upd_same] at e; cases e; exact h1
    · rw [upd_ne q] at e; exact h.sub a u e
  · have q : a ≠ p := ne_of_none e hz
    obtain ⟨g1, g2, g3, g4⟩ := h.ext a u (by rw [upd_ne q]; exact e)
    exact ⟨g1, by rw [upd_ne q]; exact g2, g3, g4⟩
  · exact (h.objs i u a e1 e2).mono sb (List.prefix_refl φ) (fun z => by rw [upd_ne (pre_nd e2 h3)]; exact z) fun u e => e
theorem Hs.fresh_frozen (h : Hs K mg Z F φ L H) (hp : H p = none) : Hs K mg Z (upd F p o) φ L (upd H p o) ∧ Sub F (upd F p o) := by
  obtain ⟨f1, f2, f3⟩ := h.free hp
  have sb : Sub F (upd F p o) := Sub.new f1
  refine ⟨⟨fun a u e => ?_, fun a u e => ?_, h.len, h.nd, fun a m => ?_, fun i u a e1 e2 => ?_⟩, sb⟩
  · by_cases q : a = p
    · subst q; rw [upd_same] at e ⊢; exact e
    · rw [upd_ne q] at e ⊢; exact h.sub a u e
  · obtain ⟨g1, g2, g3, g4⟩ := h.ext a u e
    have q : a ≠ p := ne_of_none e f2
    exact ⟨by rw [upd_ne q]; exact g1, by rw [upd_ne q]; exact g2, g3, g4⟩
  · obtain ⟨u, e, n⟩ := h.has a m
    exact ⟨u, by rw [upd_ne (ne_of_none e hp)]; exact e, n⟩
  · exact (h.objs i u a e1 e2).mono sb (List.prefix_refl φ) (fun z => by rw [upd_ne (pre_nd e2 f3)]; exact z) fun u e => by rw [upd_ne (ne_of_none e hp)]; exact e
/-- what was kept aside becomes a numbered thing -/
theorem Hs.numbered {ob : Ob} (h : Hs K mg (upd Z p o) F φ L H) (hz : Z p = none) (hm : F p = none → H p = some o → ObOk K mg F φ H p ob) : Hs K mg Z F (φ ++ [p]) (L ++ [ob]) H := by
  obtain ⟨h1, h2, h3, h4⟩ := h.ext p o upd_same
  refine ⟨h.sub, fun a u e => ?_, by simp [h.len], ?_, fun a hm => ?_, fun i u a e1 e2 => ?_⟩
  · have q : a ≠ p := ne_of_none e hz
    obtain ⟨g1, g2, g3, g4⟩ := h.ext a u (by rw [upd_ne q]; exact e)
    exact ⟨g1, g2, by simp [g3, q], g4⟩
  · rw [List.nodup_append]
    exact ⟨h.nd, by simp, fun a ha b hb e => h3 (by simp at hb; subst hb; subst e; exact ha)⟩
  · rcases List.mem_append.mp hm with hm | hm
    · exact h.has a hm
    · simp at hm; subst hm; exact ⟨o, h1, h4⟩
  · have pf : φ <+: φ ++ [p] := List.prefix_append _ _
    by_cases hi : i < L.length
    · rw [List.getElem?_append_left hi] at e1
      rw [List.getElem?_append_left (by rw [h.len]; exact hi)] at e2
      exact (h.objs i u a e1 e2).mono (Sub.refl F) pf (fun z => z) fun u e => e
    · have : i = L.length := by
        have := (List.getElem?_eq_some_iff.mp e1).1
        simp at this; omega
      subst this
      rw [List.getElem?_append_right (Nat.le_refl _)] at e1
      rw [← h.len, List.getElem?_append_right (Nat.le_refl _)] at e2
      simp at e1 e2
      subst e1; subst e2
      exact (hm h2 h1).mono (Sub.refl F) pf (fun z => z) fun u e => e
theorem Hs.box {m : M} (h : Hs K mg (upd Z p o) F φ L H) (hz : Z p = none) (hm : MOk K F φ m o) : Hs K mg Z F (φ ++ [p]) (L ++ [.box m]) H :=
  h.numbered hz fun h2 h1 => ⟨h2, o, h1, hm⟩
/-- a thing kept aside is changed -/
theorem Hs.turn {o' : HO} (h : Hs K mg Z F φ L H) (hz : Z p = some o) (nt : NT o' := by intro _ z; cases z) : Hs K mg (upd Z p o') F φ L (upd H p o') := by
  obtain ⟨h1, h2, h3, h4⟩ := h.ext p o hz
  refine ⟨fun a u e => ?_, fun a u e => ?_, h.len, h.nd, fun a m => ?_, fun i u a e1 e2 => ?_⟩
  · have q : a ≠ p := fun q => by rw [q, h2] at e; cases e
    rw [upd_ne q]; exact h.sub a u e
  · by_cases q : a = p
    · subst q; rw [upd_same] at e; cases e; exact ⟨upd_same, h2, h3, nt⟩
    · rw [upd_ne q] at e ⊢; exact h.ext a u e
  · obtain ⟨u, e, n⟩ := h.has a m
    by_cases q : a = p
    · subst q; exact ⟨o', upd_same, nt⟩
    · exact ⟨u, by rw [upd_ne q]; exact e, n⟩
  · exact (h.objs i u a e1 e2).mono (Sub.refl F) (List.prefix_refl φ) (fun z => z) fun u e => by rw [upd_ne (pre_nd e2 h3)]; exact e
end
end Lf

set_option maxHeartbeats 4000000
/-! Lf, part B: a piece of the text and a function on trees: the judgements, and the rules for expressions. -/
namespace Lf
open PySem PySem.Spec PyProof.Rows L2

/-! ### what is wanted of a piece of the text, in the machine's words -/
def Wp (X : Cx) (e : Expr) : TE := fun σ H Q => ∀ (pins : List (Addr × Obj)) (s : Shared), Inv X pins σ H s → wpAny (model X.prog X.w) X.A (eval e X.env) (EP X pins σ Q) X.xe s
def WpT (X : Cx) (e : Expr) : TT := fun σ H Q => ∀ (pins : List (Addr × Obj)) (s : Shared), Inv X pins σ H s → wpAny (model X.prog X.w) X.A (isTrue e X.env (eval e X.env)) (TP X pins σ Q) X.xe s
def WpW (X : Cx) (e : Expr) : TT := fun σ H Q => ∀ (whole : Sem Value) (pins : List (Addr × Obj)) (s : Shared), Inv X pins σ H s → wpAny (model X.prog X.w) X.A (isTrue e X.env whole) (TP X pins σ Q) X.xe s
def WpA (X : Cx) (es : List Expr) : TA := fun σ H Q => ∀ (pos : Pos) (pins : List (Addr × Obj)) (s : Shared), Inv X pins σ H s → wpAny (model X.prog X.w) X.A (spliced (backTo pos (starEach es X.env))) (AP X pins σ Q) X.xe s
def WpS (X : Cx) (st : Stmt) : TS := fun D σ H => ∀ (pins : List (Addr × Obj)) (s : Shared), Inv X pins σ H s → wpAny (model X.prog X.w) X.A (exec st X.env) (SP X pins D) X.xe s
def WpSs (X : Cx) (st : List Stmt) : TS := fun D σ H => ∀ (pins : List (Addr × Obj)) (s : Shared), Inv X pins σ H s → wpAny (model X.prog X.w) X.A (execs st X.env) (SP X pins D) X.xe s
theorem wpE {X : Cx} {e : Expr} : PE X e (Wp X e) := ⟨fun pins s σ H Q I h => h pins s I⟩
theorem wpT {X : Cx} {e : Expr} : PT X e (WpT X e) := ⟨fun pins s σ H Q I h => h pins s I⟩
theorem wpW {X : Cx} {e : Expr} : PW X e (WpW X e) := ⟨fun wh pins s σ H Q I h => h wh pins s I⟩
theorem wpA {X : Cx} {es : List Expr} : PA X es (WpA X es) := ⟨fun pos pins s σ H Q I h => h pos pins s I⟩
theorem wpS {X : Cx} {st : Stmt} : PS X st (WpS X st) := ⟨fun pins s σ H D I h => h pins s I⟩
theorem wpSs {X : Cx} {st : List Stmt} : PSs X st (WpSs X st) := ⟨fun pins s σ H D I h => h pins s I⟩
theorem PE.wp {X : Cx} {e : Expr} {t : TE} (h : PE X e t) {σ : L2.St} {H : Hp} {Q : VK} (q : t σ H Q) : Wp X e σ H Q := fun pins s I => h.run pins s σ H Q I q
theorem PT.wp {X : Cx} {e : Expr} {t : TT} (h : PT X e t) {σ : L2.St} {H : Hp} {Q : Bool → Hp → Prop} (q : t σ H Q) : WpT X e σ H Q := fun pins s I => h.run pins s σ H Q I q
theorem PW.wp {X : Cx} {e : Expr} {t : TT} (h : PW X e t) {σ : L2.St} {H : Hp} {Q : Bool → Hp → Prop} (q : t σ H Q) : WpW X e σ H Q := fun wh pins s I => h.run wh pins s σ H Q I q
theorem PA.wp {X : Cx} {es : List Expr} {t : TA} (h : PA X es t) {σ : L2.St} {H : Hp} {Q : List V → Hp → Prop} (q : t σ H Q) : WpA X es σ H Q := fun pos pins s I => h.run pos pins s σ H Q I q
theorem PS.wp {X : Cx} {st : Stmt} {t : TS} (h : PS X st t) {σ : L2.St} {H : Hp} {D : Ends} (q : t D σ H) : WpS X st D σ H := fun pins s I => h.run pins s σ H D I q
theorem PSs.wp {X : Cx} {st : List Stmt} {t : TS} (h : PSs X st t) {σ : L2.St} {H : Hp} {D : Ends} (q : t D σ H) : WpSs X st D σ H := fun pins s I => h.run pins s σ H D I q

/-! ### the judgements -/
abbrev EF := Ro → Lg → Option (W × Lg)
abbrev TF := Ro → Lg → Option (Bool × Lg)
abbrev AF := Ro → Lg → Option (List W × Lg)
/-- where a container stands -/
inductive Hd where
  | val (w : W) | own (i : Nat)
abbrev OF := Ro → Lg → Option (Hd × Lg)
/-- a new list or dict -/
abbrev NF := Ro → Lg → Option (M × Lg)

structure IE (X : Cx) (e : Expr) (f : EF) : Prop where
  run : ∀ {Zx Z F : Hp} {φ : List Addr} {L : Lg} {ρ : Ro} {σ : L2.St} {H : Hp} {w : W} {L' : Lg}, Hs X.K X.mg Z F φ L H → Ss X.K Zx Z F φ ρ σ → f ρ L = some (w, L') →
    ∀ Q : VK, (∀ (F' : Hp) (φ' : List Addr) (H' : Hp) (v : V), Sub F F' → φ <+: φ' → Hs X.K X.mg Z F' φ' L' H' → R X.K F' φ' w v → Q v H') → Wp X e σ H Q
structure IT (X : Cx) (e : Expr) (f : TF) : Prop where
  run : ∀ {Zx Z F : Hp} {φ : List Addr} {L : Lg} {ρ : Ro} {σ : L2.St} {H : Hp} {w : Bool} {L' : Lg}, Hs X.K X.mg Z F φ L H → Ss X.K Zx Z F φ ρ σ → f ρ L = some (w, L') →
    ∀ Q : Bool → Hp → Prop, (∀ (F' : Hp) (φ' : List Addr) (H' : Hp), Sub F F' → φ <+: φ' → Hs X.K X.mg Z F' φ' L' H' → Q w H') → WpT X e σ H Q
structure IW (X : Cx) (e : Expr) (f : TF) : Prop where
  run : ∀ {Zx Z F : Hp} {φ : List Addr} {L : Lg} {ρ : Ro} {σ : L2.St} {H : Hp} {w : Bool} {L' : Lg}, Hs X.K X.mg Z F φ L H → Ss X.K Zx Z F φ ρ σ → f ρ L = some (w, L') →
    ∀ Q : Bool → Hp → Prop, (∀ (F' : Hp) (φ' : List Addr) (H' : Hp), Sub F F' → φ <+: φ' → Hs X.K X.mg Z F' φ' L' H' → Q w H') → WpW X e σ H Q
structure IA (X : Cx) (es : List Expr) (f : AF) : Prop where
  run : ∀ {Zx Z F : Hp} {φ : List Addr} {L : Lg} {ρ : Ro} {σ : L2.St} {H : Hp} {w : List W} {L' : Lg}, Hs X.K X.mg Z F φ L H → Ss X.K Zx Z F φ ρ σ → f ρ L = some (w, L') →
    ∀ Q : List V → Hp → Prop, (∀ (F' : Hp) (φ' : List Addr) (H' : Hp) (v : List V), Sub F F' → φ <+: φ' → Hs X.K X.mg Z F' φ' L' H' → Rs X.K F' φ' w v → Q v H') → WpA X es σ H Q
/-- a container in its place -/
def HR (K : PySem.W.Frag) (F : Hp) (φ : List Addr) (ρ : Ro) (σ : L2.St) : Hd → V → Prop
  | .val w, v => R K F φ w v
  | .own i, v => σ[i]? = some (some v) ∧ ∃ m, ρ[i]? = some (.ow m)
structure IO (X : Cx) (e : Expr) (f : OF) : Prop where
  run : ∀ {Zx Z F : Hp} {φ : List Addr} {L : Lg} {ρ : Ro} {σ : L2.St} {H : Hp} {w : Hd} {L' : Lg}, Hs X.K X.mg Z F φ L H → Ss X.K Zx Z F φ ρ σ → f ρ L = some (w, L') →
    ∀ Q : VK, (∀ (F' : Hp) (φ' : List Addr) (H' : Hp) (v : V), Sub F F' → φ <+: φ' → Hs X.K X.mg Z F' φ' L' H' → HR X.K F' φ' ρ σ w v → Q v H') → Wp X e σ H Q
structure IN (X : Cx) (e : Expr) (f : NF) : Prop where
  run : ∀ {Zx Z F : Hp} {φ : List Addr} {L : Lg} {ρ : Ro} {σ : L2.St} {H : Hp} {m : M} {L' : Lg}, Hs X.K X.mg Z F φ L H → Ss X.K Zx Z F φ ρ σ → f ρ L = some (m, L') →
    ∀ Q : VK, (∀ (F' : Hp) (φ' : List Addr) (H' : Hp) (p : Addr) (o : HO), Sub F F' → φ <+: φ' → Z p = none → Hs X.K X.mg (upd Z p o) F' φ' L' H' → MOk X.K F' φ' m o → Q (.ref p) H') → Wp X e σ H Q

/-- what a container holds -/
def Cont (K : PySem.W.Frag) (F : Hp) (φ : List Addr) (H : Hp) (w : W) (v : V) : Prop := R K F φ w v ∨ ∃ a o m, v = .ref a ∧ w = M.fz m ∧ H a = some o ∧ MOk K F φ m o
def cont (ρ : Ro) (L : Lg) : Hd → Option W
  | .own i => match ρ[i]? with
    | some (.ow m) => some m.fz
    | _ => none
  | .val (.ob j) => match L[j]? with
    | some (.box m) => some m.fz
    | _ => none
  | .val w => some w
theorem cont_ok {K : PySem.W.Frag} {mg : Str → Option Value} {Zx Z F : Hp} {φ : List Addr} {L : Lg} {H : Hp} {ρ : Ro} {σ : L2.St} {h : Hd} {v : V} {w : W} (hs : Hs K mg Z F φ L H) (ss : Ss K Zx Z F φ ρ σ) (hr : HR K F φ ρ σ h v) (e : cont ρ L h = some w) : Cont K F φ H w v := by
  cases h with
  | own i =>
    obtain ⟨hv, m, hm⟩ := hr
    simp only [cont, hm, Option.some.injEq] at e
    obtain ⟨a, o, h1, h2, h3, h4⟩ := ss.ow i m hm
    rw [hv] at h1
    simp at h1
    exact .inr ⟨a, o, m, h1, e.symm, (hs.ext a o h2).1, h4⟩
  | val w' =>
    cases w' with
    | ob j =>
      have hr : R K F φ (.ob j) v := hr
      cases hr with
      | ob hj =>
        simp only [cont] at e
        cases hL : L[j]? with
        | none => rw [hL] at e; cases e
        | some ob =>
          rw [hL] at e
          cases ob with
          | box m =>
            simp only [Option.some.injEq] at e
            obtain ⟨_, o, h1, h2⟩ := hs.objs j _ _ hL hj
            exact .inr ⟨_, o, m, rfl, e.symm, h1, h2⟩
          | ins c fs => cases e
          | dead => cases e
          | nd kvs => cases e
    | _ => simp only [cont, Option.some.injEq] at e; subst e; exact .inl hr

section
variable {X : Cx} {e a b : Expr} {es : List Expr} {pos : Pos}

theorem IE.mk' {f : EF} (h : ∀ {Zx Z F : Hp} {φ : List Addr} {L : Lg} {ρ : Ro} {σ : L2.St} {H : Hp} {w : W} {L' : Lg}, Hs X.K X.mg Z F φ L H → Ss X.K Zx Z F φ ρ σ → f ρ L = some (w, L') →
    ∀ Q : VK, (∀ (F' : Hp) (φ' : List Addr) (H' : Hp) (v : V), Sub F F' → φ <+: φ' → Hs X.K X.mg Z F' φ' L' H' → R X.K F' φ' w v → Q v H') → Wp X e σ H Q) : IE X e f := ⟨h⟩

/-! ### names and constants -/
def cVar (i : Nat) : EF := fun ρ L => match ρ[i]? with
  | some (.va w) => some (w, L)
  | _ => none
theorem ie_var (i : Nat) {x : Str} (hN : X.N[i]? = some x := by rfl) (hv : Vis X.env.scope x := by first | exact Or.inl rfl | exact Or.inr (Or.inl rfl) | exact Or.inr (Or.inr rfl)) (hd : (x == ("__debug__" : Str)) = false := by decide)
    (hcd : (x == ("__classdict__" : Str)) = false := by decide) : IE X (.Name x pos) (cVar i) := by
  refine ⟨fun {Zx Z F φ L ρ σ H w L'} hs ss h Q q => PE.wp (pe_var hN hv hd hcd) ?_⟩
  unfold cVar at h
  split at h
  · rename_i w' e
    simp only [Option.some.injEq, Prod.mk.injEq] at h
    obtain ⟨rfl, rfl⟩ := h
    obtain ⟨v, h1, h2⟩ := ss.va i _ e
    exact ⟨v, h1, q F φ H v (Sub.refl F) (List.prefix_refl φ) hs h2⟩
  · cases h
def cK (w : W) : EF := fun _ L => some (w, L)
theorem ie_k {w : W} {v : V} (h : PE X e (tC v)) (r : ∀ F φ, R X.K F φ w v) : IE X e (cK w) := by
  refine ⟨fun {Zx Z F φ L ρ σ H w L'} hs ss h' Q q => PE.wp h ?_⟩
  simp only [cK, Option.some.injEq, Prod.mk.injEq] at h'
  obtain ⟨rfl, rfl⟩ := h'
  exact q F φ H v (Sub.refl F) (List.prefix_refl φ) hs (r F φ)
theorem ie_int {i : Int} {j} : IE X (.Constant (.int i) j pos) (cK (.int i)) := ie_k pe_int fun _ _ => .int i
theorem ie_bl {i : Bool} {j} : IE X (.Constant (.bool i) j pos) (cK (.bl i)) := ie_k pe_bl fun _ _ => .bl i
theorem ie_str {i : Str} {j} : IE X (.Constant (.str i) j pos) (cK (.str i)) := ie_k pe_str fun _ _ => .str i
theorem ie_non {j} : IE X (.Constant .none j pos) (cK .non) := ie_k pe_non fun _ _ => .non

/-! ### two expressions in a row -/
/-- what a step on values does: from a described heap and described values -/
def Op2 (X : Cx) (r : R2) (g : W → W → Option W) : Prop := ∀ {Z F : Hp} {φ : List Addr} {L : Lg} {H : Hp} {x y w : W} {vx vy : V}, Hs X.K X.mg Z F φ L H → R X.K F φ x vx → R X.K F φ y vy → g x y = some w →
  ∀ Q : VK, (∀ (F' : Hp) (H' : Hp) (v : V), Sub F F' → Hs X.K X.mg Z F' φ L H' → R X.K F' φ w v → Q v H') → r vx vy H Q
def cOp (g : W → W → Option W) (fa fb : EF) : EF := fun ρ L => match fa ρ L with
  | none => none
  | some (x, L1) => match fb ρ L1 with
    | none => none
    | some (y, L2) => match g x y with
      | none => none
      | some w => some (w, L2)
/-- both parts, then r -/
theorem two {r : R2} {g : W → W → Option W} {fa fb : EF} (sg : Op2 X r g) (ha : IE X a fa) (hb : IE X b fb)
    {Zx Z F : Hp} {φ : List Addr} {L : Lg} {ρ : Ro} {σ : L2.St} {H : Hp} {w : W} {L' : Lg} (hs : Hs X.K X.mg Z F φ L H) (ss : Ss X.K Zx Z F φ ρ σ) (h : cOp g fa fb ρ L = some (w, L'))
    (Q : VK) (q : ∀ (F' : Hp) (φ' : List Addr) (H' : Hp) (v : V), Sub F F' → φ <+: φ' → Hs X.K X.mg Z F' φ' L' H' → R X.K F' φ' w v → Q v H') : tOp r (Wp X a) (Wp X b) σ H Q := by
  unfold cOp at h
  split at h
  · cases h
  rename_i x L1 e1
  split at h
  · cases h
  rename_i y L2 e2
  split at h
  · cases h
  rename_i w' e3
  simp only [Option.some.injEq, Prod.mk.injEq] at h
  obtain ⟨rfl, rfl⟩ := h
  refine ha.run hs ss e1 _ fun F1 φ1 H1 vx s1 p1 hs1 rx => ?_
  refine hb.run hs1 (ss.mono s1 p1) e2 _ fun F2 φ2 H2 vy s2 p2 hs2 ry => ?_
  refine sg hs2 (rx.mono s2 p2) ry e3 Q fun F3 H3 v s3 hs3 rv => ?_
  exact q F3 φ2 H3 v ((s1.trans s2).trans s3) (List.IsPrefix.trans p1 p2) hs3 rv
theorem ie_op {op : Operator} {r : R2} {g : W → W → Option W} {fa fb : EF} (ho : OpR X (binaryOp op) r) (sg : Op2 X r g) (ha : IE X a fa) (hb : IE X b fb) : IE X (.BinOp a op b pos) (cOp g fa fb) :=
  ⟨fun hs ss h Q q => PE.wp (pe_op ho wpE wpE) (two sg ha hb hs ss h Q q)⟩

theorem orR {f : Value → Value → Sem Value} {r r' : R2} (h : OpR X f r) (h' : OpR X f r') : OpR X f (fun x y H Q => r x y H Q ∨ r' x y H Q) := by
  intro pins s σ H x y v u Q I rx ry q
  rcases q with q | q
  · exact h pins s σ H x y v u Q I rx ry q
  · exact h' pins s σ H x y v u Q I rx ry q
theorem flat {Z F : Hp} {φ : List Addr} {L : Lg} {H : Hp} {w : W} {v : V} {Q : VK} (hs : Hs X.K X.mg Z F φ L H) (r : R X.K F φ w v) (q : ∀ (F' : Hp) (H' : Hp) (v : V), Sub F F' → Hs X.K X.mg Z F' φ L H' → R X.K F' φ w v → Q v H') : Q v H := q F H v (Sub.refl F) hs r
/-- a new frozen list or tuple -/
theorem newL {Z F : Hp} {φ : List Addr} {L : Lg} {H : Hp} {ws : List W} {vs : List V} {Q : VK} (hs : Hs X.K X.mg Z F φ L H) (r : Rs X.K F φ ws vs) (q : ∀ (F' : Hp) (H' : Hp) (v : V), Sub F F' → Hs X.K X.mg Z F' φ L H' → R X.K F' φ (.lst ws) v → Q v H') {p : Addr} (hp : H p = none) : Q (.ref p) (upd H p (.lst vs)) := by
  obtain ⟨h1, h2⟩ := hs.fresh_frozen (o := .lst vs) hp
  exact q _ _ _ h2 h1 (.lst upd_same (r.mono h2 (List.prefix_refl φ)))
theorem newT {Z F : Hp} {φ : List Addr} {L : Lg} {H : Hp} {ws : List W} {vs : List V} {Q : VK} (hs : Hs X.K X.mg Z F φ L H) (r : Rs X.K F φ ws vs) (q : ∀ (F' : Hp) (H' : Hp) (v : V), Sub F F' → Hs X.K X.mg Z F' φ L H' → R X.K F' φ (.tup ws) v → Q v H') {p : Addr} (hp : H p = none) : Q (.ref p) (upd H p (.tup vs)) := by
  obtain ⟨h1, h2⟩ := hs.fresh_frozen (o := .tup vs) hp
  exact q _ _ _ h2 h1 (.tup upd_same (r.mono h2 (List.prefix_refl φ)))

/-! ### arithmetic -/
def addW : W → W → Option W
  | .int i, .int j => some (.int (i + j))
  | .str a, .str b => if a.length + b.length ≤ 16777216 then some (.str (a ++ b)) else none
  | .lst a, .lst b => if a.length + b.length ≤ 16777216 then some (.lst (a ++ b)) else none
  | .tup a, .tup b => if a ≠ [] ∧ b ≠ [] ∧ a.length + b.length ≤ 16777216 then some (.tup (a ++ b)) else none
  | _, _ => none
theorem ie_add {fa fb : EF} (ha : IE X a fa) (hb : IE X b fb) : IE X (.BinOp a .Add b pos) (cOp addW fa fb) := by
  refine ie_op (orR op_add (orR op_add_str (orR op_cat op_catT))) (fun {Z F φ L H x y w vx vy} hs rx ry h Q q => ?_) ha hb
  unfold addW at h
  split at h
  · cases h; cases rx; cases ry
    exact .inl ⟨_, _, rfl, rfl, flat hs (.int _) q⟩
  · split at h
    · rename_i hz
      cases h; cases rx; cases ry
      exact .inr (.inl ⟨_, _, rfl, rfl, by rw [sizeLine_eq]; exact hz, flat hs (.str _) q⟩)
    · cases h
  · split at h
    · rename_i hz
      cases h
      cases rx with
      | lst h1 r1 =>
        cases ry with
        | lst h2 r2 =>
          exact .inr (.inr (.inl ⟨_, _, _, _, rfl, rfl, hs.sub _ _ h1, hs.sub _ _ h2, by rw [sizeLine_eq, ← r1.length, ← r2.length]; exact hz, fun p hp => newL hs (r1.append r2) q hp⟩))
    · cases h
  · split at h
    · rename_i hz
      obtain ⟨z1, z2, z3⟩ := hz
      cases h
      cases rx with
      | tup h1 r1 =>
        cases ry with
        | tup h2 r2 =>
          rename_i aa bb _ _ vs _ vs'
          have n1 : vs ≠ [] := fun e => by subst e; cases r1; exact z1 rfl
          have n2 : vs' ≠ [] := fun e => by subst e; cases r2; exact z2 rfl
          refine .inr (.inr (.inr ⟨_, _, _, _, rfl, rfl, h1.sq hs.sub, h2.sq hs.sub, n1, by rw [sizeLine_eq, ← r1.length, ← r2.length]; exact z3, fun e => absurd e n2, fun _ p hp => newT hs (r1.append r2) q hp⟩))
    · cases h
  · cases h
def subW : W → W → Option W
  | .int i, .int j => some (.int (i - j))
  | _, _ => none
theorem ie_sub {fa fb : EF} (ha : IE X a fa) (hb : IE X b fb) : IE X (.BinOp a .Sub b pos) (cOp subW fa fb) := by
  refine ie_op op_sub (fun {Z F φ L H x y w vx vy} hs rx ry h Q q => ?_) ha hb
  unfold subW at h
  split at h
  · cases h; cases rx; cases ry
    exact ⟨_, _, rfl, rfl, flat hs (.int _) q⟩
  · cases h
def mulW : W → W → Option W
  | .int i, .int j => if (-(2 ^ 64) < i ∧ i < 2 ^ 64) ∨ (-(2 ^ 64) < j ∧ j < 2 ^ 64) then some (.int (i * j)) else none
  | .lst a, .int k => if -(2 ^ 63) ≤ k ∧ k < 2 ^ 63 ∧ a.length * k.toNat ≤ 16777216 then some (.lst (List.replicate k.toNat a).flatten) else none
  | _, _ => none
def fdivW : W → W → Option W
  | .int i, .int j => if 0 < j ∧ j < 2 ^ 64 then some (.int (i / j)) else none
  | _, _ => none
theorem ie_fdiv {fa fb : EF} (ha : IE X a fa) (hb : IE X b fb) : IE X (.BinOp a .FloorDiv b pos) (cOp fdivW fa fb) := by
  refine ie_op op_fdivW (fun {Z F φ L H x y w vx vy} hs rx ry h Q q => ?_) ha hb
  unfold fdivW at h
  split at h
  · split at h
    · rename_i i j hz
      cases h; cases rx; cases ry
      exact ⟨_, _, rfl, rfl, wide_div hz.1 (b := 64) (by have := hz.2; omega) (by decide) (by decide), flat hs (.int _) q⟩
    · cases h
  · cases h
def modW : W → W → Option W
  | .int i, .int j => if 0 < j then some (.int (i % j)) else none
  | _, _ => none
theorem ie_mod {fa fb : EF} (ha : IE X a fa) (hb : IE X b fb) : IE X (.BinOp a .Mod b pos) (cOp modW fa fb) := by
  refine ie_op op_mod (fun {Z F φ L H x y w vx vy} hs rx ry h Q q => ?_) ha hb
  unfold modW at h
  split at h
  · split at h
    · rename_i i j hz
      cases h; cases rx; cases ry
      exact ⟨_, _, rfl, rfl, hz, flat hs (.int _) q⟩
    · cases h
  · cases h
def shlW : W → W → Option W
  | .int i, .int j => if 0 ≤ j ∧ j ≤ 1000000 ∧ i.natAbs < 2 ^ 64 then some (.int (i * 2 ^ j.toNat)) else none
  | _, _ => none
theorem ie_shl {fa fb : EF} (ha : IE X a fa) (hb : IE X b fb) : IE X (.BinOp a .LShift b pos) (cOp shlW fa fb) := by
  refine ie_op op_shl (fun {Z F φ L H x y w vx vy} hs rx ry h Q q => ?_) ha hb
  unfold shlW at h
  split at h
  · split at h
    · rename_i i j hz
      cases h; cases rx; cases ry
      exact ⟨_, _, rfl, rfl, hz, flat hs (.int _) q⟩
    · cases h
  · cases h
def shrW : W → W → Option W
  | .int i, .int j => if 0 ≤ j then some (.int (i / 2 ^ j.toNat)) else none
  | _, _ => none
theorem ie_shr {fa fb : EF} (ha : IE X a fa) (hb : IE X b fb) : IE X (.BinOp a .RShift b pos) (cOp shrW fa fb) := by
  refine ie_op op_shr (fun {Z F φ L H x y w vx vy} hs rx ry h Q q => ?_) ha hb
  unfold shrW at h
  split at h
  · split at h
    · rename_i i j hz
      cases h; cases rx; cases ry
      exact ⟨_, _, rfl, rfl, hz, flat hs (.int _) q⟩
    · cases h
  · cases h
def bandW : W → W → Option W
  | .int i, .int j => some (.int (Builtin.bitAnd i j))
  | _, _ => none
theorem ie_band {fa fb : EF} (ha : IE X a fa) (hb : IE X b fb) : IE X (.BinOp a .BitAnd b pos) (cOp bandW fa fb) := by
  refine ie_op op_and (fun {Z F φ L H x y w vx vy} hs rx ry h Q q => ?_) ha hb
  unfold bandW at h
  split at h
  · cases h; cases rx; cases ry
    exact ⟨_, _, rfl, rfl, flat hs (.int _) q⟩
  · cases h
theorem ie_mul {fa fb : EF} (ha : IE X a fa) (hb : IE X b fb) : IE X (.BinOp a .Mult b pos) (cOp mulW fa fb) := by
  refine ie_op (orR op_mul op_rep) (fun {Z F φ L H x y w vx vy} hs rx ry h Q q => ?_) ha hb
  unfold mulW at h
  split at h
  · split at h
    · rename_i i j hz
      cases h; cases rx; cases ry
      exact .inl ⟨_, _, rfl, rfl, hz, flat hs (.int _) q⟩
    · cases h
  · split at h
    · rename_i i k hz
      obtain ⟨z1, z2, z3⟩ := hz
      cases h; cases ry
      cases rx with
      | lst h1 r1 =>
        rename_i vs
        have rr : ∀ n, Rs X.K F φ (List.replicate n i).flatten (List.replicate n vs).flatten := fun n => by
          induction n with
          | zero => exact .nil
          | succ n ih => rw [List.replicate_succ, List.replicate_succ, List.flatten_cons, List.flatten_cons]; exact r1.append ih
        exact .inr ⟨_, _, _, rfl, rfl, hs.sub _ _ h1, z1, z2, by rw [sizeLine_eq, ← r1.length]; exact z3, fun p hp => newL hs (rr _) q hp⟩
    · cases h
  · cases h
/-- one expression, then a step -/
def Op1 (X : Cx) (r : V → Hp → VK → Prop) (g : W → Option W) : Prop := ∀ {Z F : Hp} {φ : List Addr} {L : Lg} {H : Hp} {x w : W} {vx : V}, Hs X.K X.mg Z F φ L H → R X.K F φ x vx → g x = some w →
  ∀ Q : VK, (∀ (F' : Hp) (H' : Hp) (v : V), Sub F F' → Hs X.K X.mg Z F' φ L H' → R X.K F' φ w v → Q v H') → r vx H Q
def cUn (g : W → Option W) (fa : EF) : EF := fun ρ L => match fa ρ L with
  | none => none
  | some (x, L1) => match g x with
    | none => none
    | some w => some (w, L1)
theorem ie_un {op : UnaryOp} {r : V → Hp → VK → Prop} {g : W → Option W} {fa : EF} (ho : UnR X (unaryOp op) r) (sg : Op1 X r g) (ha : IE X a fa) : IE X (.UnaryOp op a pos) (cUn g fa) := by
  refine ⟨fun {Zx Z F φ L ρ σ H w L'} hs ss h Q q => PE.wp (pe_un ho wpE) ?_⟩
  unfold cUn at h
  split at h
  · cases h
  rename_i x L1 e1
  split at h
  · cases h
  rename_i w' e3
  simp only [Option.some.injEq, Prod.mk.injEq] at h
  obtain ⟨rfl, rfl⟩ := h
  refine ha.run hs ss e1 _ fun F1 φ1 H1 vx s1 p1 hs1 rx => ?_
  exact sg hs1 rx e3 Q fun F3 H3 v s3 hs3 rv => q F3 φ1 H3 v (s1.trans s3) p1 hs3 rv
def negW : W → Option W
  | .int i => some (.int (-i))
  | _ => none
theorem ie_neg {fa : EF} (ha : IE X a fa) : IE X (.UnaryOp .USub a pos) (cUn negW fa) := by
  refine ie_un un_neg (fun {Z F φ L H x w vx} hs rx h Q q => ?_) ha
  unfold negW at h
  split at h
  · cases h; cases rx
    exact ⟨_, rfl, flat hs (.int _) q⟩
  · cases h
end
end Lf

set_option maxHeartbeats 4000000
/-! Lf, part C: comparisons, tests, arguments, displays, subscripts. -/
namespace Lf
open PySem PySem.Spec PyProof.Rows L2

/-! ### data -/
mutual
def toD : W → Option PyData
  | .non => some .none
  | .bl b => some (.bool b)
  | .int i => some (.int i)
  | .str s => some (.str s)
  | .lst xs => match toDs xs with
    | some ds => some (.list ds)
    | none => none
  | .tup xs => match toDs xs with
    | some ds => some (.tuple ds)
    | none => none
  | .ty _ => none
  | .kt _ => none
  | .dK _ => none
  | .dT _ => none
  | .ob _ => none
  | .scr _ => none
def toDs : List W → Option (List PyData)
  | [] => some []
  | x :: xs => match toD x, toDs xs with
    | some d, some ds => some (d :: ds)
    | _, _ => none
end
mutual
theorem R.dp {K : PySem.W.Frag} {F H : Hp} {φ : List Addr} (s : Sub F H) : ∀ {w : W} {v : V}, R K F φ w v → ∀ {d : PyData}, toD w = some d → Dp K H v d
  | _, _, .non, d, h => by simp only [toD, Option.some.injEq] at h; subst h; exact .non
  | _, _, .bl b, d, h => by simp only [toD, Option.some.injEq] at h; subst h; exact .bl b
  | _, _, .int i, d, h => by simp only [toD, Option.some.injEq] at h; subst h; exact .int i
  | _, _, .str x, d, h => by simp only [toD, Option.some.injEq] at h; subst h; exact .str x
  | _, _, .lst (ws := ws) e r, d, h => by
    simp only [toD] at h
    split at h
    · rename_i ds e2
      simp only [Option.some.injEq] at h; subst h
      exact .lst (SqL.of (s _ _ e)) (Rs.dp s r e2)
    · cases h
  | _, _, .tup (ws := ws) e r, d, h => by
    simp only [toD] at h
    split at h
    · rename_i ds e2
      simp only [Option.some.injEq] at h; subst h
      exact .tup (e.sq s) (Rs.dp s r e2)
    · cases h
  | _, _, .ty _, d, h => by simp only [toD] at h; cases h
  | _, _, .kt _ _, d, h => by simp only [toD] at h; cases h
  | _, _, .dK _ _ _, d, h => by simp only [toD] at h; cases h
  | _, _, .dT _ _ _, d, h => by simp only [toD] at h; cases h
  | _, _, .ob _, d, h => by simp only [toD] at h; cases h
  | _, _, .scr _, d, h => by simp only [toD] at h; cases h
theorem Rs.dp {K : PySem.W.Frag} {F H : Hp} {φ : List Addr} (s : Sub F H) : ∀ {ws : List W} {vs : List V}, Rs K F φ ws vs → ∀ {ds : List PyData}, toDs ws = some ds → DpAll K H vs ds
  | _, _, .nil, ds, h => by simp only [toDs, Option.some.injEq] at h; subst h; exact .nil
  | _, _, .cons r t, ds, h => by
    simp only [toDs] at h
    split at h
    · rename_i d ds' e1 e2
      simp only [Option.some.injEq] at h; subst h
      exact .cons (R.dp s r e1) (Rs.dp s t e2)
    · cases h
end

/-! ### comparisons -/
def cmpI (p : Int → Int → Bool) : W → W → Option W
  | .int i, .int j => some (.bl (p i j))
  | _, _ => none
def isNoneW : W → Bool
  | .non => true
  | _ => false
def isW : W → W → Option W
  | x, .non => some (.bl (isNoneW x))
  | _, _ => none
def isNotW : W → W → Option W
  | x, .non => some (.bl (!isNoneW x))
  | _, _ => none
def eqD (x y : W) : Option Bool := match toD x, toD y with
  | some d, some e => if SeqAt.shaped d = true ∧ SeqAt.shaped e = true then some (PyData.eqv d e) else none
  | _, _ => none
def eqB : W → W → Option Bool
  | .int i, .int j => some (decide (i = j))
  | .str i, .str j => some (decide (i = j))
  | .bl i, .bl j => some (decide (i = j))
  | x, y => eqD x y
def eqW (x y : W) : Option W := match eqB x y with
  | some b => some (.bl b)
  | none => none
def neW (x y : W) : Option W := match eqB x y with
  | some b => some (.bl (!b))
  | none => none
section
variable {X : Cx} {e a b c : Expr} {es : List Expr} {pos : Pos}
theorem op2_int {p : Int → Int → Bool} : Op2 X (rI0 fun i j => .bl (p i j)) (cmpI p) := by
  intro Z F φ L H x y w vx vy hs rx ry h Q q
  unfold cmpI at h
  split at h
  · cases h; cases rx; cases ry
    exact ⟨_, _, rfl, rfl, flat hs (.bl _) q⟩
  · cases h
theorem R.none_iff {K : PySem.W.Frag} {F : Hp} {φ : List Addr} {w : W} {v : V} (r : R K F φ w v) : decide (v = .non) = isNoneW w := by
  cases r <;> rfl
theorem op2_is : Op2 X (fun x y H Q => y = .non ∧ Q (.bl (decide (x = .non))) H) isW := by
  intro Z F φ L H x y w vx vy hs rx ry h Q q
  unfold isW at h
  split at h
  · cases h; cases ry
    refine ⟨rfl, ?_⟩
    rw [rx.none_iff]
    exact flat hs (.bl _) q
  · cases h
theorem op2_isnot : Op2 X (fun x y H Q => y = .non ∧ Q (.bl (!decide (x = .non))) H) isNotW := by
  intro Z F φ L H x y w vx vy hs rx ry h Q q
  unfold isNotW at h
  split at h
  · cases h; cases ry
    refine ⟨rfl, ?_⟩
    rw [rx.none_iff]
    exact flat hs (.bl _) q
  · cases h
theorem eqB_ok {K : PySem.W.Frag} {F H : Hp} {φ : List Addr} {x y : W} {vx vy : V} {k : Bool} (s : Sub F H) (rx : R K F φ x vx) (ry : R K F φ y vy) (h : eqB x y = some k) :
    (scal vx vy = true ∧ decide (vx = vy) = k) ∨ ∃ d e, Dp K H vx d ∧ Dp K H vy e ∧ SeqAt.shaped d = true ∧ SeqAt.shaped e = true ∧ PyData.eqv d e = k := by
  unfold eqB at h
  split at h
  · cases h; cases rx; cases ry; refine .inl ⟨rfl, ?_⟩; simp
  · cases h; cases rx; cases ry; refine .inl ⟨rfl, ?_⟩; simp
  · cases h; cases rx; cases ry; refine .inl ⟨rfl, ?_⟩; simp
  · unfold eqD at h
    split at h
    · split at h
      · rename_i d e' e1 e2 hz
        simp only [Option.some.injEq] at h
        exact .inr ⟨d, e', rx.dp s e1, ry.dp s e2, hz.1, hz.2, h⟩
      · cases h
    · cases h
theorem op2_eq : Op2 X (fun x y H Q => rEq x y H Q ∨ rEqD X.K x y H Q) eqW := by
  intro Z F φ L H x y w vx vy hs rx ry h Q q
  unfold eqW at h
  split at h
  · rename_i k hk
    cases h
    rcases eqB_ok hs.sub rx ry hk with ⟨h1, h2⟩ | ⟨d, e', h1, h2, h3, h4, h5⟩
    · exact .inl ⟨h1, by rw [h2]; exact flat hs (.bl _) q⟩
    · exact .inr ⟨d, e', h1, h2, h3, h4, by rw [h5]; exact flat hs (.bl _) q⟩
  · cases h
theorem op2_ne : Op2 X (fun x y H Q => rNe x y H Q ∨ rNeD X.K x y H Q) neW := by
  intro Z F φ L H x y w vx vy hs rx ry h Q q
  unfold neW at h
  split at h
  · rename_i k hk
    cases h
    rcases eqB_ok hs.sub rx ry hk with ⟨h1, h2⟩ | ⟨d, e', h1, h2, h3, h4, h5⟩
    · exact .inl ⟨h1, by rw [h2]; exact flat hs (.bl _) q⟩
    · exact .inr ⟨d, e', h1, h2, h3, h4, by rw [h5]; exact flat hs (.bl _) q⟩
  · cases h
theorem ie_cmp {op : CmpOp} {r : R2} {g : W → W → Option W} {fa fb : EF} (ho : OpR X (compareOp op) r) (sg : Op2 X r g) (ha : IE X a fa) (hb : IE X b fb) (hm : behindInMarks op b = false) : IE X (.Compare a [op] [b] pos) (cOp g fa fb) :=
  ⟨fun hs ss h Q q => PE.wp (pe_cmpR ho wpE wpE hm) (two sg ha hb hs ss h Q q)⟩
theorem ie_lt {fa fb : EF} (ha : IE X a fa) (hb : IE X b fb) : IE X (.Compare a [.Lt] [b] pos) (cOp (cmpI fun i j => decide (i < j)) fa fb) := ie_cmp op_lt op2_int ha hb (nomark _)
theorem ie_le {fa fb : EF} (ha : IE X a fa) (hb : IE X b fb) : IE X (.Compare a [.LtE] [b] pos) (cOp (cmpI fun i j => decide (i ≤ j)) fa fb) := ie_cmp op_le op2_int ha hb (nomark _)
theorem ie_gt {fa fb : EF} (ha : IE X a fa) (hb : IE X b fb) : IE X (.Compare a [.Gt] [b] pos) (cOp (cmpI fun i j => decide (j < i)) fa fb) := ie_cmp op_gt op2_int ha hb (nomark _)
theorem ie_ge {fa fb : EF} (ha : IE X a fa) (hb : IE X b fb) : IE X (.Compare a [.GtE] [b] pos) (cOp (cmpI fun i j => decide (j ≤ i)) fa fb) := ie_cmp op_ge op2_int ha hb (nomark _)
theorem ie_is {fa fb : EF} (ha : IE X a fa) (hb : IE X b fb) : IE X (.Compare a [.Is] [b] pos) (cOp isW fa fb) := ie_cmp op_isN op2_is ha hb (nomark _)
theorem ie_isnot {fa fb : EF} (ha : IE X a fa) (hb : IE X b fb) : IE X (.Compare a [.IsNot] [b] pos) (cOp isNotW fa fb) := ie_cmp op_notN op2_isnot ha hb (nomark _)
theorem ie_eq {fa fb : EF} (hu : X.A.units + 64 < cLine) (ha : IE X a fa) (hb : IE X b fb) : IE X (.Compare a [.Eq] [b] pos) (cOp eqW fa fb) := ie_cmp (orR op_eq (op_eqD hu)) op2_eq ha hb (nomark _)
theorem ie_ne {fa fb : EF} (hu : X.A.units + 64 < cLine) (ha : IE X a fa) (hb : IE X b fb) : IE X (.Compare a [.NotEq] [b] pos) (cOp neW fa fb) := ie_cmp (orR op_ne (op_neD hu)) op2_ne ha hb (nomark _)

/-! ### tests -/
/-- a value that is True or False, as a test -/
def asT (f : EF) : TF := fun ρ L => match f ρ L with
  | some (.bl k, L') => some (k, L')
  | _ => none
theorem asT_some {f : EF} {ρ : Ro} {L L' : Lg} {k : Bool} (h : asT f ρ L = some (k, L')) : f ρ L = some (.bl k, L') := by
  unfold asT at h
  split at h
  · rename_i k' L2 e
    simp only [Option.some.injEq, Prod.mk.injEq] at h
    obtain ⟨rfl, rfl⟩ := h
    exact e
  · cases h
theorem it_cmp {op : CmpOp} {r : R2} {g : W → W → Option W} {fa fb : EF} (ho : OpR X (compareOp op) r) (sg : Op2 X r g) (ha : IE X a fa) (hb : IE X b fb) (hm : behindInMarks op b = false) : IT X (.Compare a [op] [b] pos) (asT (cOp g fa fb)) := by
  refine ⟨fun {Zx Z F φ L ρ σ H w L'} hs ss h Q q => PT.wp (pt_cmpR ho wpE wpE hm) ?_⟩
  refine two sg ha hb hs ss (asT_some h) _ fun F' φ' H' v s1 p1 hs1 r1 => ?_
  cases r1
  exact ⟨w, rfl, q F' φ' H' s1 p1 hs1⟩
theorem it_lt {fa fb : EF} (ha : IE X a fa) (hb : IE X b fb) : IT X (.Compare a [.Lt] [b] pos) (asT (cOp (cmpI fun i j => decide (i < j)) fa fb)) := it_cmp op_lt op2_int ha hb (nomark _)
theorem it_le {fa fb : EF} (ha : IE X a fa) (hb : IE X b fb) : IT X (.Compare a [.LtE] [b] pos) (asT (cOp (cmpI fun i j => decide (i ≤ j)) fa fb)) := it_cmp op_le op2_int ha hb (nomark _)
theorem it_gt {fa fb : EF} (ha : IE X a fa) (hb : IE X b fb) : IT X (.Compare a [.Gt] [b] pos) (asT (cOp (cmpI fun i j => decide (j < i)) fa fb)) := it_cmp op_gt op2_int ha hb (nomark _)
theorem it_ge {fa fb : EF} (ha : IE X a fa) (hb : IE X b fb) : IT X (.Compare a [.GtE] [b] pos) (asT (cOp (cmpI fun i j => decide (j ≤ i)) fa fb)) := it_cmp op_ge op2_int ha hb (nomark _)
theorem it_is {fa fb : EF} (ha : IE X a fa) (hb : IE X b fb) : IT X (.Compare a [.Is] [b] pos) (asT (cOp isW fa fb)) := it_cmp op_isN op2_is ha hb (nomark _)
theorem it_isnot {fa fb : EF} (ha : IE X a fa) (hb : IE X b fb) : IT X (.Compare a [.IsNot] [b] pos) (asT (cOp isNotW fa fb)) := it_cmp op_notN op2_isnot ha hb (nomark _)
theorem it_eq {fa fb : EF} (hu : X.A.units + 64 < cLine) (ha : IE X a fa) (hb : IE X b fb) : IT X (.Compare a [.Eq] [b] pos) (asT (cOp eqW fa fb)) := it_cmp (orR op_eq (op_eqD hu)) op2_eq ha hb (nomark _)
theorem it_ne {fa fb : EF} (hu : X.A.units + 64 < cLine) (ha : IE X a fa) (hb : IE X b fb) : IT X (.Compare a [.NotEq] [b] pos) (asT (cOp neW fa fb)) := it_cmp (orR op_ne (op_neD hu)) op2_ne ha hb (nomark _)
theorem it_val {f : EF} (ha : IE X e f) (he : ∀ whole, isTrue e X.env whole = (do let v ← whole; standAt e.pos; holding [v] (truthy v)) := by intro _; rfl) : IT X e (asT f) := by
  refine ⟨fun {Zx Z F φ L ρ σ H w L'} hs ss h Q q => PT.wp (pt_val wpE he) ?_⟩
  refine ha.run hs ss (asT_some h) _ fun F' φ' H' v s1 p1 hs1 r1 => ?_
  cases r1
  exact ⟨w, rfl, q F' φ' H' s1 p1 hs1⟩
/-- truth -/
def truW : W → Option Bool
  | .non => some false
  | .bl b => some b
  | .int i => some (i != 0)
  | .str s => if s.length ≤ 16777216 then some ((s.length : Int) != 0) else none
  | .lst xs => some (!xs.isEmpty)
  | .tup xs => some (!xs.isEmpty)
  | _ => none
theorem Rs.empty {K : PySem.W.Frag} {F : Hp} {φ : List Addr} {ws : List W} {vs : List V} (r : Rs K F φ ws vs) : ws.isEmpty = vs.isEmpty := by cases r <;> rfl
theorem R.tru {K : PySem.W.Frag} {F H : Hp} {φ : List Addr} {w : W} {v : V} {k : Bool} (s : Sub F H) (r : R K F φ w v) (h : truW w = some k) : TruV K v H k := by
  cases r with
  | lst e rs => simp only [truW, Option.some.injEq] at h; exact .inl ⟨_, SqL.of (s _ _ e), by rw [← h, rs.empty]⟩
  | tup e rs => simp only [truW, Option.some.injEq] at h; exact .inr (.inl ⟨_, e.sq s, by rw [← h, rs.empty]⟩)
  | str x =>
    simp only [truW] at h
    split at h
    · simp only [Option.some.injEq] at h
      exact ⟨by rw [sizeLine_eq]; assumption, h.symm⟩
    · cases h
  | non => simp only [truW, Option.some.injEq] at h; exact h.symm
  | bl b => simp only [truW, Option.some.injEq] at h; exact h.symm
  | int b => simp only [truW, Option.some.injEq] at h; exact h.symm
  | _ => cases h
theorem Cont.tru {K : PySem.W.Frag} {F H : Hp} {φ : List Addr} {w : W} {v : V} {k : Bool} (s : Sub F H) (r : Cont K F φ H w v) (h : truW w = some k) : TruV K v H k := by
  rcases r with r | ⟨a, o, m, rfl, rfl, h1, h2⟩
  · exact r.tru s h
  · cases m with
    | lst xs =>
      cases o <;> first | exact h2.elim | skip
      rename_i vs
      simp only [M.fz, truW, Option.some.injEq] at h
      exact .inl ⟨_, SqL.of h1, by rw [← h, Rs.empty h2]⟩
    | dK xs => cases h
    | dT xs => cases h
def cTru (f : EF) : TF := fun ρ L => match f ρ L with
  | some (w, L') => match truW w with
    | some k => some (k, L')
    | none => none
  | none => none
theorem it_tru {f : EF} (ha : IE X e f) (he : ∀ whole, isTrue e X.env whole = (do let v ← whole; standAt e.pos; holding [v] (truthy v)) := by intro _; rfl) : IT X e (cTru f) := by
  refine ⟨fun {Zx Z F φ L ρ σ H w L'} hs ss h Q q => PT.wp (pt_truth wpE he) ?_⟩
  unfold cTru at h
  split at h
  · rename_i x L1 e1
    split at h
    · rename_i k e2
      simp only [Option.some.injEq, Prod.mk.injEq] at h
      obtain ⟨rfl, rfl⟩ := h
      exact ha.run hs ss e1 _ fun F' φ' H' v s1 p1 hs1 r1 => ⟨k, r1.tru hs1.sub e2, q F' φ' H' s1 p1 hs1⟩
    · cases h
  · cases h
def cTruO (f : OF) : TF := fun ρ L => match f ρ L with
  | some (w, L') => match cont ρ L' w with
    | some w => match truW w with
      | some k => some (k, L')
      | none => none
    | none => none
  | none => none
theorem it_truO {f : OF} (ha : IO X e f) (he : ∀ whole, isTrue e X.env whole = (do let v ← whole; standAt e.pos; holding [v] (truthy v)) := by intro _; rfl) : IT X e (cTruO f) := by
  refine ⟨fun {Zx Z F φ L ρ σ H w L'} hs ss h Q q => PT.wp (pt_truth wpE he) ?_⟩
  unfold cTruO at h
  split at h
  · rename_i x L1 e1
    split at h
    · rename_i w' e3
      split at h
      · rename_i k e2
        simp only [Option.some.injEq, Prod.mk.injEq] at h
        obtain ⟨rfl, rfl⟩ := h
        exact ha.run hs ss e1 _ fun F' φ' H' v s1 p1 hs1 r1 => ⟨k, (cont_ok hs1 (ss.mono s1 p1) r1 e3).tru hs1.sub e2, q F' φ' H' s1 p1 hs1⟩
      · cases h
    · cases h
  · cases h
def cNot (f : TF) : TF := fun ρ L => match f ρ L with
  | some (k, L') => some (!k, L')
  | none => none
theorem it_not {f : TF} (ha : IT X a f) : IT X (.UnaryOp .Not a pos) (cNot f) := by
  refine ⟨fun {Zx Z F φ L ρ σ H w L'} hs ss h Q q => PT.wp (pt_not wpT) ?_⟩
  unfold cNot at h
  split at h
  · rename_i k L1 e1
    simp only [Option.some.injEq, Prod.mk.injEq] at h
    obtain ⟨rfl, rfl⟩ := h
    exact ha.run hs ss e1 _ q
  · cases h
def cAnd (f g : TF) : TF := fun ρ L => match f ρ L with
  | some (true, L') => g ρ L'
  | some (false, L') => some (false, L')
  | none => none
def cOr (f g : TF) : TF := fun ρ L => match f ρ L with
  | some (true, L') => some (true, L')
  | some (false, L') => g ρ L'
  | none => none
theorem iw_and1 {f : TF} (ha : IT X a f) : IW X (.BoolOp .And [a] pos) f := ⟨fun hs ss h Q q => PW.wp (pw_and1 wpT) (ha.run hs ss h Q q)⟩
theorem iw_or1 {f : TF} (ha : IT X a f) : IW X (.BoolOp .Or [a] pos) f := ⟨fun hs ss h Q q => PW.wp (pw_or1 wpT) (ha.run hs ss h Q q)⟩
theorem iw_and {f g : TF} (ha : IT X a f) (hb : IW X (.BoolOp .And (b :: es) pos) g) : IW X (.BoolOp .And (a :: b :: es) pos) (cAnd f g) := by
  refine ⟨fun {Zx Z F φ L ρ σ H w L'} hs ss h Q q => PW.wp (pw_and wpT wpW) ?_⟩
  unfold cAnd at h
  split at h
  · rename_i L1 e1
    refine ha.run hs ss e1 _ fun F1 φ1 H1 s1 p1 hs1 => ?_
    rw [if_pos rfl]
    exact hb.run hs1 (ss.mono s1 p1) h Q fun F2 φ2 H2 s2 p2 hs2 => q F2 φ2 H2 (s1.trans s2) (List.IsPrefix.trans p1 p2) hs2
  · rename_i L1 e1
    simp only [Option.some.injEq, Prod.mk.injEq] at h
    obtain ⟨rfl, rfl⟩ := h
    refine ha.run hs ss e1 _ fun F1 φ1 H1 s1 p1 hs1 => ?_
    rw [if_neg (by decide)]
    exact q F1 φ1 H1 s1 p1 hs1
  · cases h
theorem iw_or {f g : TF} (ha : IT X a f) (hb : IW X (.BoolOp .Or (b :: es) pos) g) : IW X (.BoolOp .Or (a :: b :: es) pos) (cOr f g) := by
  refine ⟨fun {Zx Z F φ L ρ σ H w L'} hs ss h Q q => PW.wp (pw_or wpT wpW) ?_⟩
  unfold cOr at h
  split at h
  · rename_i L1 e1
    simp only [Option.some.injEq, Prod.mk.injEq] at h
    obtain ⟨rfl, rfl⟩ := h
    refine ha.run hs ss e1 _ fun F1 φ1 H1 s1 p1 hs1 => ?_
    rw [if_pos rfl]
    exact q F1 φ1 H1 s1 p1 hs1
  · rename_i L1 e1
    refine ha.run hs ss e1 _ fun F1 φ1 H1 s1 p1 hs1 => ?_
    rw [if_neg (by decide)]
    exact hb.run hs1 (ss.mono s1 p1) h Q fun F2 φ2 H2 s2 p2 hs2 => q F2 φ2 H2 (s1.trans s2) (List.IsPrefix.trans p1 p2) hs2
  · cases h
theorem IW.it {f : TF} (h : IW X e f) : IT X e f := ⟨fun hs ss e Q q => PT.wp (PW.pt wpW) (h.run hs ss e Q q)⟩
/-! and, or, not as values -/
def asE (f : TF) : EF := fun ρ L => match f ρ L with
  | some (k, L') => some (.bl k, L')
  | none => none
theorem asE_some {f : TF} {ρ : Ro} {L L' : Lg} {w : W} (h : asE f ρ L = some (w, L')) : ∃ k, w = .bl k ∧ f ρ L = some (k, L') := by
  unfold asE at h
  split at h
  · rename_i k L1 e
    simp only [Option.some.injEq, Prod.mk.injEq] at h
    obtain ⟨rfl, rfl⟩ := h
    exact ⟨k, rfl, e⟩
  · cases h
def cNotV (f : EF) : EF := fun ρ L => match f ρ L with
  | some (.bl k, L') => some (.bl (!k), L')
  | _ => none
theorem ie_not {f : EF} (ha : IE X a f) : IE X (.UnaryOp .Not a pos) (cNotV f) := by
  refine ⟨fun {Zx Z F φ L ρ σ H w L'} hs ss h Q q => PE.wp (pe_not wpE) ?_⟩
  unfold cNotV at h
  split at h
  · rename_i k L1 e1
    simp only [Option.some.injEq, Prod.mk.injEq] at h
    obtain ⟨rfl, rfl⟩ := h
    refine ha.run hs ss e1 _ fun F' φ' H' v s1 p1 hs1 r1 => ?_
    cases r1
    exact ⟨k, rfl, q F' φ' H' _ s1 p1 hs1 (.bl _)⟩
  · cases h
def cAndV (f g : EF) : EF := fun ρ L => match f ρ L with
  | some (.bl true, L') => g ρ L'
  | some (.bl false, L') => some (.bl false, L')
  | _ => none
def cOrV (f g : EF) : EF := fun ρ L => match f ρ L with
  | some (.bl true, L') => some (.bl true, L')
  | some (.bl false, L') => g ρ L'
  | _ => none
theorem ie_one {op} {f : EF} (ha : IE X a f) : IE X (.BoolOp op [a] pos) f := ⟨fun hs ss h Q q => PE.wp (pe_one wpE) (ha.run hs ss h Q q)⟩
theorem ie_and {f g : EF} (ha : IE X a f) (hb : IE X (.BoolOp .And (b :: es) pos) g) : IE X (.BoolOp .And (a :: b :: es) pos) (cAndV f g) := by
  refine ⟨fun {Zx Z F φ L ρ σ H w L'} hs ss h Q q => PE.wp (pe_and wpE wpE) ?_⟩
  unfold cAndV at h
  split at h
  · rename_i L1 e1
    refine ha.run hs ss e1 _ fun F1 φ1 H1 v s1 p1 hs1 r1 => ?_
    cases r1
    refine ⟨true, rfl, ?_⟩
    rw [if_pos rfl]
    exact hb.run hs1 (ss.mono s1 p1) h Q fun F2 φ2 H2 v s2 p2 hs2 => q F2 φ2 H2 v (s1.trans s2) (List.IsPrefix.trans p1 p2) hs2
  · rename_i L1 e1
    simp only [Option.some.injEq, Prod.mk.injEq] at h
    obtain ⟨rfl, rfl⟩ := h
    refine ha.run hs ss e1 _ fun F1 φ1 H1 v s1 p1 hs1 r1 => ?_
    cases r1
    refine ⟨false, rfl, ?_⟩
    rw [if_neg (by decide)]
    exact q F1 φ1 H1 _ s1 p1 hs1 (.bl _)
  · cases h
theorem ie_or {f g : EF} (ha : IE X a f) (hb : IE X (.BoolOp .Or (b :: es) pos) g) : IE X (.BoolOp .Or (a :: b :: es) pos) (cOrV f g) := by
  refine ⟨fun {Zx Z F φ L ρ σ H w L'} hs ss h Q q => PE.wp (pe_or wpE wpE) ?_⟩
  unfold cOrV at h
  split at h
  · rename_i L1 e1
    simp only [Option.some.injEq, Prod.mk.injEq] at h
    obtain ⟨rfl, rfl⟩ := h
    refine ha.run hs ss e1 _ fun F1 φ1 H1 v s1 p1 hs1 r1 => ?_
    cases r1
    refine ⟨true, rfl, ?_⟩
    rw [if_pos rfl]
    exact q F1 φ1 H1 _ s1 p1 hs1 (.bl _)
  · rename_i L1 e1
    refine ha.run hs ss e1 _ fun F1 φ1 H1 v s1 p1 hs1 r1 => ?_
    cases r1
    refine ⟨false, rfl, ?_⟩
    rw [if_neg (by decide)]
    exact hb.run hs1 (ss.mono s1 p1) h Q fun F2 φ2 H2 v s2 p2 hs2 => q F2 φ2 H2 v (s1.trans s2) (List.IsPrefix.trans p1 p2) hs2
  · cases h
def cIf (t : TF) (f g : EF) : EF := fun ρ L => match t ρ L with
  | some (true, L') => f ρ L'
  | some (false, L') => g ρ L'
  | none => none
theorem ie_if {t : TF} {f g : EF} (hc : IT X c t) (ha : IE X a f) (hb : IE X b g) : IE X (.IfExp c a b pos) (cIf t f g) := by
  refine ⟨fun {Zx Z F φ L ρ σ H w L'} hs ss h Q q => PE.wp (pe_ifExp wpT wpE wpE) ?_⟩
  unfold cIf at h
  split at h
  · rename_i L1 e1
    refine hc.run hs ss e1 _ fun F1 φ1 H1 s1 p1 hs1 => ?_
    rw [if_pos rfl]
    exact ha.run hs1 (ss.mono s1 p1) h Q fun F2 φ2 H2 v s2 p2 hs2 => q F2 φ2 H2 v (s1.trans s2) (List.IsPrefix.trans p1 p2) hs2
  · rename_i L1 e1
    refine hc.run hs ss e1 _ fun F1 φ1 H1 s1 p1 hs1 => ?_
    rw [if_neg (by decide)]
    exact hb.run hs1 (ss.mono s1 p1) h Q fun F2 φ2 H2 v s2 p2 hs2 => q F2 φ2 H2 v (s1.trans s2) (List.IsPrefix.trans p1 p2) hs2
  · cases h

/-! ### arguments, displays -/
def cNil : AF := fun _ L => some ([], L)
def cCons (f : EF) (g : AF) : AF := fun ρ L => match f ρ L with
  | none => none
  | some (w, L1) => match g ρ L1 with
    | none => none
    | some (ws, L2) => some (w :: ws, L2)
theorem ia_nil : IA X [] cNil := by
  refine ⟨fun {Zx Z F φ L ρ σ H w L'} hs ss h Q q => PA.wp pa_nil ?_⟩
  simp only [cNil, Option.some.injEq, Prod.mk.injEq] at h
  obtain ⟨rfl, rfl⟩ := h
  exact q F φ H [] (Sub.refl F) (List.prefix_refl φ) hs .nil
theorem ia_cons {f : EF} {g : AF} (ha : IE X e f) (hr : IA X es g) (hs' : starEach (e :: es) X.env = (false, eval e X.env) :: starEach es X.env := by rfl) : IA X (e :: es) (cCons f g) := by
  refine ⟨fun {Zx Z F φ L ρ σ H w L'} hs ss h Q q => PA.wp (pa_cons wpE wpA hs') ?_⟩
  unfold cCons at h
  split at h
  · cases h
  rename_i x L1 e1
  split at h
  · cases h
  rename_i xs L2 e2
  simp only [Option.some.injEq, Prod.mk.injEq] at h
  obtain ⟨rfl, rfl⟩ := h
  refine ha.run hs ss e1 _ fun F1 φ1 H1 v s1 p1 hs1 r1 => ?_
  exact hr.run hs1 (ss.mono s1 p1) e2 _ fun F2 φ2 H2 vs s2 p2 hs2 r2 => q F2 φ2 H2 (v :: vs) (s1.trans s2) (List.IsPrefix.trans p1 p2) hs2 (.cons (r1.mono s2 p2) r2)
def cTup (g : AF) : EF := fun ρ L => match g ρ L with
  | none => none
  | some (ws, L1) => if ws.length ≤ 1000 then some (.tup ws, L1) else none
theorem ie_tup {g : AF} {k} (h : IA X es g) : IE X (.Tuple es k pos) (cTup g) := by
  refine ⟨fun {Zx Z F φ L ρ σ H w L'} hs ss h' Q q => PE.wp (pe_tup wpA) ?_⟩
  unfold cTup at h'
  split at h'
  · cases h'
  rename_i ws L1 e1
  split at h'
  · rename_i hz
    simp only [Option.some.injEq, Prod.mk.injEq] at h'
    obtain ⟨rfl, rfl⟩ := h'
    refine h.run hs ss e1 _ fun F1 φ1 H1 vs s1 p1 hs1 r1 => ⟨by rw [← r1.length, sizeLine_eq]; omega, fun p hp => ?_⟩
    exact newT (Q := Q) hs1 r1 (fun F' H' v s2 hs2 r2 => q F' φ1 H' v (s1.trans s2) p1 hs2 r2) hp
  · cases h'
def cLst (g : AF) : NF := fun ρ L => match g ρ L with
  | none => none
  | some (ws, L1) => if ws.length ≤ 1000 then some (.lst ws, L1) else none
theorem in_lst {g : AF} (h : IA X es g) : IN X (.List es pos) (cLst g) := by
  refine ⟨fun {Zx Z F φ L ρ σ H w L'} hs ss h' Q q => PE.wp (pe_lst wpA) ?_⟩
  unfold cLst at h'
  split at h'
  · cases h'
  rename_i ws L1 e1
  split at h'
  · rename_i hz
    simp only [Option.some.injEq, Prod.mk.injEq] at h'
    obtain ⟨rfl, rfl⟩ := h'
    refine h.run hs ss e1 _ fun F1 φ1 H1 vs s1 p1 hs1 r1 => ⟨by rw [← r1.length, sizeLine_eq]; omega, fun p hp => ?_⟩
    exact q F1 φ1 _ p (.lst vs) s1 p1 (hs1.free hp).2.1 (hs1.fresh hp) r1
  · cases h'
theorem in_dictK : IN X (.Dict [] [] pos) (fun _ L => some (.dK [], L)) := by
  refine ⟨fun {Zx Z F φ L ρ σ H w L'} hs ss h' Q q => PE.wp pe_dnewK fun p hp => ?_⟩
  simp only [Option.some.injEq, Prod.mk.injEq] at h'
  obtain ⟨rfl, rfl⟩ := h'
  exact q F φ _ p (.dK []) (Sub.refl F) (List.prefix_refl φ) (hs.free hp).2.1 (hs.fresh hp) ⟨rfl, .nil⟩
theorem in_dictT : IN X (.Dict [] [] pos) (fun _ L => some (.dT [], L)) := by
  refine ⟨fun {Zx Z F φ L ρ σ H w L'} hs ss h' Q q => PE.wp pe_dnewT fun p hp => ?_⟩
  simp only [Option.some.injEq, Prod.mk.injEq] at h'
  obtain ⟨rfl, rfl⟩ := h'
  exact q F φ _ p (.dT []) (Sub.refl F) (List.prefix_refl φ) (hs.free hp).2.1 (hs.fresh hp) ⟨rfl, .nil⟩
/-- a new thing, frozen at once -/
def cFz (f : NF) : EF := fun ρ L => match f ρ L with
  | none => none
  | some (m, L') => some (m.fz, L')
theorem IN.fz {f : NF} (h : IN X e f) : IE X e (cFz f) := by
  refine ⟨fun {Zx Z F φ L ρ σ H w L'} hs ss h' Q q => ?_⟩
  unfold cFz at h'
  split at h'
  · cases h'
  rename_i m L1 e1
  simp only [Option.some.injEq, Prod.mk.injEq] at h'
  obtain ⟨rfl, rfl⟩ := h'
  refine h.run hs ss e1 Q fun F1 φ1 H1 p o s1 p1 z hs1 m1 => ?_
  obtain ⟨h1, h2⟩ := hs1.freeze z
  exact q _ φ1 H1 _ (s1.trans h2) p1 h1 ((m1.mono h2 (List.prefix_refl φ1)).fz upd_same)
/-- a new thing, numbered -/
def cBox (f : NF) : EF := fun ρ L => match f ρ L with
  | none => none
  | some (m, L') => some (.ob L'.length, L' ++ [.box m])
theorem IN.box {f : NF} (h : IN X e f) : IE X e (cBox f) := by
  refine ⟨fun {Zx Z F φ L ρ σ H w L'} hs ss h' Q q => ?_⟩
  unfold cBox at h'
  split at h'
  · cases h'
  rename_i m L1 e1
  simp only [Option.some.injEq, Prod.mk.injEq] at h'
  obtain ⟨rfl, rfl⟩ := h'
  refine h.run hs ss e1 Q fun F1 φ1 H1 p o s1 p1 z hs1 m1 => ?_
  refine q F1 (φ1 ++ [p]) H1 _ s1 (List.IsPrefix.trans p1 (List.prefix_append _ _)) (hs1.box z m1) (.ob ?_)
  rw [← hs1.len, List.getElem?_append_right (Nat.le_refl _)]; simp

/-! ### containers in their places -/
def cOf (f : EF) : OF := fun ρ L => match f ρ L with
  | none => none
  | some (w, L') => some (.val w, L')
theorem IE.io {f : EF} (h : IE X e f) : IO X e (cOf f) := by
  refine ⟨fun {Zx Z F φ L ρ σ H w L'} hs ss h' Q q => ?_⟩
  unfold cOf at h'
  split at h'
  · cases h'
  rename_i m L1 e1
  simp only [Option.some.injEq, Prod.mk.injEq] at h'
  obtain ⟨rfl, rfl⟩ := h'
  exact h.run hs ss e1 Q q
def cOwn (i : Nat) : OF := fun ρ L => match ρ[i]? with
  | some (.ow _) => some (.own i, L)
  | _ => none
theorem io_own (i : Nat) {x : Str} (hN : X.N[i]? = some x := by rfl) (hv : Vis X.env.scope x := by first | exact Or.inl rfl | exact Or.inr (Or.inl rfl) | exact Or.inr (Or.inr rfl)) (hd : (x == ("__debug__" : Str)) = false := by decide)
    (hcd : (x == ("__classdict__" : Str)) = false := by decide) : IO X (.Name x pos) (cOwn i) := by
  refine ⟨fun {Zx Z F φ L ρ σ H w L'} hs ss h Q q => PE.wp (pe_var hN hv hd hcd) ?_⟩
  unfold cOwn at h
  split at h
  · rename_i m e
    simp only [Option.some.injEq, Prod.mk.injEq] at h
    obtain ⟨rfl, rfl⟩ := h
    obtain ⟨a, o, h1, h2, h3, h4⟩ := ss.ow i m e
    exact ⟨.ref a, h1, q F φ H _ (Sub.refl F) (List.prefix_refl φ) hs ⟨h1, m, e⟩⟩
  · cases h

/-! ### subscripts -/
def cIx (g : W → W → Option W) (fo : OF) (fi : EF) : EF := fun ρ L => match fo ρ L with
  | none => none
  | some (h, L1) => match fi ρ L1 with
    | none => none
    | some (i, L2) => match cont ρ L2 h with
      | none => none
      | some w => match g w i with
        | none => none
        | some r => some (r, L2)
def ixW : W → W → Option W
  | .lst xs, .int i => atI xs i
  | .tup xs, .int i => atI xs i
  | .kt xs, .int i => atI xs i
  | .str s, .int i => if s.length ≤ 16777216 then (match atI s.cps.toList i with
    | some c => some (.str ⟨#[c]⟩)
    | none => none) else none
  | .scr ns, .int i => match atI ns i with
    | some n => some (.int n)
    | none => none
  | _, _ => none
theorem Rs.at {K : PySem.W.Frag} {F : Hp} {φ : List Addr} {ws : List W} {vs : List V} {i : Int} {w : W} (r : Rs K F φ ws vs) (h : atI ws i = some w) : ∃ v, atI vs i = some v ∧ R K F φ w v := by
  unfold atI at h ⊢
  rw [← r.length]
  cases e : ixN ws.length i with
  | none => rw [e] at h; cases h
  | some j =>
    rw [e] at h
    obtain ⟨v, h1, h2⟩ := r.get (i := j) h
    exact ⟨v, h1, h2⟩
theorem atI_map {α β : Type} (f : α → β) (xs : List α) (i : Int) : atI (xs.map f) i = (atI xs i).map f := by
  unfold atI
  rw [List.length_map]
  cases ixN xs.length i <;> simp
theorem ie_ix {fo : OF} {fi : EF} (hc : IO X a fo) (hi : IE X b fi) (hs' : PlainIx b := by intro _ _; rfl) : IE X (.Subscript a b pos) (cIx ixW fo fi) := by
  refine ⟨fun {Zx Z F φ L ρ σ H w L'} hs ss h Q q => PE.wp (pe_ix ix_seq wpE wpE hs') ?_⟩
  unfold cIx at h
  split at h
  · cases h
  rename_i hd L1 e1
  split at h
  · cases h
  rename_i i L2 e2
  split at h
  · cases h
  rename_i w0 e3
  split at h
  · cases h
  rename_i r e4
  simp only [Option.some.injEq, Prod.mk.injEq] at h
  obtain ⟨rfl, rfl⟩ := h
  refine hc.run hs ss e1 _ fun F1 φ1 H1 vo s1 p1 hs1 r1 => ?_
  refine hi.run hs1 (ss.mono s1 p1) e2 _ fun F2 φ2 H2 vi s2 p2 hs2 r2 => ?_
  have r1' : HR X.K F2 φ2 ρ σ hd vo := by
    cases hd with
    | val w => exact R.mono s2 p2 r1
    | own i => exact r1
  have s12 := s1.trans s2
  have p12 := List.IsPrefix.trans p1 p2
  have fin : ∀ v, R X.K F2 φ2 r v → Q v H2 := fun v rv => q F2 φ2 H2 v s12 p12 hs2 rv
  show rIx X.K vo vi H2 Q
  rcases cont_ok hs2 (ss.mono s12 p12) r1' e3 with rc | ⟨aa, o, m, rfl, rfl, ha, hm⟩
  · unfold ixW at e4
    split at e4
    · cases r2
      cases rc with
      | lst h1 h2 =>
        obtain ⟨v, k1, k2⟩ := h2.at e4
        exact .inl ⟨_, _, _, v, rfl, rfl, SqL.of (hs2.sub _ _ h1), k1, fin v k2⟩
    · cases r2
      cases rc with
      | tup h1 h2 =>
        obtain ⟨v, k1, k2⟩ := h2.at e4
        exact .inr (.inl ⟨_, _, _, v, rfl, rfl, h1.sq hs2.sub, k1, fin v k2⟩)
    · cases r2
      cases rc with
      | kt h1 h2 =>
        obtain ⟨v, k1, k2⟩ := h2.at e4
        exact .inr (.inl ⟨_, _, _, v, rfl, rfl, h1.sq, k1, fin v k2⟩)
    · cases r2
      cases rc
      split at e4
      · split at e4
        · rename_i hz _ c hc'
          simp only [Option.some.injEq] at e4
          subst e4
          exact .inr (.inr ⟨_, _, c, rfl, rfl, by rw [sizeLine_eq]; exact hz, hc', fin _ (.str _)⟩)
        · cases e4
      · cases e4
    · cases r2
      cases rc with
      | scr h1 =>
        split at e4
        · rename_i n hn
          simp only [Option.some.injEq] at e4
          subst e4
          exact .inl ⟨_, _, _, .int n, rfl, rfl, SqL.mono hs2.sub h1, by rw [atI_map, hn]; rfl, fin _ (.int _)⟩
        · cases e4
    · cases e4
  · cases m with
    | lst xs =>
      cases o <;> first | exact hm.elim | skip
      rename_i vs
      unfold ixW at e4
      simp only [M.fz] at e4
      split at e4
      · rename_i e5
        cases e5
        cases r2
        obtain ⟨v, k1, k2⟩ := Rs.at hm e4
        exact .inl ⟨_, _, _, v, rfl, rfl, SqL.of ha, k1, fin v k2⟩
      all_goals first | (rename_i e5; cases e5) | cases e4
    | dK xs => cases e4
    | dT xs => cases e4
end
end Lf

set_option maxHeartbeats 4000000
/-! Lf, part D: targets, what is walked, list comprehensions, statements, defs. -/
namespace Lf
open PySem PySem.Spec PyProof.Rows L2

def WpG (X : Cx) (tg : Expr) : TG := fun v σ H Q => ∀ (pins : List (Addr × Obj)) (s : Shared) (u : Value), Inv X pins σ H s → RelV v u → wpAny (model X.prog X.w) X.A (assign tg X.env u) (fun _ s' => ∃ σ' H', Inv X pins σ' H' s' ∧ Q σ' H') X.xe s
theorem wpG {X : Cx} {tg : Expr} : PG X tg (WpG X tg) := ⟨fun pins s σ H v u Q I r h => h pins s u I r⟩
theorem PG.wp {X : Cx} {tg : Expr} {t : TG} (h : PG X tg t) {v : V} {σ : L2.St} {H : Hp} {Q : L2.St → Hp → Prop} (q : t v σ H Q) : WpG X tg v σ H Q := fun pins s u I r => h.run pins s σ H v u Q I r q
def WpGs (X : Cx) (ts : List Expr) : TGs := fun vs σ H Q => ∀ (pins : List (Addr × Obj)) (s : Shared) (us : List Value), Inv X pins σ H s → Vals vs us → wpAny (model X.prog X.w) X.A (assignInOrder ((assignEach ts X.env).map (·.2)) us) (fun _ s' => ∃ σ' H', Inv X pins σ' H' s' ∧ Q σ' H') X.xe s
theorem wpGs {X : Cx} {ts : List Expr} : PGs X ts (WpGs X ts) := ⟨fun pins s σ H vs us Q I r h => h pins s us I r⟩
theorem PGs.wp {X : Cx} {ts : List Expr} {t : TGs} (h : PGs X ts t) {vs : List V} {σ : L2.St} {H : Hp} {Q : L2.St → Hp → Prop} (q : t vs σ H Q) : WpGs X ts vs σ H Q := fun pins s us I r => h.run pins s σ H vs us Q I r q
def WpI (X : Cx) (tg iter : Expr) : TI := fun σ H R => ∀ (pins : List (Addr × Obj)) (s : Shared), Inv X pins σ H s →
    wpAny (model X.prog X.w) X.A (eval iter X.env) (fun v s1 => wpAny (model X.prog X.w) X.A (pyIter v) (PIE X pins σ tg R) X.xe s1) X.xe s
theorem wpI {X : Cx} {tg iter : Expr} : PI X tg iter (WpI X tg iter) := ⟨fun pins s σ H R I h => h pins s I⟩
theorem PI.wp {X : Cx} {tg iter : Expr} {wi : TI} (h : PI X tg iter wi) {σ : L2.St} {H : Hp} {R : It → Hp → Prop} (q : wi σ H R) : WpI X tg iter σ H R := fun pins s I => h.run pins s σ H R I q

/-! ### slots set -/
theorem wipe_get (σ : L2.St) : ∀ (vs : List Nat) (j : Nat), (wipe σ vs)[j]? = if j ∈ vs then (σ[j]?).map (fun _ => none) else σ[j]?
  | [], j => by simp [wipe]
  | v :: vs, j => by
    unfold wipe
    rw [List.getElem?_set, wipe_length, wipe_get σ vs j]
    by_cases h : v = j
    · subst h
      simp only [if_true, List.mem_cons, true_or]
      by_cases hl : v < σ.length
      · rw [if_pos hl, List.getElem?_eq_getElem hl]; rfl
      · rw [if_neg hl, List.getElem?_eq_none (by omega)]; rfl
    · have h' : ¬ j = v := fun e => h e.symm
      simp only [if_neg h, List.mem_cons, h', false_or]
theorem wipe_set {σ : L2.St} {vs : List Nat} {i : Nat} {x : Option V} (h : i ∈ vs) : wipe (σ.set i x) vs = wipe σ vs := by
  apply List.ext_getElem?
  intro j
  rw [wipe_get, wipe_get]
  by_cases hj : j ∈ vs
  · rw [if_pos hj, if_pos hj, List.getElem?_set]
    by_cases e : i = j
    · subst e
      by_cases hl : i < σ.length
      · simp [hl]
      · simp [hl]
    · simp [e]
  · have e : ¬ i = j := fun e => hj (e ▸ h)
    rw [if_neg hj, if_neg hj, List.getElem?_set]
    simp [e]
theorem wipe_wipe (σ : L2.St) (vs : List Nat) : wipe (wipe σ vs) vs = wipe σ vs := by
  apply List.ext_getElem?
  intro j
  rw [wipe_get, wipe_get]
  by_cases hj : j ∈ vs
  · rw [if_pos hj, if_pos hj]; cases σ[j]? <;> rfl
  · rw [if_neg hj, if_neg hj]
def wipeR (ρ : Ro) (vs : List Nat) : Ro := vs.foldr (fun v r => r.set v .un) ρ
theorem wipeR_get (ρ : Ro) : ∀ (vs : List Nat) (j : Nat), (wipeR ρ vs)[j]? = if j ∈ vs then (ρ[j]?).map (fun _ => .un) else ρ[j]?
  | [], j => by simp [wipeR]
  | v :: vs, j => by
    have ih := wipeR_get ρ vs j
    have hl : (wipeR ρ vs).length = ρ.length := by
      clear ih
      induction vs with
      | nil => rfl
      | cons a r ih => show ((wipeR ρ r).set a .un).length = _; rw [List.length_set, ih]
    show ((wipeR ρ vs).set v .un)[j]? = _
    rw [List.getElem?_set, hl, ih]
    by_cases h : v = j
    · subst h
      simp only [if_true, List.mem_cons, true_or]
      by_cases hl : v < ρ.length
      · rw [if_pos hl, List.getElem?_eq_getElem hl]; rfl
      · rw [if_neg hl, List.getElem?_eq_none (by omega)]; rfl
    · have h' : ¬ j = v := fun e => h e.symm
      simp only [if_neg h, List.mem_cons, h', false_or]
theorem wipeR_length (ρ : Ro) : ∀ vs : List Nat, (wipeR ρ vs).length = ρ.length
  | [] => rfl
  | v :: vs => by show ((wipeR ρ vs).set v .un).length = _; rw [List.length_set, wipeR_length ρ vs]
section
variable {K : PySem.W.Frag} {Zx Z F : Hp} {φ : List Addr} {ρ : Ro} {σ : L2.St}
theorem Ss.wiped (h : Ss K Zx Z F φ ρ σ) (vs : List Nat) : Ss K Zx Z F φ (wipeR ρ vs) (wipe σ vs) := by
  have key : ∀ {i : Nat} {x : Sl}, (wipeR ρ vs)[i]? = some x → x ≠ .un → i ∉ vs ∧ ρ[i]? = some x := fun {i x} e n => by
    rw [wipeR_get] at e
    by_cases hi : i ∈ vs
    · rw [if_pos hi] at e
      cases q : ρ[i]? with
      | none => rw [q] at e; cases e
      | some y => rw [q] at e; simp at e; exact absurd e.symm n
    · rw [if_neg hi] at e; exact ⟨hi, e⟩
  refine ⟨by rw [wipeR_length, wipe_length, h.len], fun i w e => ?_, fun i m e => ?_, fun i j m m' a e1 e2 e3 e4 => ?_, h.out⟩
  · obtain ⟨hi, e'⟩ := key e (fun z => by cases z)
    obtain ⟨v, h1, h2⟩ := h.va i w e'
    exact ⟨v, by rw [wipe_get, if_neg hi]; exact h1, h2⟩
  · obtain ⟨hi, e'⟩ := key e (fun z => by cases z)
    obtain ⟨a, o, h1, h2⟩ := h.ow i m e'
    exact ⟨a, o, by rw [wipe_get, if_neg hi]; exact h1, h2⟩
  · obtain ⟨hi, e1'⟩ := key e1 (fun z => by cases z)
    obtain ⟨hj, e2'⟩ := key e2 (fun z => by cases z)
    rw [wipe_get, if_neg hi] at e3
    rw [wipe_get, if_neg hj] at e4
    exact h.sep i j m m' a e1' e2' e3 e4
theorem Ss.setva {i : Nat} {w : W} {v : V} (h : Ss K Zx Z F φ ρ σ) (hi : i < ρ.length) (r : R K F φ w v) : Ss K Zx Z F φ (ρ.set i (.va w)) (σ.set i (some v)) := by
  have hi' : i < σ.length := by rw [← h.len]; exact hi
  refine ⟨by simp [h.len], fun j w' e => ?_, fun j m e => ?_, fun j k m m' a e1 e2 e3 e4 => ?_, h.out⟩
  · by_cases q : i = j
    · subst q
      rw [List.getElem?_set_self hi] at e; cases e
      exact ⟨v, by rw [List.getElem?_set_self hi'], r⟩
    · rw [List.getElem?_set_ne q] at e ⊢; exact h.va j w' e
  · by_cases q : i = j
    · subst q; rw [List.getElem?_set_self hi] at e; cases e
    · rw [List.getElem?_set_ne q] at e ⊢; exact h.ow j m e
  · by_cases q : i = j
    · subst q; rw [List.getElem?_set_self hi] at e1; cases e1
    · by_cases q' : i = k
      · subst q'; rw [List.getElem?_set_self hi] at e2; cases e2
      · rw [List.getElem?_set_ne q] at e1 e3
        rw [List.getElem?_set_ne q'] at e2 e4
        exact h.sep j k m m' a e1 e2 e3 e4
/-- a slot takes a new thing -/
theorem Ss.setow {i : Nat} {m : M} {p : Addr} {o : HO} (h : Ss K Zx Z F φ ρ σ) (hi : i < ρ.length) (hz : Z p = none) (r : MOk K F φ m o) : Ss K Zx (upd Z p o) F φ (ρ.set i (.ow m)) (σ.set i (some (.ref p))) := by
  have hi' : i < σ.length := by rw [← h.len]; exact hi
  have hx : Zx p = none := by
    cases e : Zx p with
    | none => rfl
    | some u => rw [h.out p u e] at hz; cases hz
  have no : ∀ {j : Nat} {m' : M}, ρ[j]? = some (.ow m') → σ[j]? ≠ some (some (.ref p)) := fun {j m'} e e' => by
    obtain ⟨a, u, h1, h2, _⟩ := h.ow j m' e
    rw [e'] at h1; cases h1
    rw [hz] at h2; cases h2
  refine ⟨by simp [h.len], fun j w' e => ?_, fun j m' e => ?_, fun j k m1 m2 a e1 e2 e3 e4 => ?_, fun a u e => ?_⟩
  · by_cases q : i = j
    · subst q; rw [List.getElem?_set_self hi] at e; cases e
    · rw [List.getElem?_set_ne q] at e ⊢; exact h.va j w' e
  · by_cases q : i = j
    · subst q
      rw [List.getElem?_set_self hi] at e; cases e
      exact ⟨p, o, by rw [List.getElem?_set_self hi'], upd_same, hx, r⟩
    · rw [List.getElem?_set_ne q] at e ⊢
      obtain ⟨a, u, h1, h2, h3, h4⟩ := h.ow j m' e
      exact ⟨a, u, h1, by rw [upd_ne (ne_of_none h2 hz)]; exact h2, h3, h4⟩
  · by_cases q : i = j
    · subst q
      rw [List.getElem?_set_self hi'] at e3; simp at e3; subst e3
      by_cases q' : i = k
      · exact q'
      · rw [List.getElem?_set_ne q'] at e2 e4
        exact absurd e4 (no e2)
    · rw [List.getElem?_set_ne q] at e1 e3
      by_cases q' : i = k
      · subst q'
        rw [List.getElem?_set_self hi'] at e4; simp at e4; subst e4
        exact absurd e3 (no e1)
      · rw [List.getElem?_set_ne q'] at e2 e4
        exact h.sep j k m1 m2 a e1 e2 e3 e4
  · rw [upd_ne (ne_of_none e hx)]; exact h.out a u e
/-- a slot's own thing is changed -/
theorem Ss.turn {i : Nat} {m m' : M} {p : Addr} {o : HO} (h : Ss K Zx Z F φ ρ σ) (e : ρ[i]? = some (.ow m)) (es : σ[i]? = some (some (.ref p))) (r : MOk K F φ m' o) : Ss K Zx (upd Z p o) F φ (ρ.set i (.ow m')) σ := by
  have hi : i < ρ.length := (List.getElem?_eq_some_iff.mp e).1
  obtain ⟨a, u, h1, h2, h3, h4⟩ := h.ow i m e
  rw [es] at h1; cases h1
  refine ⟨by simp [h.len], fun j w' e' => ?_, fun j m2 e' => ?_, fun j k m1 m2 a e1 e2 e3 e4 => ?_, fun a u e' => ?_⟩
  · by_cases q : i = j
    · subst q; rw [List.getElem?_set_self hi] at e'; cases e'
    · rw [List.getElem?_set_ne q] at e'; exact h.va j w' e'
  · by_cases q : i = j
    · subst q
      rw [List.getElem?_set_self hi] at e'; cases e'
      exact ⟨p, o, es, upd_same, h3, r⟩
    · rw [List.getElem?_set_ne q] at e'
      obtain ⟨b, u', g1, g2, g3, g4⟩ := h.ow j m2 e'
      have : b ≠ p := fun z => by subst z; exact q (h.sep i j m m2 _ e e' es g1)
      exact ⟨b, u', g1, by rw [upd_ne this]; exact g2, g3, g4⟩
  · have old : ∀ {j : Nat} {m1 : M}, (ρ.set i (.ow m'))[j]? = some (.ow m1) → ∃ m2, ρ[j]? = some (.ow m2) := fun {j m1} q => by
      by_cases z : i = j
      · subst z; exact ⟨m, e⟩
      · rw [List.getElem?_set_ne z] at q; exact ⟨m1, q⟩
    obtain ⟨n1, q1⟩ := old e1
    obtain ⟨n2, q2⟩ := old e2
    exact h.sep j k n1 n2 a q1 q2 e3 e4
  · rw [upd_ne (fun z => by subst z; rw [h3] at e'; cases e')]; exact h.out a u e'
/-- a slot's own thing is frozen -/
theorem Ss.frozen {mg : Str → Option Value} {L : Lg} {H : Hp} {i : Nat} {m : M} (hs : Hs K mg Z F φ L H) (h : Ss K Zx Z F φ ρ σ) (e : ρ[i]? = some (.ow m)) :
    ∃ Z' F', Sub F F' ∧ Hs K mg Z' F' φ L H ∧ Ss K Zx Z' F' φ (ρ.set i (.va m.fz)) σ := by
  have hi : i < ρ.length := (List.getElem?_eq_some_iff.mp e).1
  obtain ⟨p, o, h1, h2, h3, h4⟩ := h.ow i m e
  let Z' : Hp := fun b => if b = p then none else Z b
  have zp : Z' p = none := by show (if p = p then none else Z p) = none; rw [if_pos rfl]
  have zn : ∀ b, b ≠ p → Z' b = Z b := fun b q => by show (if b = p then none else Z b) = Z b; rw [if_neg q]
  have hz : Z = upd Z' p o := by
    funext b
    by_cases q : b = p
    · subst q; rw [upd_same]; exact h2
    · rw [upd_ne q, zn b q]
  have hs' : Hs K mg (upd Z' p o) F φ L H := by rw [← hz]; exact hs
  obtain ⟨k1, k2⟩ := hs'.freeze zp
  refine ⟨Z', _, k2, k1, ?_⟩
  refine ⟨by simp [h.len], fun j w' e' => ?_, fun j m2 e' => ?_, fun j k m1 m2 a e1 e2 e3 e4 => ?_, fun a u e' => ?_⟩
  · by_cases q : i = j
    · subst q; rw [List.getElem?_set_self hi] at e'; cases e'
      exact ⟨_, h1, (h4.mono k2 (List.prefix_refl φ)).fz upd_same⟩
    · rw [List.getElem?_set_ne q] at e'
      obtain ⟨v, g1, g2⟩ := h.va j w' e'
      exact ⟨v, g1, g2.mono k2 (List.prefix_refl φ)⟩
  · by_cases q : i = j
    · subst q; rw [List.getElem?_set_self hi] at e'; cases e'
    · rw [List.getElem?_set_ne q] at e'
      obtain ⟨b, u', g1, g2, g3, g4⟩ := h.ow j m2 e'
      have : b ≠ p := fun z => by subst z; exact q (h.sep i j m m2 _ e e' h1 g1)
      exact ⟨b, u', g1, by rw [zn b this]; exact g2, g3, g4.mono k2 (List.prefix_refl φ)⟩
  · by_cases q : i = j
    · subst q; rw [List.getElem?_set_self hi] at e1; cases e1
    · by_cases q' : i = k
      · subst q'; rw [List.getElem?_set_self hi] at e2; cases e2
      · rw [List.getElem?_set_ne q] at e1
        rw [List.getElem?_set_ne q'] at e2
        exact h.sep j k m1 m2 a e1 e2 e3 e4
  · rw [zn a (fun z => by subst z; rw [h3] at e'; cases e')]; exact h.out a u e'
end

/-! ### targets -/
abbrev GF := W → Ro → Option Ro
abbrev GsF := List W → Ro → Option Ro
structure IG (X : Cx) (tg : Expr) (ix : List Nat) (g : GF) : Prop where
  run : ∀ {Zx Z F : Hp} {φ : List Addr} {L : Lg} {ρ ρ' : Ro} {σ : L2.St} {H : Hp} {w : W} {v : V}, Hs X.K X.mg Z F φ L H → Ss X.K Zx Z F φ ρ σ → R X.K F φ w v → g w ρ = some ρ' →
    ∀ Q : L2.St → Hp → Prop, (∀ σ', Ss X.K Zx Z F φ ρ' σ' → (∀ vs, (∀ i ∈ ix, i ∈ vs) → wipe σ' vs = wipe σ vs) → Q σ' H) → WpG X tg v σ H Q
structure IGs (X : Cx) (ts : List Expr) (ix : List Nat) (g : GsF) : Prop where
  run : ∀ {Zx Z F : Hp} {φ : List Addr} {L : Lg} {ρ ρ' : Ro} {σ : L2.St} {H : Hp} {w : List W} {v : List V}, Hs X.K X.mg Z F φ L H → Ss X.K Zx Z F φ ρ σ → Rs X.K F φ w v → g w ρ = some ρ' →
    ∀ Q : L2.St → Hp → Prop, (∀ σ', Ss X.K Zx Z F φ ρ' σ' → (∀ vs, (∀ i ∈ ix, i ∈ vs) → wipe σ' vs = wipe σ vs) → Q σ' H) → WpGs X ts v σ H Q
section
variable {X : Cx} {e : Expr} {es : List Expr} {pos : Pos}
def gN (i : Nat) : GF := fun w ρ => if i < ρ.length then some (ρ.set i (.va w)) else none
theorem ig_name (i : Nat) {x : Str} (hN : X.N.Nodup) (hi : X.N[i]? = some x) (hx : Loc X.env.scope x) (hf : X.fn x = true ∨ X.env.scope.names.lookup x = some .local := by first | exact .inl rfl | exact .inr rfl | assumption) : IG X (.Name x pos) [i] (gN i) := by
  refine ⟨fun {Zx Z F φ L ρ ρ' σ H w v} hs ss r h Q q => PG.wp (pg_name hN hi hx hf) ?_⟩
  unfold gN at h
  split at h
  · rename_i hl
    simp only [Option.some.injEq] at h
    subst h
    exact q _ (ss.setva hl r) fun vs hv => wipe_set (hv i (by simp))
  · cases h
def gsN : GsF := fun ws ρ => match ws with
  | [] => some ρ
  | _ => none
def gsC (g : GF) (k : GsF) : GsF := fun ws ρ => match ws with
  | [] => none
  | w :: r => match g w ρ with
    | none => none
    | some ρ1 => k r ρ1
theorem igs_nil : IGs X [] [] gsN := by
  refine ⟨fun {Zx Z F φ L ρ ρ' σ H w v} hs ss r h Q q => PGs.wp pgs_nil ?_⟩
  unfold gsN at h
  split at h
  · simp only [Option.some.injEq] at h
    subst h
    cases r
    exact ⟨rfl, q σ ss fun _ _ => rfl⟩
  · cases h
theorem igs_cons {ix jx : List Nat} {g : GF} {k : GsF} (h1 : IG X e ix g) (h2 : IGs X es jx k) (hs' : (assignEach (e :: es) X.env).map (·.2) = assign e X.env :: (assignEach es X.env).map (·.2) := by rfl) : IGs X (e :: es) (ix ++ jx) (gsC g k) := by
  refine ⟨fun {Zx Z F φ L ρ ρ' σ H w v} hs ss r h Q q => PGs.wp (pgs_cons wpG wpGs hs') ?_⟩
  unfold gsC at h
  split at h
  · cases h
  rename_i w1 wr
  split at h
  · cases h
  rename_i ρ1 e1
  cases r with
  | cons r1 rr =>
    refine ⟨_, _, rfl, h1.run hs ss r1 e1 _ fun σ1 ss1 k1 => ?_⟩
    exact h2.run hs ss1 rr h Q fun σ2 ss2 k2 => q σ2 ss2 fun vs hv => (k2 vs fun i hi => hv i (List.mem_append_right _ hi)).trans (k1 vs fun i hi => hv i (List.mem_append_left _ hi))
def gTupW (n : Nat) (k : GsF) : GF := fun w ρ => match w with
  | .tup ws => if ws.length = n then k ws ρ else none
  | .kt ws => if ws.length = n then k ws ρ else none
  | _ => none
theorem ig_tup {j : Nat} {ix : List Nat} {k : GsF} {n : Nat} (hc : X.calm = true) (h : IGs X es ix k)
    (hn : (assignEach es X.env).length = n := by rfl) (hst : (assignEach es X.env).findIdx? (·.1) = none := by rfl) : IG X (.Tuple es j pos) ix (gTupW n k) := by
  refine ⟨fun {Zx Z F φ L ρ ρ' σ H w v} hs ss r h' Q q => PG.wp (pg_tup hc wpGs hn hst) ?_⟩
  unfold gTupW at h'
  split at h'
  · split at h'
    · rename_i ws hl
      cases r with
      | tup h1 r1 => exact ⟨_, _, rfl, h1.sq hs.sub, by rw [← r1.length]; exact hl, h.run hs ss r1 h' Q q⟩
    · cases h'
  · split at h'
    · rename_i ws hl
      cases r with
      | kt h1 r1 => exact ⟨_, _, rfl, h1.sq, by rw [← r1.length]; exact hl, h.run hs ss r1 h' Q q⟩
    · cases h'
  · cases h'
end

/-! ### what is walked -/
/-- an iterator that yields what the list xs tells -/
def ItOk (K : PySem.W.Frag) (mg : Str → Option Value) (F : Hp) (φ : List Addr) (J : It) (xs : List W) : Prop :=
  ∀ {Z F1 : Hp} {φ1 : List Addr} {L1 : Lg} {H1 : Hp} (i : Nat), Sub F F1 → φ <+: φ1 → Hs K mg Z F1 φ1 L1 H1 →
    (∀ x, xs[i]? = some x → J.go i H1 ∧ ∀ v H2, J.yld i H1 v H2 → ∃ F2, Sub F1 F2 ∧ Hs K mg Z F2 φ1 L1 H2 ∧ R K F2 φ1 x v) ∧ (xs.length ≤ i → J.stop i H1)
structure II (X : Cx) (tg iter : Expr) (f : AF) : Prop where
  run : ∀ {Zx Z F : Hp} {φ : List Addr} {L : Lg} {ρ : Ro} {σ : L2.St} {H : Hp} {xs : List W} {L' : Lg}, Hs X.K X.mg Z F φ L H → Ss X.K Zx Z F φ ρ σ → f ρ L = some (xs, L') →
    ∀ Q : It → Hp → Prop, (∀ (F' : Hp) (φ' : List Addr) (H' : Hp) (J : It), Sub F F' → φ <+: φ' → Hs X.K X.mg Z F' φ' L' H' → ItOk X.K X.mg F' φ' J xs → Q J H') → WpI X tg iter σ H Q
section
variable {X : Cx} {tg e a b : Expr} {pos : Pos}
theorem itok_list {K : PySem.W.Frag} {mg : Str → Option Value} {F : Hp} {φ : List Addr} {a : Addr} {xs : List W} {vs : List V} (h : F a = some (.lst vs)) (r : Rs K F φ xs vs) : ItOk K mg F φ (Itl K a) xs := by
  intro Z F1 φ1 L1 H1 i s p hs
  have hq : SqL K H1 a vs := SqL.of (hs.sub _ _ (s _ _ h))
  refine ⟨fun x hx => ?_, fun hl => ⟨vs, hq, by rw [← r.length]; exact hl⟩⟩
  obtain ⟨v, h1, h2⟩ := r.get hx
  refine ⟨⟨vs, v, hq, h1⟩, fun u H2 y => ?_⟩
  obtain ⟨rfl, y⟩ := y
  have : vs[i]? = some u := y vs hq
  rw [h1] at this; cases this
  exact ⟨F1, Sub.refl F1, hs, h2.mono s p⟩
theorem itok_tup {K : PySem.W.Frag} {mg : Str → Option Value} {F : Hp} {φ : List Addr} {a : Addr} {xs : List W} {vs : List V} (h : TupAt K F a vs) (r : Rs K F φ xs vs) : ItOk K mg F φ (Itt K a) xs := by
  intro Z F1 φ1 L1 H1 i s p hs
  have hq : SqT K H1 a vs := (h.mono s).sq hs.sub
  refine ⟨fun x hx => ?_, fun hl => ⟨vs, hq, by rw [← r.length]; exact hl⟩⟩
  obtain ⟨v, h1, h2⟩ := r.get hx
  refine ⟨⟨vs, v, hq, h1⟩, fun u H2 y => ?_⟩
  obtain ⟨rfl, y⟩ := y
  have : vs[i]? = some u := y vs hq
  rw [h1] at this; cases this
  exact ⟨F1, Sub.refl F1, hs, h2.mono s p⟩
def sLst (f : EF) : AF := fun ρ L => match f ρ L with
  | some (.lst xs, L') => some (xs, L')
  | _ => none
theorem ii_list {f : EF} (h : IE X e f) : II X tg e (sLst f) := by
  refine ⟨fun {Zx Z F φ L ρ σ H xs L'} hs ss h' Q q => PI.wp (pi_list wpE) ?_⟩
  unfold sLst at h'
  split at h'
  · rename_i ys L2 e1
    simp only [Option.some.injEq, Prod.mk.injEq] at h'
    obtain ⟨rfl, rfl⟩ := h'
    refine h.run hs ss e1 _ fun F1 φ1 H1 v s1 p1 hs1 r1 => ?_
    cases r1 with
    | lst g1 g2 => exact ⟨_, rfl, ⟨_, SqL.of (hs1.sub _ _ g1)⟩, q F1 φ1 H1 _ s1 p1 hs1 (itok_list g1 g2)⟩
  · cases h'
theorem itok_kt {K : PySem.W.Frag} {mg : Str → Option Value} {F : Hp} {φ : List Addr} {a : Addr} {xs : List W} {vs : List V} (h : TupK K a vs) (r : Rs K F φ xs vs) : ItOk K mg F φ (Itt K a) xs := by
  intro Z F1 φ1 L1 H1 i s p hs
  have hq : SqT K H1 a vs := h.sq
  refine ⟨fun x hx => ?_, fun hl => ⟨vs, hq, by rw [← r.length]; exact hl⟩⟩
  obtain ⟨v, h1, h2⟩ := r.get hx
  refine ⟨⟨vs, v, hq, h1⟩, fun u H2 y => ?_⟩
  obtain ⟨rfl, y⟩ := y
  have : vs[i]? = some u := y vs hq
  rw [h1] at this; cases this
  exact ⟨F1, Sub.refl F1, hs, h2.mono s p⟩
def sTup (f : EF) : AF := fun ρ L => match f ρ L with
  | some (.tup xs, L') => some (xs, L')
  | some (.kt xs, L') => some (xs, L')
  | _ => none
theorem ii_tup {f : EF} (h : IE X e f) : II X tg e (sTup f) := by
  refine ⟨fun {Zx Z F φ L ρ σ H xs L'} hs ss h' Q q => PI.wp (pi_tup wpE) ?_⟩
  unfold sTup at h'
  split at h'
  · rename_i ys L2 e1
    simp only [Option.some.injEq, Prod.mk.injEq] at h'
    obtain ⟨rfl, rfl⟩ := h'
    refine h.run hs ss e1 _ fun F1 φ1 H1 v s1 p1 hs1 r1 => ?_
    cases r1 with
    | tup g1 g2 => exact ⟨_, rfl, ⟨_, g1.sq hs1.sub⟩, q F1 φ1 H1 _ s1 p1 hs1 (itok_tup g1 g2)⟩
  · rename_i ys L2 e1
    simp only [Option.some.injEq, Prod.mk.injEq] at h'
    obtain ⟨rfl, rfl⟩ := h'
    refine h.run hs ss e1 _ fun F1 φ1 H1 v s1 p1 hs1 r1 => ?_
    cases r1 with
    | kt g1 g2 => exact ⟨_, rfl, ⟨_, g1.sq⟩, q F1 φ1 H1 _ s1 p1 hs1 (itok_kt g1 g2)⟩
  · cases h'
def rangeW (lo : Int) (n : Nat) : List W := (List.range n).map fun (i : Nat) => .int (lo + (i : Int))
theorem itok_range {K : PySem.W.Frag} {mg : Str → Option Value} {F : Hp} {φ : List Addr} {lo : Int} {n : Nat} : ItOk K mg F φ (Itr lo n) (rangeW lo n) := by
  intro Z F1 φ1 L1 H1 i s p hs
  have hl : (rangeW lo n).length = n := by simp [rangeW]
  refine ⟨fun x hx => ?_, fun h => by rw [hl] at h; exact h⟩
  have hi : i < n := by have := (List.getElem?_eq_some_iff.mp hx).1; rw [hl] at this; exact this
  refine ⟨hi, fun u H2 y => ?_⟩
  obtain ⟨rfl, rfl⟩ := y
  refine ⟨F1, Sub.refl F1, hs, ?_⟩
  unfold rangeW at hx
  rw [List.getElem?_map, List.getElem?_range hi] at hx
  simp at hx
  subst hx
  exact .int _
def sRange1 (f : AF) : AF := fun ρ L => match f ρ L with
  | some ([.int j], L') => if -(2 ^ 62) ≤ j ∧ j < 2 ^ 62 then some (rangeW 0 j.toNat, L') else none
  | _ => none
theorem ii_range1 {f : AF} {p : Pos} (hg : Gl X "range") (hm : X.mg "range" = none) (h : IA X [a] f) (hst : starEach [a] X.env = [(false, eval a X.env)] := by rfl) : II X tg (.Call (.Name "range" p) [a] [] pos) (sRange1 f) := by
  refine ⟨fun {Zx Z F φ L ρ σ H xs L'} hs ss h' Q q => PI.wp (pi_range1 hg hm wpA hst) ?_⟩
  unfold sRange1 at h'
  split at h'
  · rename_i j L2 e1
    split at h'
    · rename_i hz
      simp only [Option.some.injEq, Prod.mk.injEq] at h'
      obtain ⟨rfl, rfl⟩ := h'
      refine h.run hs ss e1 _ fun F1 φ1 H1 v s1 p1 hs1 r1 => ?_
      cases r1 with
      | cons r1 r2 =>
        cases r1; cases r2
        exact ⟨j, rfl, hz.1, hz.2, q F1 φ1 H1 _ s1 p1 hs1 itok_range⟩
    · cases h'
  · cases h'
def sRange2 (f : AF) : AF := fun ρ L => match f ρ L with
  | some ([.int i, .int j], L') => if -(2 ^ 62) ≤ i ∧ i < 2 ^ 62 ∧ -(2 ^ 62) ≤ j ∧ j < 2 ^ 62 then some (rangeW i (j - i).toNat, L') else none
  | _ => none
theorem ii_range2 {f : AF} {p : Pos} (hg : Gl X "range") (hm : X.mg "range" = none) (h : IA X [a, b] f) (hst : starEach [a, b] X.env = [(false, eval a X.env), (false, eval b X.env)] := by rfl) (hst2 : starEach [b] X.env = [(false, eval b X.env)] := by rfl) :
    II X tg (.Call (.Name "range" p) [a, b] [] pos) (sRange2 f) := by
  refine ⟨fun {Zx Z F φ L ρ σ H xs L'} hs ss h' Q q => PI.wp (pi_range2 hg hm wpA hst hst2) ?_⟩
  unfold sRange2 at h'
  split at h'
  · rename_i i j L2 e1
    split at h'
    · rename_i hz
      simp only [Option.some.injEq, Prod.mk.injEq] at h'
      obtain ⟨rfl, rfl⟩ := h'
      refine h.run hs ss e1 _ fun F1 φ1 H1 v s1 p1 hs1 r1 => ?_
      cases r1 with
      | cons r1 r2 =>
        cases r1
        cases r2 with
        | cons r2 r3 =>
          cases r2; cases r3
          exact ⟨i, j, rfl, hz, q F1 φ1 H1 _ s1 p1 hs1 itok_range⟩
    · cases h'
  · cases h'
end

/-! ### list comprehensions -/
structure ITs (X : Cx) (ifs : List Expr) (f : TF) : Prop where
  run : ∀ {Zx Z F : Hp} {φ : List Addr} {L : Lg} {ρ : Ro} {σ : L2.St} {H : Hp} {w : Bool} {L' : Lg}, Hs X.K X.mg Z F φ L H → Ss X.K Zx Z F φ ρ σ → f ρ L = some (w, L') →
    ∀ Q : Bool → Hp → Prop, (∀ (F' : Hp) (φ' : List Addr) (H' : Hp), Sub F F' → φ <+: φ' → Hs X.K X.mg Z F' φ' L' H' → Q w H') → ∃ t, PTs X ifs t ∧ t σ H Q
def WpTs (X : Cx) (ifs : List Expr) : TT := fun σ H Q => ∀ (pins : List (Addr × Obj)) (s : Shared), Inv X pins σ H s →
    wpAny (model X.prog X.w) X.A (forIn ifs true fun c r => if r = true then do let ok ← isTrue c X.env (eval c X.env); pure (ForInStep.yield ok) else pure (ForInStep.yield r)) (TP X pins σ Q) X.xe s
theorem wpTs {X : Cx} {ifs : List Expr} : PTs X ifs (WpTs X ifs) := ⟨fun pins s σ H Q I h => h pins s I⟩
theorem PTs.wp {X : Cx} {ifs : List Expr} {t : TT} (h : PTs X ifs t) {σ : L2.St} {H : Hp} {Q : Bool → Hp → Prop} (q : t σ H Q) : WpTs X ifs σ H Q := fun pins s I => h.run pins s σ H Q I q
def cYes : TF := fun _ L => some (true, L)
theorem its_nil {X : Cx} : ITs X [] cYes := by
  refine ⟨fun {Zx Z F φ L ρ σ H w L'} hs ss h Q q => ⟨_, pts_nil, ?_⟩⟩
  simp only [cYes, Option.some.injEq, Prod.mk.injEq] at h
  obtain ⟨rfl, rfl⟩ := h
  exact q F φ H (Sub.refl F) (List.prefix_refl φ) hs
theorem its_one {X : Cx} {c : Expr} {f : TF} (h : IT X c f) : ITs X [c] f := ⟨fun hs ss e Q q => ⟨_, pts_one wpT, h.run hs ss e Q q⟩⟩
def lcLoop (g : GF) (tt : TF) (te : EF) (ρ : Ro) : List W → Lg → Option (List W × Lg)
  | [], L => some ([], L)
  | x :: xs, L => match g x ρ with
    | none => none
    | some ρ1 => match tt ρ1 L with
      | none => none
      | some (false, L1) => lcLoop g tt te ρ xs L1
      | some (true, L1) => match te ρ1 L1 with
        | none => none
        | some (w, L2) => match lcLoop g tt te ρ xs L2 with
          | none => none
          | some (ws, L3) => some (w :: ws, L3)
def cLc (src : AF) (g : GF) (tt : TF) (te : EF) (vs : List Nat) : NF := fun ρ L => match src ρ L with
  | none => none
  | some (xs, L1) => match lcLoop g tt te (wipeR ρ vs) xs L1 with
    | none => none
    | some (ws, L2) => if ws.length ≤ 16777216 then some (.lst ws, L2) else none
section
variable {X : Cx}
/-- the turns of a comprehension -/
theorem lc_w {J : It} {xs : List W} {g : GF} {tt : TF} {te : EF} {ix vs : List Nat} (hix : ∀ i ∈ ix, i ∈ vs)
    (gW : TG) (tW : TT) (eW : TE)
    (hg : ∀ {Zx Z F : Hp} {φ : List Addr} {L : Lg} {ρ ρ' : Ro} {σ : L2.St} {H : Hp} {w : W} {v : V}, Hs X.K X.mg Z F φ L H → Ss X.K Zx Z F φ ρ σ → R X.K F φ w v → g w ρ = some ρ' →
      ∀ Q : L2.St → Hp → Prop, (∀ σ', Ss X.K Zx Z F φ ρ' σ' → (∀ vs, (∀ i ∈ ix, i ∈ vs) → wipe σ' vs = wipe σ vs) → Q σ' H) → gW v σ H Q)
    (ht : ∀ {Zx Z F : Hp} {φ : List Addr} {L : Lg} {ρ : Ro} {σ : L2.St} {H : Hp} {w : Bool} {L' : Lg}, Hs X.K X.mg Z F φ L H → Ss X.K Zx Z F φ ρ σ → tt ρ L = some (w, L') →
      ∀ Q : Bool → Hp → Prop, (∀ (F' : Hp) (φ' : List Addr) (H' : Hp), Sub F F' → φ <+: φ' → Hs X.K X.mg Z F' φ' L' H' → Q w H') → tW σ H Q)
    (he : ∀ {Zx Z F : Hp} {φ : List Addr} {L : Lg} {ρ : Ro} {σ : L2.St} {H : Hp} {w : W} {L' : Lg}, Hs X.K X.mg Z F φ L H → Ss X.K Zx Z F φ ρ σ → te ρ L = some (w, L') →
      ∀ Q : VK, (∀ (F' : Hp) (φ' : List Addr) (H' : Hp) (v : V), Sub F F' → φ <+: φ' → Hs X.K X.mg Z F' φ' L' H' → R X.K F' φ' w v → Q v H') → eW σ H Q)
    {Zx Z F1 : Hp} {φ1 : List Addr} {L1 L9 : Lg} {ρ : Ro} {σ : L2.St} {H1 : Hp} {ws : List W} (hs1 : Hs X.K X.mg Z F1 φ1 L1 H1) (ss : Ss X.K Zx Z F1 φ1 ρ σ) (itok : ItOk X.K X.mg F1 φ1 J xs) (e2 : lcLoop g tt te (wipeR ρ vs) xs L1 = some (ws, L9)) (hz : ws.length ≤ 16777216)
    (Q : VK) (q : ∀ (F' : Hp) (φ' : List Addr) (H' : Hp) (p : Addr) (o : HO), Sub F1 F' → φ1 <+: φ' → Z p = none → Hs X.K X.mg (upd Z p o) F' φ' L9 H' → MOk X.K F' φ' (.lst ws) o → Q (.ref p) H') {D : Addr} (hD : H1 D = none) :
    ∃ W : Nat → Nat → Hp → Prop, (∃ m, W 0 m (upd H1 D (.lst []))) ∧ ∀ i m H, W i m H →
      (J.stop i H ∧ Q (.ref D) H) ∨ (J.go i H ∧ ∃ Nx : Hp → Prop, (∀ H', Nx H' → ∃ m', m' < m ∧ W (i + 1) m' H') ∧ ∀ x H', J.yld i H x H' → gW x (wipe σ vs) H' fun σ2 H2 => wipe σ2 vs = wipe σ vs ∧ tW σ2 H2 fun b H3 =>
        if b = true then eW σ2 H3 fun y H4 => ∃ acc, H4 D = some (.lst acc) ∧ acc.length < sizeLine ∧ Nx (upd H4 D (.lst (acc ++ [y]))) else Nx H3) := by
  have zD : Z D = none := (hs1.free hD).2.1
  -- what holds at turn i: the rest is still to be done
  refine ⟨fun i mm H' => mm = xs.length - i ∧ i ≤ xs.length ∧ ∃ (F2 : Hp) (φ2 : List Addr) (L3 : Lg) (acc rest : List W) (vacc : List V), Sub F1 F2 ∧ φ1 <+: φ2 ∧ Hs X.K X.mg (upd Z D (.lst vacc)) F2 φ2 L3 H' ∧ Rs X.K F2 φ2 acc vacc ∧
    lcLoop g tt te (wipeR ρ vs) (xs.drop i) L3 = some (rest, L9) ∧ acc ++ rest = ws,
    ⟨xs.length, rfl, Nat.zero_le _, F1, φ1, L1, [], ws, [], Sub.refl F1, List.prefix_refl φ1, hs1.fresh hD, .nil, by simpa using e2, rfl⟩, ?_⟩
  rintro i mm H' ⟨rfl, hi', F2, φ2, L3, acc, rest, vacc, s2, p2, hs2, racc, e3, e4⟩
  obtain ⟨it1, it2⟩ := itok i s2 p2 hs2
  by_cases hlt : i < xs.length
  · have hx : xs[i]? = some xs[i] := List.getElem?_eq_getElem hlt
    obtain ⟨go, yl⟩ := it1 _ hx
    refine .inr ⟨go, fun H'' => ∃ (F2 : Hp) (φ2 : List Addr) (L3 : Lg) (acc rest : List W) (vacc : List V), Sub F1 F2 ∧ φ1 <+: φ2 ∧ Hs X.K X.mg (upd Z D (.lst vacc)) F2 φ2 L3 H'' ∧ Rs X.K F2 φ2 acc vacc ∧
      lcLoop g tt te (wipeR ρ vs) (xs.drop (i + 1)) L3 = some (rest, L9) ∧ acc ++ rest = ws, fun H'' n => ⟨xs.length - (i + 1), by omega, rfl, hlt, n⟩, fun v H3 y => ?_⟩
    obtain ⟨F3, s3, hs3, r3⟩ := yl v H3 y
    rw [List.drop_eq_getElem_cons hlt] at e3
    unfold lcLoop at e3
    split at e3
    · cases e3
    rename_i ρ1 g1
    have s13 : Sub F1 F3 := s2.trans s3
    have ssw : Ss X.K (fun _ => none) (upd Z D (.lst vacc)) F3 φ2 (wipeR ρ vs) (wipe σ vs) := by
      have k := (ss.mono s13 p2).wiped vs
      exact ⟨k.len, k.va, fun j m' ej => let ⟨a, o, h1, h2, h3, h4⟩ := k.ow j m' ej; ⟨a, o, h1, by rw [upd_ne (ne_of_none h2 zD)]; exact h2, rfl, h4⟩, k.sep, fun _ _ z => nomatch z⟩
    refine hg hs3 ssw r3 g1 _ fun σ2 ss2 wq => ⟨(wq _ hix).trans (wipe_wipe σ _), ?_⟩
    split at e3
    · cases e3
    · -- the test fails
      rename_i L4 t1
      refine ht hs3 ss2 t1 _ fun F4 φ4 H4 s4 p4 hs4 => ?_
      rw [if_neg (by decide)]
      exact ⟨F4, φ4, L4, acc, rest, vacc, (s2.trans s3).trans s4, List.IsPrefix.trans p2 p4, hs4, racc.mono (s3.trans s4) p4, e3, e4⟩
    · rename_i L4 t1
      refine ht hs3 ss2 t1 _ fun F4 φ4 H4 s4 p4 hs4 => ?_
      rw [if_pos rfl]
      split at e3
      · cases e3
      rename_i w L5 e5
      split at e3
      · cases e3
      rename_i ws' L6 e6
      simp only [Option.some.injEq, Prod.mk.injEq] at e3
      obtain ⟨e3a, rfl⟩ := e3
      refine he hs4 (ss2.mono s4 p4) e5 _ fun F5 φ5 H5 v5 s5 p5 hs5 r5 => ?_
      have hd5 := (hs5.ext D (.lst vacc) upd_same).1
      have racc5 : Rs X.K F5 φ5 acc vacc := racc.mono ((s3.trans s4).trans s5) (List.IsPrefix.trans p4 p5)
      have hlen : acc.length + (rest.length) = ws.length := by rw [← e4, List.length_append]
      have hrl : rest.length = ws'.length + 1 := by rw [← e3a]; rfl
      refine ⟨vacc, hd5, by rw [← racc.length, sizeLine_eq]; omega, ?_⟩
      have hs6 := hs5.turn (o' := .lst (vacc ++ [v5])) (p := D) upd_same
      rw [upd_upd] at hs6
      exact ⟨F5, φ5, L5, acc ++ [w], ws', vacc ++ [v5], ((s2.trans s3).trans s4).trans s5, List.IsPrefix.trans (List.IsPrefix.trans p2 p4) p5, hs6, racc5.append (.one r5), e6, by rw [List.append_assoc, ← e4, ← e3a]; rfl⟩
  · have ei : i = xs.length := by omega
    subst ei
    refine .inl ⟨it2 (Nat.le_refl _), ?_⟩
    rw [List.drop_length] at e3
    simp only [lcLoop, Option.some.injEq, Prod.mk.injEq] at e3
    obtain ⟨rfl, rfl⟩ := e3
    rw [List.append_nil] at e4
    subst e4
    exact q F2 φ2 H' D _ s2 p2 zD hs2 racc
/-- the reading of a comprehension, from the pieces -/
theorem lc_run {tg iter elt : Expr} {ifs : List Expr} {own : List (Str × Nat)} {scope : Scope} {src : AF} {g : GF} {tt : TF} {te : EF} {ix : List Nat} (hi : II X tg iter src) (hix : ∀ i ∈ ix, i ∈ own.map (·.2))
    (gW : TG) (tW : TT) (eW : TE)
    (hg : ∀ {Zx Z F : Hp} {φ : List Addr} {L : Lg} {ρ ρ' : Ro} {σ : L2.St} {H : Hp} {w : W} {v : V}, Hs X.K X.mg Z F φ L H → Ss X.K Zx Z F φ ρ σ → R X.K F φ w v → g w ρ = some ρ' →
      ∀ Q : L2.St → Hp → Prop, (∀ σ', Ss X.K Zx Z F φ ρ' σ' → (∀ vs, (∀ i ∈ ix, i ∈ vs) → wipe σ' vs = wipe σ vs) → Q σ' H) → gW v σ H Q)
    (ht : ∀ {Zx Z F : Hp} {φ : List Addr} {L : Lg} {ρ : Ro} {σ : L2.St} {H : Hp} {w : Bool} {L' : Lg}, Hs X.K X.mg Z F φ L H → Ss X.K Zx Z F φ ρ σ → tt ρ L = some (w, L') →
      ∀ Q : Bool → Hp → Prop, (∀ (F' : Hp) (φ' : List Addr) (H' : Hp), Sub F F' → φ <+: φ' → Hs X.K X.mg Z F' φ' L' H' → Q w H') → tW σ H Q)
    (he : ∀ {Zx Z F : Hp} {φ : List Addr} {L : Lg} {ρ : Ro} {σ : L2.St} {H : Hp} {w : W} {L' : Lg}, Hs X.K X.mg Z F φ L H → Ss X.K Zx Z F φ ρ σ → te ρ L = some (w, L') →
      ∀ Q : VK, (∀ (F' : Hp) (φ' : List Addr) (H' : Hp) (v : V), Sub F F' → φ <+: φ' → Hs X.K X.mg Z F' φ' L' H' → R X.K F' φ' w v → Q v H') → eW σ H Q)
    {Zx Z F : Hp} {φ : List Addr} {L : Lg} {ρ : Ro} {σ : L2.St} {H : Hp} {m : M} {L' : Lg} (hs : Hs X.K X.mg Z F φ L H) (ss : Ss X.K Zx Z F φ ρ σ) (h : cLc src g tt te (own.map (·.2)) ρ L = some (m, L'))
    (Q : VK) (q : ∀ (F' : Hp) (φ' : List Addr) (H' : Hp) (p : Addr) (o : HO), Sub F F' → φ <+: φ' → Z p = none → Hs X.K X.mg (upd Z p o) F' φ' L' H' → MOk X.K F' φ' m o → Q (.ref p) H') : tLc (WpI X tg iter) gW tW eW (own.map (·.2)) σ H Q := by
  unfold cLc at h
  split at h
  · cases h
  rename_i xs L1 e1
  split at h
  · cases h
  rename_i ws L2 e2
  split at h
  · rename_i hz
    simp only [Option.some.injEq, Prod.mk.injEq] at h
    obtain ⟨rfl, rfl⟩ := h
    refine hi.run hs ss e1 _ fun F1 φ1 H1 J s1 p1 hs1 itok => fun D hD => ?_
    exact lc_w hix gW tW eW hg ht he hs1 (ss.mono s1 p1) itok e2 hz Q (fun F' φ' H' p o s' p' z hs' m' => q F' φ' H' p o (s1.trans s') (List.IsPrefix.trans p1 p') z hs' m') hD
  · cases h
theorem in_lc {elt tg iter : Expr} {ifs : List Expr} {scope : Scope} {own : List (Str × Nat)} {pos : Pos} {src : AF} {g : GF} {tt : TF} {te : EF} {ix : List Nat} (hc : X.calm = true) (hN : X.N.Nodup) (hi : II X tg iter src) (ok : BlkOk X.N X.env.scope scope own) (hix : ∀ i ∈ ix, i ∈ own.map (·.2))
    (hg : ∀ (s : Shared) (H : Hp) (C : Addr) (cl : List (Str × Addr)) (fp : List Addr), IG (X.blk s H scope (compEnvC scope cl C X.env) fp) tg ix g) (ht : ∀ (s : Shared) (H : Hp) (C : Addr) (cl : List (Str × Addr)) (fp : List Addr), ITs (X.blk s H scope (compEnvC scope cl C X.env) fp) ifs tt)
    (he : ∀ (s : Shared) (H : Hp) (C : Addr) (cl : List (Str × Addr)) (fp : List Addr), IE (X.blk s H scope (compEnvC scope cl C X.env) fp) elt te) (hs' : ∀ x, foldedSetIterable iter X.env x = pure x := by intro _; rfl) :
    IN X (.ListComp elt [⟨tg, iter, ifs, 0⟩] scope pos) (cLc src g tt te (own.map (·.2))) := by
  refine ⟨fun {Zx Z F φ L ρ σ H m L'} hs ss h Q q => ?_⟩
  -- one reading for all blocks
  let gW : TG := fun v σ H Q => ∀ (s : Shared) (H0 : Hp) (C : Addr) (cl : List (Str × Addr)) (fp : List Addr), WpG (X.blk s H0 scope (compEnvC scope cl C X.env) fp) tg v σ H Q
  let tW : TT := fun σ H Q => ∀ (s : Shared) (H0 : Hp) (C : Addr) (cl : List (Str × Addr)) (fp : List Addr), WpTs (X.blk s H0 scope (compEnvC scope cl C X.env) fp) ifs σ H Q
  let eW : TE := fun σ H Q => ∀ (s : Shared) (H0 : Hp) (C : Addr) (cl : List (Str × Addr)) (fp : List Addr), Wp (X.blk s H0 scope (compEnvC scope cl C X.env) fp) elt σ H Q
  refine PE.wp (pe_lc hc hN wpI ok (g := gW) (tt := tW) (te := eW) (fun s H C cl fp => ⟨fun pins s' σ H v u Q I r h => h s _ C cl fp pins s' u I r⟩) (fun s H C cl fp => ⟨fun pins s' σ H Q I h => h s _ C cl fp pins s' I⟩) (fun s H C cl fp => ⟨fun pins s' σ H Q I h => h s _ C cl fp pins s' I⟩) hs') ?_
  refine lc_run (ifs := ifs) (elt := elt) (scope := scope) hi hix gW tW eW ?_ ?_ ?_ hs ss h Q q
  · intro _ _ _ _ _ _ _ _ _ _ _ h1 h2 h3 h4 Q q s H0 C cl fp
    exact (hg s H0 C cl fp).run h1 h2 h3 h4 Q q
  · intro _ _ _ _ _ _ _ _ _ _ h1 h2 h3 Q q s H0 C cl fp
    obtain ⟨t, k1, k2⟩ := (ht s H0 C cl fp).run h1 h2 h3 Q q
    exact PTs.wp k1 k2
  · intro _ _ _ _ _ _ _ _ _ _ h1 h2 h3 Q q s H0 C cl fp
    exact (he s H0 C cl fp).run h1 h2 h3 Q q
end
end Lf

set_option maxHeartbeats 4000000
/-! Lf, part E: statements, loops, defs, calls. -/
namespace Lf
open PySem PySem.Spec PyProof.Rows L2

inductive Out where
  | nx (ρ : Ro) (L : Lg) | rt (w : W) (L : Lg) | bk (ρ : Ro) (L : Lg) | ct (ρ : Ro) (L : Lg)
abbrev SF := Ro → Lg → Option Out
def GoOn (X : Cx) (Zx F : Hp) (φ : List Addr) (ρ' : Ro) (L' : Lg) (P : L2.St → Hp → Prop) : Prop :=
  ∀ (Z' F' : Hp) (φ' : List Addr) (σ' : L2.St) (H' : Hp), Sub F F' → φ <+: φ' → Hs X.K X.mg Z' F' φ' L' H' → Ss X.K Zx Z' F' φ' ρ' σ' → P σ' H'
def EndOk (X : Cx) (Zx F : Hp) (φ : List Addr) (D : Ends) : Out → Prop
  | .nx ρ' L' => GoOn X Zx F φ ρ' L' D.nx
  | .bk ρ' L' => GoOn X Zx F φ ρ' L' D.bk
  | .ct ρ' L' => GoOn X Zx F φ ρ' L' D.ct
  | .rt w L' => ∀ (Z' F' : Hp) (φ' : List Addr) (H' : Hp) (v : V), Sub F F' → φ <+: φ' → Sub Zx Z' → Hs X.K X.mg Z' F' φ' L' H' → R X.K F' φ' w v → D.rt v H'
theorem GoOn.step {X : Cx} {Zx F F1 : Hp} {φ φ1 : List Addr} {ρ' : Ro} {L' : Lg} {P : L2.St → Hp → Prop} (s : Sub F F1) (p : φ <+: φ1) (h : GoOn X Zx F φ ρ' L' P) : GoOn X Zx F1 φ1 ρ' L' P :=
  fun Z' F' φ' σ' H' s' p' hs ss => h Z' F' φ' σ' H' (s.trans s') (List.IsPrefix.trans p p') hs ss
theorem EndOk.step {X : Cx} {Zx F F1 : Hp} {φ φ1 : List Addr} {D : Ends} {o : Out} (s : Sub F F1) (p : φ <+: φ1) (h : EndOk X Zx F φ D o) : EndOk X Zx F1 φ1 D o := by
  cases o with
  | nx ρ L => exact GoOn.step s p h
  | bk ρ L => exact GoOn.step s p h
  | ct ρ L => exact GoOn.step s p h
  | rt w L => exact fun Z' F' φ' H' v s' p' z hs r => h Z' F' φ' H' v (s.trans s') (List.IsPrefix.trans p p') z hs r
structure IS (X : Cx) (st : Stmt) (f : SF) : Prop where
  run : ∀ {Zx Z F : Hp} {φ : List Addr} {L : Lg} {ρ : Ro} {σ : L2.St} {H : Hp} {o : Out}, Hs X.K X.mg Z F φ L H → Ss X.K Zx Z F φ ρ σ → f ρ L = some o → ∀ D : Ends, EndOk X Zx F φ D o → WpS X st D σ H
structure ISs (X : Cx) (st : List Stmt) (f : SF) : Prop where
  run : ∀ {Zx Z F : Hp} {φ : List Addr} {L : Lg} {ρ : Ro} {σ : L2.St} {H : Hp} {o : Out}, Hs X.K X.mg Z F φ L H → Ss X.K Zx Z F φ ρ σ → f ρ L = some o → ∀ D : Ends, EndOk X Zx F φ D o → WpSs X st D σ H
section
variable {X : Cx} {st : Stmt} {rest : List Stmt} {e a b : Expr} {es : List Expr} {pos : Pos}

def cNx : SF := fun ρ L => some (.nx ρ L)
def cSeq (f g : SF) : SF := fun ρ L => match f ρ L with
  | some (.nx ρ1 L1) => g ρ1 L1
  | o => o
theorem iss_nil : ISs X [] cNx := by
  refine ⟨fun {Zx Z F φ L ρ σ H o} hs ss h D q => PSs.wp pss_nil ?_⟩
  simp only [cNx, Option.some.injEq] at h
  subst h
  exact q Z F φ σ H (Sub.refl F) (List.prefix_refl φ) hs ss
theorem iss_cons {f g : SF} (h1 : IS X st f) (h2 : ISs X rest g) : ISs X (st :: rest) (cSeq f g) := by
  refine ⟨fun {Zx Z F φ L ρ σ H o} hs ss h D q => PSs.wp (pss_cons wpS wpSs) ?_⟩
  unfold cSeq at h
  cases e1 : f ρ L with
  | none => rw [e1] at h; cases h
  | some o1 =>
    rw [e1] at h
    refine h1.run hs ss e1 { D with nx := WpSs X rest D } ?_
    cases o1 with
    | nx ρ1 L1 =>
      exact fun Z1 F1 φ1 σ1 H1 s1 p1 hs1 ss1 => h2.run hs1 ss1 h D (q.step s1 p1)
    | bk ρ1 L1 => cases h; exact q
    | ct ρ1 L1 => cases h; exact q
    | rt w L1 => cases h; exact q
theorem iss_one {f : SF} (h1 : IS X st f) : ISs X [st] f := ⟨fun hs ss h D q => PSs.wp (pss_one wpS) (h1.run hs ss h D q)⟩
theorem is_pass : IS X (.Pass pos) cNx := by
  refine ⟨fun {Zx Z F φ L ρ σ H o} hs ss h D q => PS.wp ps_pass ?_⟩
  simp only [cNx, Option.some.injEq] at h
  subst h
  exact q Z F φ σ H (Sub.refl F) (List.prefix_refl φ) hs ss
/-- a ghost: the slot's own thing is frozen ahead of a statement -/
def cFr (i : Nat) (f : SF) : SF := fun ρ L => match ρ[i]? with
  | some (.ow m) => f (ρ.set i (.va m.fz)) L
  | _ => f ρ L
theorem IS.frz {f : SF} (i : Nat) (h : IS X st f) : IS X st (cFr i f) := by
  refine ⟨fun {Zx Z F φ L ρ σ H o} hs ss h' D q => ?_⟩
  unfold cFr at h'
  split at h'
  · rename_i m e1
    obtain ⟨Z', F', s1, hs1, ss1⟩ := ss.frozen hs e1
    exact h.run hs1 ss1 h' D (q.step s1 (List.prefix_refl φ))
  · exact h.run hs ss h' D q
def cDrop (f : EF) : SF := fun ρ L => match f ρ L with
  | none => none
  | some (_, L') => some (.nx ρ L')
theorem is_expr {f : EF} (he : IE X e f) (hs' : swapsWith e none pos.line X.env = pure false := by rfl) : IS X (.Expr e pos) (cDrop f) := by
  refine ⟨fun {Zx Z F φ L ρ σ H o} hs ss h D q => PS.wp (ps_expr wpE hs') ?_⟩
  unfold cDrop at h
  split at h
  · cases h
  rename_i w L1 e1
  simp only [Option.some.injEq] at h
  subst h
  exact he.run hs ss e1 _ fun F1 φ1 H1 v s1 p1 hs1 r1 => q Z F1 φ1 σ H1 s1 p1 hs1 (ss.mono s1 p1)
def cRet (f : EF) : SF := fun ρ L => match f ρ L with
  | none => none
  | some (w, L') => some (.rt w L')
theorem is_ret {f : EF} (he : IE X e f) : IS X (.Return (some e) pos) (cRet f) := by
  refine ⟨fun {Zx Z F φ L ρ σ H o} hs ss h D q => PS.wp (ps_ret wpE) ?_⟩
  unfold cRet at h
  split at h
  · cases h
  rename_i w L1 e1
  simp only [Option.some.injEq] at h
  subst h
  exact he.run hs ss e1 _ fun F1 φ1 H1 v s1 p1 hs1 r1 => q Z F1 φ1 H1 v s1 p1 ss.out hs1 r1
def cRetN : SF := fun _ L => some (.rt .non L)
theorem is_retN : IS X (.Return none pos) cRetN := by
  refine ⟨fun {Zx Z F φ L ρ σ H o} hs ss h D q => PS.wp ps_retN ?_⟩
  simp only [cRetN, Option.some.injEq] at h
  subst h
  exact q Z F φ H .non (Sub.refl F) (List.prefix_refl φ) ss.out hs .non
def cIfS (t : TF) (f g : SF) : SF := fun ρ L => match t ρ L with
  | none => none
  | some (true, L') => f ρ L'
  | some (false, L') => g ρ L'
theorem is_if {c : Expr} {x y : List Stmt} {t : TF} {f g : SF} (hc : IT X c t) (ha : ISs X x f) (hb : ISs X y g) : IS X (.If c x y pos) (cIfS t f g) := by
  refine ⟨fun {Zx Z F φ L ρ σ H o} hs ss h D q => PS.wp (ps_if wpT wpSs wpSs) ?_⟩
  unfold cIfS at h
  split at h
  · cases h
  · rename_i L1 e1
    refine hc.run hs ss e1 _ fun F1 φ1 H1 s1 p1 hs1 => ?_
    rw [if_pos rfl]
    exact ha.run hs1 (ss.mono s1 p1) h D (q.step s1 p1)
  · rename_i L1 e1
    refine hc.run hs ss e1 _ fun F1 φ1 H1 s1 p1 hs1 => ?_
    rw [if_neg (by decide)]
    exact hb.run hs1 (ss.mono s1 p1) h D (q.step s1 p1)
/-! ### storing -/
def cSet (i : Nat) (f : EF) : SF := fun ρ L => match f ρ L with
  | none => none
  | some (w, L') => if i < ρ.length then some (.nx (ρ.set i (.va w)) L') else none
theorem setting {i : Nat} {f : EF} {st : Stmt} (h0 : ∀ te, (∀ σ H Q, te σ H Q → Wp X e σ H Q) → PS X st (tAsg te (gName i))) (he : IE X e f) : IS X st (cSet i f) := by
  refine ⟨fun {Zx Z F φ L ρ σ H o} hs ss h D q => PS.wp (h0 (Wp X e) fun _ _ _ h => h) ?_⟩
  unfold cSet at h
  split at h
  · cases h
  rename_i w L1 e1
  split at h
  · rename_i hi
    simp only [Option.some.injEq] at h
    subst h
    exact he.run hs ss e1 _ fun F1 φ1 H1 v s1 p1 hs1 r1 => q Z F1 φ1 _ H1 s1 p1 hs1 ((ss.mono s1 p1).setva hi r1)
  · cases h
theorem is_set (i : Nat) {x : Str} {pos' : Pos} {f : EF} (hN : X.N.Nodup) (hi : X.N[i]? = some x) (hx : Loc X.env.scope x) (he : IE X e f) (hs' : swapsWith e (some (.Name x pos')) pos.line X.env = pure false := by rfl)
    (hf : X.fn x = true ∨ X.env.scope.names.lookup x = some .local := by first | exact .inl rfl | exact .inr rfl | assumption) : IS X (.Assign [.Name x pos'] e pos) (cSet i f) :=
  setting (fun te ht => ps_set hN hi hx ⟨fun pins s σ H Q I h => ht σ H Q h pins s I⟩ hs' hf) he
def cSetO (i : Nat) (f : NF) : SF := fun ρ L => match f ρ L with
  | none => none
  | some (m, L') => if i < ρ.length then some (.nx (ρ.set i (.ow m)) L') else none
theorem settingO {i : Nat} {f : NF} {st : Stmt} (h0 : PS X st (tAsg (Wp X e) (gName i))) (he : IN X e f) : IS X st (cSetO i f) := by
  refine ⟨fun {Zx Z F φ L ρ σ H o} hs ss h D q => PS.wp h0 ?_⟩
  unfold cSetO at h
  split at h
  · cases h
  rename_i w L1 e1
  split at h
  · rename_i hi
    simp only [Option.some.injEq] at h
    subst h
    exact he.run hs ss e1 _ fun F1 φ1 H1 p o s1 p1 z hs1 r1 => q _ F1 φ1 _ H1 s1 p1 hs1 ((ss.mono s1 p1).setow hi z r1)
  · cases h
theorem is_setO (i : Nat) {x : Str} {pos' : Pos} {f : NF} (hN : X.N.Nodup) (hi : X.N[i]? = some x) (hx : Loc X.env.scope x) (he : IN X e f) (hs' : swapsWith e (some (.Name x pos')) pos.line X.env = pure false := by rfl)
    (hf : X.fn x = true ∨ X.env.scope.names.lookup x = some .local := by first | exact .inl rfl | exact .inr rfl | assumption) : IS X (.Assign [.Name x pos'] e pos) (cSetO i f) :=
  settingO (ps_set hN hi hx wpE hs' hf) he
/-- name = [..] on one line -/
theorem ps_setLcW {i : Nat} {y : Str} {py : Pos} {elt tg iter : Expr} {ifs : List Expr} {scope : Scope} {own : List (Str × Nat)} {spos : Pos} {src : AF} {g : GF} {tt : TF} {te : EF} {ix : List Nat} (hc : X.calm = true) (hN : X.N.Nodup) (hy : X.N[i]? = some y) (hyl : X.env.scope.names.lookup y = some .local)
    (hsw : swapsWith (.ListComp elt [⟨tg, iter, ifs, 0⟩] scope pos) (some (.Name y py)) spos.line X.env = pure true) (hi : II X tg iter src) (ok : BlkOk X.N X.env.scope scope own) (hix : ∀ i ∈ ix, i ∈ own.map (·.2))
    (hg : ∀ (s : Shared) (H : Hp) (C : Addr) (cl : List (Str × Addr)) (fp : List Addr), IG (X.blk s H scope (compEnvC scope cl C X.env) fp) tg ix g) (ht : ∀ (s : Shared) (H : Hp) (C : Addr) (cl : List (Str × Addr)) (fp : List Addr), ITs (X.blk s H scope (compEnvC scope cl C X.env) fp) ifs tt)
    (he : ∀ (s : Shared) (H : Hp) (C : Addr) (cl : List (Str × Addr)) (fp : List Addr), IE (X.blk s H scope (compEnvC scope cl C X.env) fp) elt te) (hs' : ∀ x, foldedSetIterable iter X.env x = pure x := by intro _; rfl) :
    IS X (.Assign [.Name y py] (.ListComp elt [⟨tg, iter, ifs, 0⟩] scope pos) spos) (cSetO i (cLc src g tt te (own.map (·.2)))) := by
  refine ⟨fun {Zx Z F φ L ρ σ H o} hs ss h D q => ?_⟩
  let gW : TG := fun v σ H Q => ∀ (s : Shared) (H0 : Hp) (C : Addr) (cl : List (Str × Addr)) (fp : List Addr), WpG (X.blk s H0 scope (compEnvC scope cl C X.env) fp) tg v σ H Q
  let tW : TT := fun σ H Q => ∀ (s : Shared) (H0 : Hp) (C : Addr) (cl : List (Str × Addr)) (fp : List Addr), WpTs (X.blk s H0 scope (compEnvC scope cl C X.env) fp) ifs σ H Q
  let eW : TE := fun σ H Q => ∀ (s : Shared) (H0 : Hp) (C : Addr) (cl : List (Str × Addr)) (fp : List Addr), Wp (X.blk s H0 scope (compEnvC scope cl C X.env) fp) elt σ H Q
  refine PS.wp (ps_setLc hc hN hy hyl hsw wpI ok (g := gW) (tt := tW) (te := eW) (fun s H C cl fp => ⟨fun pins s' σ H v u Q I r h => h s _ C cl fp pins s' u I r⟩) (fun s H C cl fp => ⟨fun pins s' σ H Q I h => h s _ C cl fp pins s' I⟩) (fun s H C cl fp => ⟨fun pins s' σ H Q I h => h s _ C cl fp pins s' I⟩) hs') ?_
  unfold cSetO at h
  split at h
  · cases h
  rename_i m L1 e1
  split at h
  · rename_i hi'
    simp only [Option.some.injEq] at h
    subst h
    refine lc_run (ifs := ifs) (elt := elt) (scope := scope) hi hix gW tW eW ?_ ?_ ?_ hs ss e1 _ fun F1 φ1 H1 p o s1 p1 z hs1 r1 => ?_
    · intro _ _ _ _ _ _ _ _ _ _ _ h1 h2 h3 h4 Q q s H0 C cl fp
      exact (hg s H0 C cl fp).run h1 h2 h3 h4 Q q
    · intro _ _ _ _ _ _ _ _ _ _ h1 h2 h3 Q q s H0 C cl fp
      obtain ⟨t, k1, k2⟩ := (ht s H0 C cl fp).run h1 h2 h3 Q q
      exact PTs.wp k1 k2
    · intro _ _ _ _ _ _ _ _ _ _ h1 h2 h3 Q q s H0 C cl fp
      exact (he s H0 C cl fp).run h1 h2 h3 Q q
    · exact q _ F1 φ1 _ H1 s1 p1 hs1 ((ss.mono s1 p1).setow hi' z r1)
  · cases h
/-- behind a statement, the slot's own thing is frozen -/
def cFz2 (i : Nat) (f : SF) : SF := fun ρ L => match f ρ L with
  | some (.nx ρ1 L1) => (match ρ1[i]? with
    | some (.ow m) => some (.nx (ρ1.set i (.va m.fz)) L1)
    | _ => some (.nx ρ1 L1))
  | o => o
theorem IS.fz2 {f : SF} (i : Nat) (h : IS X st f) : IS X st (cFz2 i f) := by
  refine ⟨fun {Zx Z F φ L ρ σ H o} hs ss h' D q => ?_⟩
  unfold cFz2 at h'
  cases e1 : f ρ L with
  | none => rw [e1] at h'; cases h'
  | some o1 =>
    rw [e1] at h'
    refine h.run hs ss e1 D ?_
    cases o1 with
    | nx ρ1 L1 =>
      simp only at h'
      split at h'
      · rename_i m e2
        simp only [Option.some.injEq] at h'
        subst h'
        intro Z1 F1 φ1 σ1 H1 s1 p1 hs1 ss1
        obtain ⟨Z', F', s2, hs2, ss2⟩ := ss1.frozen hs1 e2
        exact q Z' F' φ1 σ1 H1 (s1.trans s2) p1 hs2 ss2
      · simp only [Option.some.injEq] at h'
        subst h'
        exact q
    | bk ρ1 L1 => cases h'; exact q
    | ct ρ1 L1 => cases h'; exact q
    | rt w L1 => cases h'; exact q
def cAsg (g : GF) (f : EF) : SF := fun ρ L => match f ρ L with
  | none => none
  | some (w, L') => match g w ρ with
    | none => none
    | some ρ' => some (.nx ρ' L')
theorem is_asg {tg : Expr} {ix : List Nat} {g : GF} {f : EF} (he : IE X e f) (hg : IG X tg ix g) (hs' : swapsWithSole [tg] e pos.line X.env = pure false := by rfl) (hw : swappedStores [tg] e X.env = pure none := by rfl)
    (h1 : (assignEach [tg] X.env).map (·.2) = [assign tg X.env] := by rfl) : IS X (.Assign [tg] e pos) (cAsg g f) := by
  refine ⟨fun {Zx Z F φ L ρ σ H o} hs ss h D q => PS.wp (ps_asg wpE wpG hs' hw h1) ?_⟩
  unfold cAsg at h
  split at h
  · cases h
  rename_i w L1 e1
  split at h
  · cases h
  rename_i ρ' e2
  simp only [Option.some.injEq] at h
  subst h
  exact he.run hs ss e1 _ fun F1 φ1 H1 v s1 p1 hs1 r1 => hg.run hs1 (ss.mono s1 p1) r1 e2 _ fun σ' ss' _ => q Z F1 φ1 σ' H1 s1 p1 hs1 ss'
/-- x += e -/
def cAug (i : Nat) (g : W → W → Option W) (f : EF) : SF := fun ρ L => match ρ[i]? with
  | some (.va x) => (match f ρ L with
    | none => none
    | some (y, L') => match g x y with
      | none => none
      | some w => some (.nx (ρ.set i (.va w)) L'))
  | _ => none
theorem is_aug {i : Nat} {x : Str} {op : Operator} {pos' : Pos} {r : R2} {g : W → W → Option W} {f : EF} (ho : OpR X (inplaceOp op) r) (sg : Op2 X r g) (hN : X.N.Nodup) (hi : X.N[i]? = some x) (hx : Loc X.env.scope x) (he : IE X e f)
    (hf : X.fn x = true ∨ X.env.scope.names.lookup x = some .local := by first | exact .inl rfl | exact .inr rfl | assumption) : IS X (.AugAssign (.Name x pos') op e pos) (cAug i g f) := by
  refine ⟨fun {Zx Z F φ L ρ σ H o} hs ss h D q => PS.wp (ps_aug hN hi hx wpE (ti := r) ho hf) ?_⟩
  unfold cAug at h
  split at h
  · rename_i wx e0
    have hl : i < ρ.length := (List.getElem?_eq_some_iff.mp e0).1
    split at h
    · cases h
    rename_i y L1 e1
    split at h
    · cases h
    rename_i w e2
    simp only [Option.some.injEq] at h
    subst h
    obtain ⟨v, h1, h2⟩ := ss.va i _ e0
    refine ⟨v, h1, he.run hs ss e1 _ fun F1 φ1 H1 vy s1 p1 hs1 r1 => ?_⟩
    exact sg hs1 (h2.mono s1 p1) r1 e2 _ fun F3 H3 v3 s3 hs3 rv => q Z F3 φ1 _ H3 (s1.trans s3) p1 hs3 ((ss.mono (s1.trans s3) p1).setva hl rv)
  · cases h
def addI : W → W → Option W
  | .int i, .int j => some (.int (i + j))
  | _, _ => none
theorem is_augadd {i : Nat} {x : Str} {pos' : Pos} {f : EF} (hN : X.N.Nodup) (hi : X.N[i]? = some x) (hx : Loc X.env.scope x) (he : IE X e f)
    (hf : X.fn x = true ∨ X.env.scope.names.lookup x = some .local := by first | exact .inl rfl | exact .inr rfl | assumption) : IS X (.AugAssign (.Name x pos') .Add e pos) (cAug i addI f) := by
  refine is_aug iop_add (fun {Z F φ L H x y w vx vy} hs rx ry h Q q => ?_) hN hi hx he hf
  unfold addI at h
  split at h
  · cases h; cases rx; cases ry
    exact ⟨_, _, rfl, rfl, flat hs (.int _) q⟩
  · cases h
/-! ### an own list or dict is changed -/
def cApp (i : Nat) (f : EF) : SF := fun ρ L => match f ρ L with
  | none => none
  | some (w, L') => match ρ[i]? with
    | some (.ow (.lst ws)) => if ws.length < 16777216 then some (.nx (ρ.set i (.ow (.lst (ws ++ [w])))) L') else none
    | _ => none
theorem is_app (i : Nat) {x : Str} {px apos cpos : Pos} {f : EF} (he : IE X e f) (hN : X.N[i]? = some x := by rfl) (hv : Vis X.env.scope x := by first | exact Or.inl rfl | exact Or.inr (Or.inl rfl) | exact Or.inr (Or.inr rfl)) (hd : (x == ("__debug__" : Str)) = false := by decide)
    (hcd : (x == ("__classdict__" : Str)) = false := by decide) (hs' : swapsWith (.Call (.Attribute (.Name x px) "append" apos) [e] [] cpos) none pos.line X.env = pure false := by rfl)
    (hb : attributeBase (.Name x px) "append" X.env (eval (.Name x px) X.env) = eval (.Name x px) X.env := by rfl)
    (hfew : ((backTo cpos (starEach (e :: []) X.env)).all (fun x => !x.1) && (backToKw cpos (keywordEach [] X.env)).all (fun x => x.1.isSome)
      && decide ((e :: []).length + ([] : List Keyword).length + (if ([] : List Keyword).isEmpty then 0 else 1) < 30)) = true := by rfl)
    (hline : (apos.endLine == cpos.line) = true := by rfl) (hst : starEach (e :: []) X.env = (false, eval e X.env) :: starEach [] X.env := by rfl) (hplain : (backTo cpos (starEach [] X.env)).any (·.1) = false := by rfl) :
    IS X (.Expr (.Call (.Attribute (.Name x px) "append" apos) [e] [] cpos) pos) (cApp i f) := by
  refine ⟨fun {Zx Z F φ L ρ σ H o} hs ss h D q => PS.wp (ps_expr (pe_bm PySem.F.plainAttrs_list PySem.F.slot_list_append PySem.F.type_list_append mt_append (pe_var hN hv hd hcd) (pa_cons wpE pa_nil hst) hb hfew hline hst hplain) hs') ?_⟩
  unfold cApp at h
  split at h
  · cases h
  rename_i w L1 e1
  split at h
  · rename_i ws e2
    split at h
    · rename_i hz
      simp only [Option.some.injEq] at h
      subst h
      obtain ⟨p, ho, h1, h2, h3, h4⟩ := ss.ow i _ e2
      have hH := (hs.ext p ho h2).1
      cases ho <;> first | exact h4.elim | skip
      rename_i vs
      refine ⟨_, h1, .inl ⟨rfl, _, SqL.of hH⟩, ?_⟩
      refine he.run hs ss e1 _ fun F1 φ1 H1 v s1 p1 hs1 r1 => ?_
      have hH1 := (hs1.ext p _ h2).1
      have rv : Rs X.K F φ ws vs := h4
      refine ⟨p, vs, v, rfl, rfl, hH1, by rw [← rv.length, sizeLine_eq]; exact hz, ?_⟩
      have m2 : MOk X.K F1 φ1 (.lst (ws ++ [w])) (.lst (vs ++ [v])) := Rs.append (rv.mono s1 p1) (.one r1)
      exact q _ F1 φ1 σ _ s1 p1 (hs1.turn h2) ((ss.mono s1 p1).turn e2 h1 m2)
    · cases h
  · cases h

/-! ### loops -/
def forLoop (g : GF) (body : SF) : List W → Ro → Lg → Option Out
  | [], ρ, L => some (.nx ρ L)
  | x :: xs, ρ, L => match g x ρ with
    | none => none
    | some ρ1 => match body ρ1 L with
      | none => none
      | some (.nx ρ2 L2) => forLoop g body xs ρ2 L2
      | some (.ct ρ2 L2) => forLoop g body xs ρ2 L2
      | some (.bk ρ2 L2) => some (.nx ρ2 L2)
      | some (.rt w L2) => some (.rt w L2)
def cFor (src : AF) (g : GF) (body : SF) : SF := fun ρ L => match src ρ L with
  | none => none
  | some (xs, L1) => forLoop g body xs ρ L1
theorem is_for {tg iter : Expr} {bd : List Stmt} {src : AF} {g : GF} {body : SF} {ix : List Nat} (hp : PassesOwn (model X.prog X.w) X.A X.env X.xe) (hc : X.calm = true) (hi : II X tg iter src) (hg : IG X tg ix g) (hb : ISs X bd body)
    (hs' : ∀ x, foldedSetIterable iter X.env x = pure x := by intro _; rfl) : IS X (.For tg iter bd [] pos) (cFor src g body) := by
  refine ⟨fun {Zx Z F φ L ρ σ H o} hs ss h D q => PS.wp (ps_for hp hc wpI wpG wpSs hs') ?_⟩
  unfold cFor at h
  split at h
  · cases h
  rename_i xs L1 e1
  refine hi.run hs ss e1 _ fun F1 φ1 H1 J s1 p1 hs1 itok => ?_
  refine ⟨fun i mm σ' H' => mm = xs.length - i ∧ i ≤ xs.length ∧ ∃ (Z2 F2 : Hp) (φ2 : List Addr) (ρ2 : Ro) (L2 : Lg), Sub F1 F2 ∧ φ1 <+: φ2 ∧ Hs X.K X.mg Z2 F2 φ2 L2 H' ∧ Ss X.K Zx Z2 F2 φ2 ρ2 σ' ∧ forLoop g body (xs.drop i) ρ2 L2 = some o,
    ⟨xs.length, rfl, Nat.zero_le _, Z, F1, φ1, ρ, L1, Sub.refl F1, List.prefix_refl φ1, hs1, ss.mono s1 p1, by simpa using h⟩, ?_⟩
  rintro i mm σ' H' ⟨rfl, hi', Z2, F2, φ2, ρ2, L2, s2, p2, hs2, ss2, e2⟩
  obtain ⟨it1, it2⟩ := itok i s2 p2 hs2
  by_cases hlt : i < xs.length
  · obtain ⟨go, yl⟩ := it1 _ (List.getElem?_eq_getElem hlt)
    refine .inr ⟨go, fun σ' H' => ∃ (Z2 F2 : Hp) (φ2 : List Addr) (ρ2 : Ro) (L2 : Lg), Sub F1 F2 ∧ φ1 <+: φ2 ∧ Hs X.K X.mg Z2 F2 φ2 L2 H' ∧ Ss X.K Zx Z2 F2 φ2 ρ2 σ' ∧ forLoop g body (xs.drop (i + 1)) ρ2 L2 = some o,
      fun σ' H' n => ⟨xs.length - (i + 1), by omega, rfl, hlt, n⟩, fun v H3 y => ?_⟩
    obtain ⟨F3, s3, hs3, r3⟩ := yl v H3 y
    rw [List.drop_eq_getElem_cons hlt] at e2
    unfold forLoop at e2
    split at e2
    · cases e2
    rename_i ρ3 g1
    refine hg.run hs3 (ss2.mono s3 (List.prefix_refl φ2)) r3 g1 _ fun σ4 ss4 _ => ?_
    have s13 := s2.trans s3
    cases e5 : body ρ3 L2 with
    | none => rw [e5] at e2; cases e2
    | some o1 =>
      rw [e5] at e2
      refine hb.run hs3 ss4 e5 _ ?_
      cases o1 with
      | nx ρ5 L5 => exact fun Z5 F5 φ5 σ5 H5 s5 p5 hs5 ss5 => ⟨Z5, F5, φ5, ρ5, L5, s13.trans s5, List.IsPrefix.trans p2 p5, hs5, ss5, e2⟩
      | ct ρ5 L5 => exact fun Z5 F5 φ5 σ5 H5 s5 p5 hs5 ss5 => ⟨Z5, F5, φ5, ρ5, L5, s13.trans s5, List.IsPrefix.trans p2 p5, hs5, ss5, e2⟩
      | bk ρ5 L5 =>
        cases e2
        exact fun Z5 F5 φ5 σ5 H5 s5 p5 hs5 ss5 => q Z5 F5 φ5 σ5 H5 (s1.trans (s13.trans s5)) (List.IsPrefix.trans p1 (List.IsPrefix.trans p2 p5)) hs5 ss5
      | rt w L5 =>
        cases e2
        exact fun Z5 F5 φ5 H5 v5 s5 p5 z hs5 r5 => q Z5 F5 φ5 H5 v5 (s1.trans (s13.trans s5)) (List.IsPrefix.trans p1 (List.IsPrefix.trans p2 p5)) z hs5 r5
  · have ei : i = xs.length := by omega
    subst ei
    refine .inl ⟨it2 (Nat.le_refl _), ?_⟩
    rw [List.drop_length] at e2
    simp only [forLoop, Option.some.injEq] at e2
    subst e2
    exact q Z2 F2 φ2 σ' H' (s1.trans s2) (List.IsPrefix.trans p1 p2) hs2 ss2
def whN (t : TF) (b : SF) : Nat → Ro → Lg → Option Out
  | 0, _, _ => none
  | n + 1, ρ, L => match t ρ L with
    | none => none
    | some (false, L1) => some (.nx ρ L1)
    | some (true, L1) => match b ρ L1 with
      | none => none
      | some (.nx ρ2 L2) => whN t b n ρ2 L2
      | some (.ct ρ2 L2) => whN t b n ρ2 L2
      | some (.bk ρ2 L2) => some (.nx ρ2 L2)
      | some (.rt w L2) => some (.rt w L2)
theorem whN_more {t : TF} {b : SF} : ∀ (n : Nat) (ρ : Ro) (L : Lg) (o : Out), whN t b n ρ L = some o → whN t b (n + 1) ρ L = some o
  | 0, _, _, _, h => by cases h
  | n + 1, ρ, L, o, h => by
    unfold whN at h ⊢
    cases e1 : t ρ L with
    | none => rw [e1] at h; cases h
    | some kl =>
      obtain ⟨k, L1⟩ := kl
      rw [e1] at h
      cases k with
      | false => exact h
      | true =>
        simp only at h ⊢
        cases e2 : b ρ L1 with
        | none => rw [e2] at h; cases h
        | some o1 =>
          rw [e2] at h
          cases o1 with
          | nx ρ2 L2 => exact whN_more n ρ2 L2 o h
          | ct ρ2 L2 => exact whN_more n ρ2 L2 o h
          | bk ρ2 L2 => exact h
          | rt w L2 => exact h
open Classical in
noncomputable def cWhile (t : TF) (b : SF) : SF := fun ρ L => if h : ∃ o n, whN t b n ρ L = some o then some (Classical.choose h) else none
theorem whN_add {t : TF} {b : SF} {ρ : Ro} {L : Lg} {o : Out} {n : Nat} (h : whN t b n ρ L = some o) : ∀ k, whN t b (n + k) ρ L = some o
  | 0 => h
  | k + 1 => whN_more _ _ _ _ (whN_add h k)
theorem cWhile_of {t : TF} {b : SF} {ρ : Ro} {L : Lg} {o : Out} {n : Nat} (h : whN t b n ρ L = some o) : cWhile t b ρ L = some o := by
  have hx : ∃ o n, whN t b n ρ L = some o := ⟨o, n, h⟩
  unfold cWhile
  rw [dif_pos hx]
  obtain ⟨n', h'⟩ := Classical.choose_spec hx
  have a1 := whN_add h n'
  have a2 := whN_add h' n
  rw [Nat.add_comm n' n, a1] at a2
  exact a2.symm
theorem cWhile_some {t : TF} {b : SF} {ρ : Ro} {L : Lg} {o : Out} (h : cWhile t b ρ L = some o) : ∃ n, whN t b n ρ L = some o := by
  unfold cWhile at h
  split at h
  · rename_i hx
    simp only [Option.some.injEq] at h
    rw [← h]
    exact Classical.choose_spec hx
  · cases h
theorem is_while {c : Expr} {bd : List Stmt} {t : TF} {body : SF} (hp : PassesOwn (model X.prog X.w) X.A X.env X.xe) (hc : IT X c t) (hb : ISs X bd body) : IS X (.While c bd [] pos) (cWhile t body) := by
  refine ⟨fun {Zx Z F φ L ρ σ H o} hs ss h D q => PS.wp (ps_while hp wpT wpSs) ?_⟩
  obtain ⟨n0, h⟩ := cWhile_some h
  refine ⟨fun n σ' H' => ∃ (Z2 F2 : Hp) (φ2 : List Addr) (ρ2 : Ro) (L2 : Lg), Sub F F2 ∧ φ <+: φ2 ∧ Hs X.K X.mg Z2 F2 φ2 L2 H' ∧ Ss X.K Zx Z2 F2 φ2 ρ2 σ' ∧ whN t body n ρ2 L2 = some o,
    ⟨n0, Z, F, φ, ρ, L, Sub.refl F, List.prefix_refl φ, hs, ss, h⟩, ?_⟩
  rintro n σ' H' ⟨Z2, F2, φ2, ρ2, L2, s2, p2, hs2, ss2, e2⟩
  cases n with
  | zero => cases e2
  | succ n =>
    unfold whN at e2
    split at e2
    · cases e2
    · rename_i L3 e3
      simp only [Option.some.injEq] at e2
      subst e2
      refine hc.run hs2 ss2 e3 _ fun F4 φ4 H4 s4 p4 hs4 => ?_
      rw [if_neg (by decide)]
      exact q Z2 F4 φ4 σ' H4 (s2.trans s4) (List.IsPrefix.trans p2 p4) hs4 (ss2.mono s4 p4)
    · rename_i L3 e3
      refine hc.run hs2 ss2 e3 _ fun F4 φ4 H4 s4 p4 hs4 => ?_
      rw [if_pos rfl]
      refine ⟨fun σ' H' => ∃ (Z2 F2 : Hp) (φ2 : List Addr) (ρ2 : Ro) (L2 : Lg), Sub F F2 ∧ φ <+: φ2 ∧ Hs X.K X.mg Z2 F2 φ2 L2 H' ∧ Ss X.K Zx Z2 F2 φ2 ρ2 σ' ∧ whN t body n ρ2 L2 = some o,
        fun σ' H' w => ⟨n, Nat.lt_succ_self n, w⟩, ?_⟩
      have s24 := s2.trans s4
      have p24 := List.IsPrefix.trans p2 p4
      cases e5 : body ρ2 L3 with
      | none => rw [e5] at e2; cases e2
      | some o1 =>
        rw [e5] at e2
        refine hb.run hs4 (ss2.mono s4 p4) e5 _ ?_
        cases o1 with
        | nx ρ5 L5 => exact fun Z5 F5 φ5 σ5 H5 s5 p5 hs5 ss5 => ⟨Z5, F5, φ5, ρ5, L5, s24.trans s5, List.IsPrefix.trans p24 p5, hs5, ss5, e2⟩
        | ct ρ5 L5 => exact fun Z5 F5 φ5 σ5 H5 s5 p5 hs5 ss5 => ⟨Z5, F5, φ5, ρ5, L5, s24.trans s5, List.IsPrefix.trans p24 p5, hs5, ss5, e2⟩
        | bk ρ5 L5 =>
          cases e2
          exact fun Z5 F5 φ5 σ5 H5 s5 p5 hs5 ss5 => q Z5 F5 φ5 σ5 H5 (s24.trans s5) (List.IsPrefix.trans p24 p5) hs5 ss5
        | rt w L5 =>
          cases e2
          exact fun Z5 F5 φ5 H5 v5 s5 p5 z hs5 r5 => q Z5 F5 φ5 H5 v5 (s24.trans s5) (List.IsPrefix.trans p24 p5) z hs5 r5

/-! ### calls of defs -/
abbrev DF := List W → Lg → Option (W × Lg)
def spI (K : PySem.W.Frag) (mg : Str → Option Value) (n : Nat) (d : DF) : Sp := fun vs H Q _ => ∃ (Z F : Hp) (φ : List Addr) (L : Lg) (ws : List W) (w : W) (L' : Lg), Hs K mg Z F φ L H ∧ Rs K F φ ws vs ∧ ws.length = n ∧ d ws L = some (w, L') ∧
  ∀ (Z' F' : Hp) (φ' : List Addr) (H' : Hp) (v : V), Sub F F' → φ <+: φ' → Sub Z Z' → Hs K mg Z' F' φ' L' H' → R K F' φ' w v → Q v H'
def cCall (d : DF) (g : AF) : EF := fun ρ L => match g ρ L with
  | none => none
  | some (ws, L1) => d ws L1
theorem ie_call {k n : Nat} {f : Addr} {fd : FuncData} {ps : List Str} {x : Str} {p : Pos} {d : DF} {g : AF} (F : FnOk X.prog X.w X.K X.mg X.base CX0 k f fd ps (spI X.K X.mg n d)) (hr : Room k X.A) (hg : Gl X x) (hm : X.mg x = some (.ref f)) (hk : PySem.W.keepIn X.K (.ref f) = true) (hb : Binds X.K fd ps [])
    (ha : IA X (e :: es) g) (hn : ∀ ρ L ws L', g ρ L = some (ws, L') → ws.length = n) (hdb : (x == ("__debug__" : Str)) = false := by decide) (he : starEach (e :: es) X.env = (false, eval e X.env) :: starEach es X.env := by rfl) (hpl : (backTo pos (starEach es X.env)).any (·.1) = false := by rfl) :
    IE X (.Call (.Name x p) (e :: es) [] pos) (cCall d g) := by
  refine ⟨fun {Zx Z F1 φ L ρ σ H w L'} hs ss h Q q => PE.wp (pe_call (E := E0) (dvs := []) F hr hg hm hk hb .nil pass0 wpA hdb he hpl) ?_⟩
  unfold cCall at h
  split at h
  · cases h
  rename_i ws L1 e1
  refine ha.run hs ss e1 _ fun F2 φ2 H2 vs s2 p2 hs2 r2 => ?_
  refine ⟨Z, F2, φ2, L1, ws, w, L', hs2, by rw [List.append_nil]; exact r2, hn _ _ _ _ e1, h, fun Z' F' φ' H' v s3 p3 z hs3 r3 => ?_⟩
  exact q F' φ' H' v (s2.trans s3) (List.IsPrefix.trans p2 p3) (hs3.weak z) r3
theorem ie_call0 {k : Nat} {f : Addr} {fd : FuncData} {ps : List Str} {x : Str} {p : Pos} {d : DF} (F : FnOk X.prog X.w X.K X.mg X.base CX0 k f fd ps (spI X.K X.mg 0 d)) (hr : Room k X.A) (hg : Gl X x) (hm : X.mg x = some (.ref f)) (hk : PySem.W.keepIn X.K (.ref f) = true) (hb : Binds X.K fd ps [])
    (hdb : (x == ("__debug__" : Str)) = false := by decide) : IE X (.Call (.Name x p) [] [] pos) (cCall d cNil) := by
  refine ⟨fun {Zx Z F1 φ L ρ σ H w L'} hs ss h Q q => PE.wp (pe_call0 (E := E0) (dvs := []) F hr hg hm hk hb .nil pass0 hdb) ?_⟩
  simp only [cCall, cNil] at h
  refine ⟨Z, F1, φ, L, [], w, L', hs, .nil, rfl, h, fun Z' F' φ' H' v s3 p3 z hs3 r3 => ?_⟩
  exact q F' φ' H' v s3 p3 (hs3.weak z) r3
theorem len_nil : ∀ (ρ : Ro) (L : Lg) (ws : List W) (L' : Lg), cNil ρ L = some (ws, L') → ws.length = 0 := fun ρ L ws L' h => by
  simp only [cNil, Option.some.injEq, Prod.mk.injEq] at h
  rw [← h.1]; rfl
theorem len_cons {f : EF} {g : AF} {n : Nat} (hg : ∀ ρ L ws L', g ρ L = some (ws, L') → ws.length = n) : ∀ (ρ : Ro) (L : Lg) (ws : List W) (L' : Lg), cCons f g ρ L = some (ws, L') → ws.length = n + 1 := fun ρ L ws L' h => by
  unfold cCons at h
  split at h
  · cases h
  rename_i w L1 e1
  split at h
  · cases h
  rename_i ws' L2 e2
  simp only [Option.some.injEq, Prod.mk.injEq] at h
  rw [← h.1, List.length_cons, hg _ _ _ _ e2]
/-- a def's body, run on arguments -/
def runDef (N : Nat) (body : SF) : DF := fun ws L => match body (ws.map Sl.va ++ List.replicate (N - ws.length) .un) L with
  | some (.nx _ L') => some (.non, L')
  | some (.rt w L') => some (w, L')
  | _ => none
theorem Ss.start {K : PySem.W.Frag} {Z F : Hp} {φ : List Addr} {ws : List W} {vs : List V} {N : List Str} (r : Rs K F φ ws vs) : Ss K Z Z F φ (ws.map Sl.va ++ List.replicate (N.length - ws.length) .un) (L2.start N vs) := by
  have hl := r.length
  have key : ∀ {i : Nat} {x : Sl}, (ws.map Sl.va ++ List.replicate (N.length - ws.length) .un)[i]? = some x → x ≠ .un → ∃ w, ws[i]? = some w ∧ x = .va w := fun {i x} e n => by
    by_cases hi : i < ws.length
    · rw [List.getElem?_append_left (by simpa using hi), List.getElem?_map] at e
      cases q : ws[i]? with
      | none => rw [q] at e; cases e
      | some w => rw [q] at e; simp at e; exact ⟨w, rfl, e.symm⟩
    · rw [List.getElem?_append_right (by simpa using hi), List.getElem?_replicate] at e
      split at e
      · simp at e; exact absurd e.symm n
      · cases e
  refine ⟨by unfold L2.start; simp [hl], fun i w e => ?_, fun i m e => ?_, fun i j m m' a e1 e2 e3 e4 => ?_, Sub.refl Z⟩
  · obtain ⟨w', h1, h2⟩ := key e (fun z => by cases z)
    cases h2
    obtain ⟨v, k1, k2⟩ := r.get h1
    refine ⟨v, ?_, k2⟩
    unfold L2.start
    have hi : i < vs.length := (List.getElem?_eq_some_iff.mp k1).1
    rw [List.getElem?_append_left (by simpa using hi), List.getElem?_map, k1]; rfl
  · obtain ⟨w', h1, h2⟩ := key e (fun z => by cases z)
    cases h2
  · obtain ⟨w', h1, h2⟩ := key e1 (fun z => by cases z)
    cases h2
theorem fn_ok {P : Program} {w : World} {K : PySem.W.Frag} {mg : Str → Option Value} {base : Heap} {x qual : Str} {st : Stmt} {f : Addr} {fd : FuncData} {N ps : List Str} {k : Nat} {body : SF} (F : Fun K x qual st f fd) (S : FnScope N ps (defScope st))
    (hb : ∀ (cdv : Value) (A : Around) (outer : List Env) (s : Shared) (H : Hp) (E : XK), Room k (A.deeper (envOfC qual (defScope st) s.heap.objs.size f cdv)) → ISs (cxOf CX0 P w K mg base N qual (defScope st) f cdv A outer s H E).nox (defBody st) body) :
    FnOk P w K mg base CX0 (k + 1) f fd ps (spI K mg ps.length (runDef N.length body)) := by
  refine F.ok S (fun vs H Q E h => ?_) (fun cdv A outer s H vs Q E hr h => ?_)
  · obtain ⟨Z, F, φ, L, ws, w, L', h1, h2, h3, _⟩ := h
    rw [← h2.length]; exact h3
  · obtain ⟨Z, F1, φ, L, ws, w1, L', h1, h2, h3, h4, q⟩ := h
    refine ⟨_, wpSs, ?_⟩
    unfold runDef at h4
    split at h4
    · rename_i ρ1 L1 e1
      simp only [Option.some.injEq, Prod.mk.injEq] at h4
      obtain ⟨rfl, rfl⟩ := h4
      exact (hb cdv A outer s H E hr).run h1 (Ss.start h2) e1 _ fun Z' F' φ' σ' H' s1 p1 hs1 ss1 => q Z' F' φ' H' .non s1 p1 ss1.out hs1 .non
    · rename_i w2 L1 e1
      simp only [Option.some.injEq, Prod.mk.injEq] at h4
      obtain ⟨rfl, rfl⟩ := h4
      exact (hb cdv A outer s H E hr).run h1 (Ss.start h2) e1 _ fun Z' F' φ' H' v s1 p1 z hs1 r1 => q Z' F' φ' H' v s1 p1 z hs1 r1
    · cases h4

/-! ### built-ins -/
/-- a built-in by values -/
def OpN (X : Cx) (r : List V → Hp → VK → Prop) (g : List W → Option W) : Prop := ∀ {Z F : Hp} {φ : List Addr} {L : Lg} {H : Hp} {ws : List W} {w : W} {vs : List V}, Hs X.K X.mg Z F φ L H → Rs X.K F φ ws vs → g ws = some w →
  ∀ Q : VK, (∀ (F' : Hp) (H' : Hp) (v : V), Sub F F' → Hs X.K X.mg Z F' φ L H' → R X.K F' φ w v → Q v H') → r vs H Q
def cN (g : List W → Option W) (f : AF) : EF := fun ρ L => match f ρ L with
  | none => none
  | some (ws, L1) => match g ws with
    | none => none
    | some w => some (w, L1)
theorem ie_blt {x : Str} {id : String} {r : List V → Hp → VK → Prop} {g : List W → Option W} {f : AF} {p : Pos} (hc : CallR X (.builtin id) r) (sg : OpN X r g) (hg : Gl X x) (hm : X.mg x = none) (hv : bootBuiltins x = some (.builtin id)) (ha : IA X (e :: es) f) (hn : x ≠ "__name__" := by decide) (hdb : (x == ("__debug__" : Str)) = false := by decide)
    (he : starEach (e :: es) X.env = (false, eval e X.env) :: starEach es X.env := by rfl) (hpl : (backTo pos (starEach es X.env)).any (·.1) = false := by rfl) : IE X (.Call (.Name x p) (e :: es) [] pos) (cN g f) := by
  refine ⟨fun {Zx Z F φ L ρ σ H w L'} hs ss h Q q => PE.wp (pe_callB hc hg hm hv wpA hn hdb he hpl) ?_⟩
  unfold cN at h
  split at h
  · cases h
  rename_i ws L1 e1
  split at h
  · cases h
  rename_i w' e2
  simp only [Option.some.injEq, Prod.mk.injEq] at h
  obtain ⟨rfl, rfl⟩ := h
  refine ha.run hs ss e1 _ fun F1 φ1 H1 vs s1 p1 hs1 r1 => ?_
  exact sg hs1 r1 e2 Q fun F3 H3 v s3 hs3 rv => q F3 φ1 H3 v (s1.trans s3) p1 hs3 rv
theorem ie_bltT {x : Str} {T : String} {r : List V → Hp → VK → Prop} {g : List W → Option W} {f : AF} {p : Pos} (hc : CallR X (.type T) r) (sg : OpN X r g) (hg : Gl X x) (hm : X.mg x = none) (hv : bootBuiltins x = some (.type T)) (ha : IA X (e :: es) f) (hn : x ≠ "__name__" := by decide) (hdb : (x == ("__debug__" : Str)) = false := by decide)
    (he : starEach (e :: es) X.env = (false, eval e X.env) :: starEach es X.env := by rfl) (hpl : (backTo pos (starEach es X.env)).any (·.1) = false := by rfl) : IE X (.Call (.Name x p) (e :: es) [] pos) (cN g f) := by
  refine ⟨fun {Zx Z F φ L ρ σ H w L'} hs ss h Q q => PE.wp (pe_callTy hc hg hm hv wpA hn hdb he hpl) ?_⟩
  unfold cN at h
  split at h
  · cases h
  rename_i ws L1 e1
  split at h
  · cases h
  rename_i w' e2
  simp only [Option.some.injEq, Prod.mk.injEq] at h
  obtain ⟨rfl, rfl⟩ := h
  refine ha.run hs ss e1 _ fun F1 φ1 H1 vs s1 p1 hs1 r1 => ?_
  exact sg hs1 r1 e2 Q fun F3 H3 v s3 hs3 rv => q F3 φ1 H3 v (s1.trans s3) p1 hs3 rv
def absW : List W → Option W
  | [.int i] => some (.int (if i < 0 then -i else i))
  | _ => none
theorem ie_abs {f : AF} {p : Pos} (hg : Gl X "abs") (hm : X.mg "abs" = none) (ha : IA X [a] f) (he : starEach [a] X.env = (false, eval a X.env) :: starEach [] X.env := by rfl) : IE X (.Call (.Name "abs" p) [a] [] pos) (cN absW f) := by
  refine ie_blt call_abs (fun {Z F φ L H ws w vs} hs rs h Q q => ?_) hg hm (by decide +kernel) ha (he := he)
  unfold absW at h
  split at h
  · cases h
    cases rs with
    | cons r1 r2 => cases r1; cases r2; exact ⟨_, rfl, flat hs (.int _) q⟩
  · cases h
def intW : List W → Option W
  | [.int i] => some (.int i)
  | [.bl b] => some (.int (if b then 1 else 0))
  | _ => none
theorem ie_int1 {f : AF} {p : Pos} (hg : Gl X "int") (hm : X.mg "int" = none) (ha : IA X [a] f) (he : starEach [a] X.env = (false, eval a X.env) :: starEach [] X.env := by rfl) : IE X (.Call (.Name "int" p) [a] [] pos) (cN intW f) := by
  refine ie_bltT call_int1 (fun {Z F φ L H ws w vs} hs rs h Q q => ?_) hg hm (by decide +kernel) ha (he := he)
  unfold intW at h
  split at h
  · cases h
    cases rs with
    | cons r1 r2 => cases r1; cases r2; exact .inl ⟨_, rfl, flat hs (.int _) q⟩
  · cases h
    cases rs with
    | cons r1 r2 => cases r1; cases r2; exact .inr ⟨_, rfl, flat hs (.int _) q⟩
  · cases h
def minW2 : List W → Option W
  | [.int i, .int j] => some (.int (if j < i then j else i))
  | _ => none
def maxW2 : List W → Option W
  | [.int i, .int j] => some (.int (if j > i then j else i))
  | _ => none
theorem ie_min2 {f : AF} {p : Pos} (hcm : X.calm = true) (hg : Gl X "min") (hm : X.mg "min" = none) (ha : IA X [a, b] f) (he : starEach [a, b] X.env = (false, eval a X.env) :: starEach [b] X.env := by rfl) (hpl : (backTo pos (starEach [b] X.env)).any (·.1) = false := by rfl) : IE X (.Call (.Name "min" p) [a, b] [] pos) (cN minW2 f) := by
  refine ie_blt (call_min2 hcm) (fun {Z F φ L H ws w vs} hs rs h Q q => ?_) hg hm (by decide +kernel) ha (he := he) (hpl := hpl)
  unfold minW2 at h
  split at h
  · cases h
    cases rs with
    | cons r1 r2 =>
      cases r2 with
      | cons r2 r3 => cases r1; cases r2; cases r3; exact ⟨_, _, rfl, flat hs (.int _) q⟩
  · cases h
theorem ie_max2 {f : AF} {p : Pos} (hcm : X.calm = true) (hg : Gl X "max") (hm : X.mg "max" = none) (ha : IA X [a, b] f) (he : starEach [a, b] X.env = (false, eval a X.env) :: starEach [b] X.env := by rfl) (hpl : (backTo pos (starEach [b] X.env)).any (·.1) = false := by rfl) : IE X (.Call (.Name "max" p) [a, b] [] pos) (cN maxW2 f) := by
  refine ie_blt (call_max2 hcm) (fun {Z F φ L H ws w vs} hs rs h Q q => ?_) hg hm (by decide +kernel) ha (he := he) (hpl := hpl)
  unfold maxW2 at h
  split at h
  · cases h
    cases rs with
    | cons r1 r2 =>
      cases r2 with
      | cons r2 r3 => cases r1; cases r2; cases r3; exact ⟨_, _, rfl, flat hs (.int _) q⟩
  · cases h
/-! one container as the argument -/
def OpC (X : Cx) (r : List V → Hp → VK → Prop) (g : W → Option W) : Prop := ∀ {Z F : Hp} {φ : List Addr} {L : Lg} {H : Hp} {w0 w : W} {v0 : V}, Hs X.K X.mg Z F φ L H → Cont X.K F φ H w0 v0 → g w0 = some w →
  ∀ Q : VK, (∀ (F' : Hp) (H' : Hp) (v : V), Sub F F' → Hs X.K X.mg Z F' φ L H' → R X.K F' φ w v → Q v H') → r [v0] H Q
def cC (g : W → Option W) (f : OF) : EF := fun ρ L => match f ρ L with
  | none => none
  | some (h, L1) => match cont ρ L1 h with
    | none => none
    | some w0 => match g w0 with
      | none => none
      | some w => some (w, L1)
theorem ctn {r : List V → Hp → VK → Prop} {g : W → Option W} {f : OF} (sg : OpC X r g) (ha : IO X a f) {Zx Z F : Hp} {φ : List Addr} {L : Lg} {ρ : Ro} {σ : L2.St} {H : Hp} {w : W} {L' : Lg} (hs : Hs X.K X.mg Z F φ L H) (ss : Ss X.K Zx Z F φ ρ σ) (h : cC g f ρ L = some (w, L'))
    (Q : VK) (q : ∀ (F' : Hp) (φ' : List Addr) (H' : Hp) (v : V), Sub F F' → φ <+: φ' → Hs X.K X.mg Z F' φ' L' H' → R X.K F' φ' w v → Q v H') : tCB r (tCons (Wp X a) tNil) σ H Q := by
  unfold cC at h
  split at h
  · cases h
  rename_i hd L1 e1
  split at h
  · cases h
  rename_i w0 e2
  split at h
  · cases h
  rename_i w1 e3
  simp only [Option.some.injEq, Prod.mk.injEq] at h
  obtain ⟨rfl, rfl⟩ := h
  refine ha.run hs ss e1 _ fun F1 φ1 H1 v s1 p1 hs1 r1 => ?_
  exact sg hs1 (cont_ok hs1 (ss.mono s1 p1) r1 e2) e3 Q fun F3 H3 v s3 hs3 rv => q F3 φ1 H3 v (s1.trans s3) p1 hs3 rv
theorem ie_bltC {x : Str} {id : String} {r : List V → Hp → VK → Prop} {g : W → Option W} {f : OF} {p : Pos} (hc : CallR X (.builtin id) r) (sg : OpC X r g) (hg : Gl X x) (hm : X.mg x = none) (hv : bootBuiltins x = some (.builtin id)) (ha : IO X a f) (hn : x ≠ "__name__" := by decide) (hdb : (x == ("__debug__" : Str)) = false := by decide)
    (he : starEach [a] X.env = (false, eval a X.env) :: starEach [] X.env := by rfl) (hpl : (backTo pos (starEach [] X.env)).any (·.1) = false := by rfl) : IE X (.Call (.Name x p) [a] [] pos) (cC g f) :=
  ⟨fun hs ss h Q q => PE.wp (pe_callB hc hg hm hv (pa_cons wpE pa_nil he) hn hdb he hpl) (ctn sg ha hs ss h Q q)⟩
theorem ie_bltCT {x : Str} {T : String} {r : List V → Hp → VK → Prop} {g : W → Option W} {f : OF} {p : Pos} (hc : CallR X (.type T) r) (sg : OpC X r g) (hg : Gl X x) (hm : X.mg x = none) (hv : bootBuiltins x = some (.type T)) (ha : IO X a f) (hn : x ≠ "__name__" := by decide) (hdb : (x == ("__debug__" : Str)) = false := by decide)
    (he : starEach [a] X.env = (false, eval a X.env) :: starEach [] X.env := by rfl) (hpl : (backTo pos (starEach [] X.env)).any (·.1) = false := by rfl) : IE X (.Call (.Name x p) [a] [] pos) (cC g f) :=
  ⟨fun hs ss h Q q => PE.wp (pe_callTy hc hg hm hv (pa_cons wpE pa_nil he) hn hdb he hpl) (ctn sg ha hs ss h Q q)⟩
/-- a list's or tuple's items -/
theorem Cont.seq {K : PySem.W.Frag} {F H : Hp} {φ : List Addr} {ws : List W} {v : V} (s : Sub F H) (h : Cont K F φ H (.lst ws) v) : ∃ a vs, v = .ref a ∧ SqL K H a vs ∧ Rs K F φ ws vs := by
  rcases h with h | ⟨a, o, m, rfl, e, h1, h2⟩
  · cases h with
    | lst g1 g2 => exact ⟨_, _, rfl, SqL.of (s _ _ g1), g2⟩
  · cases m with
    | lst xs =>
      cases e
      cases o <;> first | exact h2.elim | skip
      exact ⟨a, _, rfl, SqL.of h1, h2⟩
    | dK xs => cases e
    | dT xs => cases e
theorem Cont.tup {K : PySem.W.Frag} {F H : Hp} {φ : List Addr} {ws : List W} {v : V} (s : Sub F H) (h : Cont K F φ H (.tup ws) v) : ∃ a vs, v = .ref a ∧ SqT K H a vs ∧ Rs K F φ ws vs := by
  rcases h with h | ⟨a, o, m, rfl, e, h1, h2⟩
  · cases h with
    | tup g1 g2 => exact ⟨_, _, rfl, g1.sq s, g2⟩
  · cases m <;> cases e
theorem Cont.scr {K : PySem.W.Frag} {F H : Hp} {φ : List Addr} {ns : List Int} {v : V} (s : Sub F H) (h : Cont K F φ H (.scr ns) v) : ∃ a, v = .ref a ∧ SqL K H a (ns.map V.int) := by
  rcases h with h | ⟨a, o, m, rfl, e, h1, h2⟩
  · cases h with
    | scr g1 => exact ⟨_, rfl, SqL.mono s g1⟩
  · cases m <;> cases e
theorem Cont.str {K : PySem.W.Frag} {F H : Hp} {φ : List Addr} {x : Str} {v : V} (h : Cont K F φ H (.str x) v) : v = .str x := by
  rcases h with h | ⟨a, o, m, rfl, e, h1, h2⟩
  · cases h; rfl
  · cases m <;> cases e
def lenW : W → Option W
  | .lst xs => some (.int xs.length)
  | .tup xs => some (.int xs.length)
  | .scr ns => some (.int ns.length)
  | .str s => if s.length ≤ 16777216 then some (.int s.length) else none
  | _ => none
theorem ie_len {f : OF} {p : Pos} (hg : Gl X "len") (hm : X.mg "len" = none) (ha : IO X a f) (he : starEach [a] X.env = (false, eval a X.env) :: starEach [] X.env := by rfl) : IE X (.Call (.Name "len" p) [a] [] pos) (cC lenW f) := by
  refine ie_bltC call_len (fun {Z F φ L H w0 w v0} hs c h Q q => ?_) hg hm (by decide +kernel) ha (he := he)
  unfold lenW at h
  split at h
  · cases h
    obtain ⟨a, vs, rfl, g1, g2⟩ := c.seq hs.sub
    exact ⟨_, _, rfl, .inl ⟨_, g1, g2.length⟩, flat hs (.int _) q⟩
  · cases h
    obtain ⟨a, vs, rfl, g1, g2⟩ := c.tup hs.sub
    exact ⟨_, _, rfl, .inr ⟨_, g1, g2.length⟩, flat hs (.int _) q⟩
  · cases h
    obtain ⟨a, rfl, g1⟩ := c.scr hs.sub
    exact ⟨_, _, rfl, .inl ⟨_, g1, by simp⟩, flat hs (.int _) q⟩
  · split at h
    · rename_i hz
      cases h
      have e := c.str
      subst e
      exact ⟨_, _, rfl, ⟨by rw [sizeLine_eq]; exact hz, rfl⟩, flat hs (.int _) q⟩
    · cases h
  · cases h
def intsW : List W → Option (List Int)
  | [] => some []
  | .int i :: r => match intsW r with
    | some ns => some (i :: ns)
    | none => none
  | _ => none
theorem intsW_eq : ∀ {ws : List W} {ns : List Int}, intsW ws = some ns → ws = ns.map W.int
  | [], ns, h => by simp only [intsW, Option.some.injEq] at h; subst h; rfl
  | w :: r, ns, h => by
    cases w <;> try (simp only [intsW] at h; cases h; done)
    simp only [intsW] at h
    split at h
    · rename_i ns' e
      simp only [Option.some.injEq] at h
      subst h
      rw [List.map_cons, intsW_eq e]
    · cases h
theorem intsW_map (ns : List Int) : intsW (ns.map W.int) = some ns := by
  induction ns with
  | nil => rfl
  | cons n r ih => simp only [List.map_cons, intsW, ih]
def sumW : W → Option W
  | .lst xs => match intsW xs with
    | some ns => some (.int ns.sum)
    | none => none
  | _ => none
theorem ie_sum {f : OF} {p : Pos} (hcm : X.calm = true) (hg : Gl X "sum") (hm : X.mg "sum" = none) (ha : IO X a f) (he : starEach [a] X.env = (false, eval a X.env) :: starEach [] X.env := by rfl) : IE X (.Call (.Name "sum" p) [a] [] pos) (cC sumW f) := by
  refine ie_bltC (cr_sum hcm) (fun {Z F φ L H w0 w v0} hs c h Q q => ?_) hg hm (by decide +kernel) ha (he := he)
  unfold sumW at h
  split at h
  · split at h
    · rename_i ns e
      cases h
      obtain ⟨a, vs, rfl, g1, g2⟩ := c.seq hs.sub
      rw [intsW_eq e] at g2
      rw [g2.ints] at g1
      exact ⟨_, _, rfl, g1, flat hs (.int _) q⟩
    · cases h
  · cases h
def leastI : List Int → Option Int
  | [] => none
  | n :: r => some (r.foldl (fun a b => if b < a then b else a) n)
def mostI : List Int → Option Int
  | [] => none
  | n :: r => some (r.foldl (fun a b => if a < b then b else a) n)
theorem fold_least : ∀ (r : List Int) (n : Int), (r.foldl (fun a b => if b < a then b else a) n ∈ n :: r) ∧ ∀ y ∈ n :: r, r.foldl (fun a b => if b < a then b else a) n ≤ y
  | [], n => by simp
  | b :: r, n => by
    rw [List.foldl_cons]
    have hc : ∃ c, (if b < n then b else n) = c ∧ c ≤ b ∧ c ≤ n ∧ (c = b ∨ c = n) := by
      by_cases h : b < n
      · exact ⟨b, if_pos h, Int.le_refl _, by omega, .inl rfl⟩
      · exact ⟨n, if_neg h, by omega, Int.le_refl _, .inr rfl⟩
    obtain ⟨c, ec, c1, c2, c3⟩ := hc
    rw [ec]
    obtain ⟨h1, h2⟩ := fold_least r c
    have h3 := h2 c List.mem_cons_self
    refine ⟨?_, fun y hy => ?_⟩
    · rcases List.mem_cons.mp h1 with h1 | h1
      · rw [h1]; rcases c3 with e | e <;> rw [e] <;> simp
      · simp [h1]
    · rcases List.mem_cons.mp hy with rfl | hy
      · omega
      · rcases List.mem_cons.mp hy with rfl | hy
        · omega
        · exact h2 y (List.mem_cons_of_mem _ hy)
theorem fold_most : ∀ (r : List Int) (n : Int), (r.foldl (fun a b => if a < b then b else a) n ∈ n :: r) ∧ ∀ y ∈ n :: r, y ≤ r.foldl (fun a b => if a < b then b else a) n
  | [], n => by simp
  | b :: r, n => by
    rw [List.foldl_cons]
    have hc : ∃ c, (if n < b then b else n) = c ∧ b ≤ c ∧ n ≤ c ∧ (c = b ∨ c = n) := by
      by_cases h : n < b
      · exact ⟨b, if_pos h, Int.le_refl _, by omega, .inl rfl⟩
      · exact ⟨n, if_neg h, by omega, Int.le_refl _, .inr rfl⟩
    obtain ⟨c, ec, c1, c2, c3⟩ := hc
    rw [ec]
    obtain ⟨h1, h2⟩ := fold_most r c
    have h3 := h2 c List.mem_cons_self
    refine ⟨?_, fun y hy => ?_⟩
    · rcases List.mem_cons.mp h1 with h1 | h1
      · rw [h1]; rcases c3 with e | e <;> rw [e] <;> simp
      · simp [h1]
    · rcases List.mem_cons.mp hy with rfl | hy
      · omega
      · rcases List.mem_cons.mp hy with rfl | hy
        · omega
        · exact h2 y (List.mem_cons_of_mem _ hy)
theorem leastI_spec {ns : List Int} {m : Int} (h : leastI ns = some m) : m ∈ ns ∧ ∀ y ∈ ns, m ≤ y := by
  cases ns with
  | nil => cases h
  | cons n r => simp only [leastI, Option.some.injEq] at h; subst h; exact fold_least r n
theorem mostI_spec {ns : List Int} {m : Int} (h : mostI ns = some m) : m ∈ ns ∧ ∀ y ∈ ns, y ≤ m := by
  cases ns with
  | nil => cases h
  | cons n r => simp only [mostI, Option.some.injEq] at h; subst h; exact fold_most r n
def minW1 : W → Option W
  | .lst xs => match intsW xs with
    | some ns => (match leastI ns with
      | some m => some (.int m)
      | none => none)
    | none => none
  | _ => none
def maxW1 : W → Option W
  | .lst xs => match intsW xs with
    | some ns => (match mostI ns with
      | some m => some (.int m)
      | none => none)
    | none => none
  | _ => none
theorem ie_min1 {f : OF} {p : Pos} (hcm : X.calm = true) (hg : Gl X "min") (hm : X.mg "min" = none) (ha : IO X a f) (he : starEach [a] X.env = (false, eval a X.env) :: starEach [] X.env := by rfl) : IE X (.Call (.Name "min" p) [a] [] pos) (cC minW1 f) := by
  refine ie_bltC (cr_min hcm) (fun {Z F φ L H w0 w v0} hs c h Q q => ?_) hg hm (by decide +kernel) ha (he := he)
  unfold minW1 at h
  split at h
  · split at h
    · rename_i ns e
      split at h
      · rename_i m em
        cases h
        obtain ⟨a, vs, rfl, g1, g2⟩ := c.seq hs.sub
        rw [intsW_eq e] at g2
        rw [g2.ints] at g1
        obtain ⟨k1, k2⟩ := leastI_spec em
        refine ⟨_, ns, rfl, g1, List.length_pos_of_mem k1, fun m' h1 h2 => ?_⟩
        have : m' = m := Int.le_antisymm (h2 m k1) (k2 m' h1)
        rw [this]
        exact flat hs (.int _) q
      · cases h
    · cases h
  · cases h
theorem ie_max1 {f : OF} {p : Pos} (hcm : X.calm = true) (hg : Gl X "max") (hm : X.mg "max" = none) (ha : IO X a f) (he : starEach [a] X.env = (false, eval a X.env) :: starEach [] X.env := by rfl) : IE X (.Call (.Name "max" p) [a] [] pos) (cC maxW1 f) := by
  refine ie_bltC (cr_max hcm) (fun {Z F φ L H w0 w v0} hs c h Q q => ?_) hg hm (by decide +kernel) ha (he := he)
  unfold maxW1 at h
  split at h
  · split at h
    · rename_i ns e
      split at h
      · rename_i m em
        cases h
        obtain ⟨a, vs, rfl, g1, g2⟩ := c.seq hs.sub
        rw [intsW_eq e] at g2
        rw [g2.ints] at g1
        obtain ⟨k1, k2⟩ := mostI_spec em
        refine ⟨_, ns, rfl, g1, List.length_pos_of_mem k1, fun m' h1 h2 => ?_⟩
        have : m' = m := Int.le_antisymm (k2 m' h1) (h2 m k1)
        rw [this]
        exact flat hs (.int _) q
      · cases h
    · cases h
  · cases h
/-- isinstance(x, T), T a built-in type -/
def tyName : W → Option String
  | .non => some "NoneType"
  | .bl _ => some "bool"
  | .int _ => some "int"
  | .str _ => some "str"
  | .lst _ => some "list"
  | .tup _ => some "tuple"
  | _ => none
def isiW (T : String) : List W → Option W
  | [x, .ty T'] => if T' = T then (match tyName x with
    | some n => (match kitB n T with
      | some b => some (.bl b)
      | none => none)
    | none => none) else none
  | _ => none
theorem R.tyx {K : PySem.W.Frag} {F H : Hp} {φ : List Addr} {w : W} {v : V} {n : String} (s : Sub F H) (r : R K F φ w v) (h : tyName w = some n) : TyX K H v (.type n) := by
  cases r with
  | non => cases h; exact .base .non
  | bl b => cases h; exact .base (.bl b)
  | int i => cases h; exact .base (.int i)
  | str x => cases h; exact .base (.str x)
  | lst g1 g2 => cases h; exact .base (.lst (s _ _ g1))
  | tup g1 g2 =>
    cases h
    exact .base (.tup (s _ _ g1))
  | _ => cases h
theorem ie_isi {T : String} {f : AF} {p : Pos} (hg : Gl X "isinstance") (hm : X.mg "isinstance" = none) (ha : IA X [a, b] f) (he : starEach [a, b] X.env = (false, eval a X.env) :: starEach [b] X.env := by rfl) (hpl : (backTo pos (starEach [b] X.env)).any (·.1) = false := by rfl) : IE X (.Call (.Name "isinstance" p) [a, b] [] pos) (cN (isiW T) f) := by
  refine ie_blt call_isi (fun {Z F φ L H ws w vs} hs rs h Q q => ?_) hg hm (by decide +kernel) ha (he := he) (hpl := hpl)
  unfold isiW at h
  split at h
  · split at h
    · rename_i x T' hT
      subst hT
      split at h
      · rename_i n e1
        split at h
        · rename_i k e2
          cases h
          cases rs with
          | cons r1 r2 =>
            cases r2 with
            | cons r2 r3 =>
              cases r2; cases r3
              exact ⟨_, _, _, _, k, rfl, .ty _, r1.tyx hs.sub e1, kit_ty e2, flat hs (.bl _) q⟩
        · cases h
      · cases h
    · cases h
  · cases h
theorem ie_ty {x : Str} {T : String} (hg : Gl X x) (hm : X.mg x = none) (hv : bootBuiltins x = some (.type T)) (hn : x ≠ "__name__" := by decide) (hdb : (x == ("__debug__" : Str)) = false := by decide) : IE X (.Name x pos) (cK (.ty T)) := ie_k (pe_bltn (v := .ty T) hg hm hv rfl hn hdb) fun _ _ => .ty T
/-- list(xs) -/
def listW (f : OF) : NF := fun ρ L => match f ρ L with
  | none => none
  | some (h, L1) => match cont ρ L1 h with
    | some (.lst ws) => some (.lst ws, L1)
    | some (.tup ws) => some (.lst ws, L1)
    | _ => none
theorem in_list {f : OF} {p : Pos} (hg : Gl X "list") (hm : X.mg "list" = none) (ha : IO X a f) (he : starEach [a] X.env = (false, eval a X.env) :: starEach [] X.env := by rfl) (hpl : (backTo pos (starEach [] X.env)).any (·.1) = false := by rfl) : IN X (.Call (.Name "list" p) [a] [] pos) (listW f) := by
  refine ⟨fun {Zx Z F φ L ρ σ H m L'} hs ss h Q q => PE.wp (pe_callTy call_list_of hg hm (by decide +kernel) (pa_cons wpE pa_nil he) (he := he) (hpl := hpl)) ?_⟩
  unfold listW at h
  split at h
  · cases h
  rename_i hd L1 e1
  split at h
  · rename_i ws e2
    simp only [Option.some.injEq, Prod.mk.injEq] at h
    obtain ⟨rfl, rfl⟩ := h
    refine ha.run hs ss e1 _ fun F1 φ1 H1 v s1 p1 hs1 r1 => ?_
    obtain ⟨a, vs, rfl, g1, g2⟩ := (cont_ok hs1 (ss.mono s1 p1) r1 e2).seq hs1.sub
    exact ⟨_, _, rfl, .inl g1, fun l hl => q F1 φ1 _ l (.lst vs) s1 p1 (hs1.free hl).2.1 (hs1.fresh hl) g2⟩
  · rename_i ws e2
    simp only [Option.some.injEq, Prod.mk.injEq] at h
    obtain ⟨rfl, rfl⟩ := h
    refine ha.run hs ss e1 _ fun F1 φ1 H1 v s1 p1 hs1 r1 => ?_
    obtain ⟨a, vs, rfl, g1, g2⟩ := (cont_ok hs1 (ss.mono s1 p1) r1 e2).tup hs1.sub
    exact ⟨_, _, rfl, .inr g1, fun l hl => q F1 φ1 _ l (.lst vs) s1 p1 (hs1.free hl).2.1 (hs1.fresh hl) g2⟩
  · cases h
end
end Lf

set_option maxHeartbeats 4000000
/-! Lf, part S: sorted(list), sorted(set(list of pairs)), slices. -/
namespace Lf
open PySem PySem.Spec PyProof.Rows L2
open PySem.SeqAt in
/-! ### sorted of data -/
def tupOne : PyData → Bool
  | .tuple (_ :: _) => true
  | _ => false
def noTup : PyData → Bool
  | .none => false
  | .tuple _ => false
  | _ => true
def sortOk (ds : List PyData) : Bool := (ds.all fun d => ds.all fun d' => PySem.W.alike d d') && (ds.all tupOne || ds.all noTup) && ds.all fun d => decide (d.depth ≤ 64)
theorem sortOk_parts {ds : List PyData} (h : sortOk ds = true) : PySem.W.AllAlike ds ∧ PySem.W.Sortable ds ∧ ∀ d ∈ ds, d.depth ≤ 64 := by
  unfold sortOk at h
  simp only [Bool.and_eq_true, Bool.or_eq_true, List.all_eq_true, decide_eq_true_eq] at h
  obtain ⟨⟨h1, h2⟩, h3⟩ := h
  refine ⟨h1, ?_, h3⟩
  rcases h2 with h2 | h2
  · refine .inl fun d hd => ?_
    have q := h2 d hd
    unfold tupOne at q
    split at q
    · exact ⟨_, _, rfl⟩
    · cases q
  · refine .inr fun d hd => ?_
    have q := h2 d hd
    refine ⟨fun e => ?_, fun xs e => ?_⟩
    · subst e; cases q
    · subst e; cases q
def encW (w : W) : PyData := (toD w).getD .none
theorem toDs_enc : ∀ {ws : List W} {ds : List PyData}, toDs ws = some ds → ds = ws.map encW ∧ ∀ w ∈ ws, toD w = some (encW w)
  | [], ds, h => by simp only [toDs, Option.some.injEq] at h; subst h; exact ⟨rfl, fun _ h => nomatch h⟩
  | w :: ws, ds, h => by
    simp only [toDs] at h
    split at h
    · rename_i d ds' e1 e2
      simp only [Option.some.injEq] at h
      subst h
      obtain ⟨k1, k2⟩ := toDs_enc e2
      have ew : encW w = d := by unfold encW; rw [e1]; rfl
      refine ⟨by rw [List.map_cons, ew, k1], fun w' hw => ?_⟩
      rcases List.mem_cons.mp hw with rfl | hw
      · rw [ew]; exact e1
      · exact k2 w' hw
    · cases h
/-- a list of things with their values, both read off it -/
theorem Rs.zipped {K : PySem.W.Frag} {F : Hp} {φ : List Addr} : ∀ {ws : List W} {vs : List V}, Rs K F φ ws vs → ∃ ts : List (W × V), ws = ts.map Prod.fst ∧ vs = ts.map Prod.snd ∧ ∀ t ∈ ts, R K F φ t.1 t.2
  | _, _, .nil => ⟨[], rfl, rfl, fun _ h => nomatch h⟩
  | _, _, .cons (w := w) (v := v) r t => by
    obtain ⟨ts, h1, h2, h3⟩ := Rs.zipped t
    refine ⟨(w, v) :: ts, by rw [h1]; rfl, by rw [h2]; rfl, fun t ht => ?_⟩
    rcases List.mem_cons.mp ht with rfl | ht
    · exact r
    · exact h3 t ht
theorem Rs.unzip {K : PySem.W.Frag} {F : Hp} {φ : List Addr} : ∀ {ts : List (W × V)}, (∀ t ∈ ts, R K F φ t.1 t.2) → Rs K F φ (ts.map Prod.fst) (ts.map Prod.snd)
  | [], _ => .nil
  | t :: ts, h => .cons (h t List.mem_cons_self) (Rs.unzip fun u hu => h u (List.mem_cons_of_mem _ hu))
/-- sorted, on values with their data -/
def rSrt (K : PySem.W.Frag) : List V → Hp → VK → Prop := fun vs H Q => ∃ (a : Addr) (bs : List (V × PyData)), vs = [V.ref a] ∧ SqL K H a (bs.map Prod.fst) ∧ (∀ b ∈ bs, Dp K H b.1 b.2) ∧ sortOk (bs.map Prod.snd) = true ∧
  ∀ p, H p = none → Q (.ref p) (upd H p (.lst ((bs.mergeSort (PySem.W.dataLe false Prod.snd)).map Prod.fst)))
theorem each_of {X : Cx} {pins : List (Addr × Obj)} {σ : L2.St} {H : Hp} {s : Shared} (I : Inv X pins σ H s) : ∀ {bs : List (V × PyData)} {us : List Value}, (∀ b ∈ bs, Dp X.K H b.1 b.2) → Vals (bs.map Prod.fst) us →
    PySem.W.EachIs (fun (v : Value) (b : V × PyData) => RelV b.1 v) us bs ∧ PySem.W.EachIs (fun v (b : V × PyData) => ∃ as, Reads s.heap v b.2 as) us bs
  | [], _, _, .nil => ⟨.nil, .nil⟩
  | b :: bs, _, hd, .cons r t => by
    obtain ⟨h1, h2⟩ := each_of I (fun c hc => hd c (List.mem_cons_of_mem _ hc)) t
    exact ⟨.cons r h1, .cons (Dp.reads I b.2 b.1 _ (hd b List.mem_cons_self) r) h2⟩
theorem vals_of_each : ∀ {bs : List (V × PyData)} {us : List Value}, PySem.W.EachIs (fun (v : Value) (b : V × PyData) => RelV b.1 v) us bs → Vals (bs.map Prod.fst) us
  | _, _, .nil => .nil
  | _, _, .cons r t => .cons r (vals_of_each t)
theorem cr_srt {X : Cx} (hu : X.A.units + 100 < cLine) : CallR X (.builtin "sorted") (rSrt X.K) := by
  intro pins s σ H vs us Q I r h
  obtain ⟨a, bs, rfl, hl, hd, ok, q⟩ := h
  obtain ⟨al, so, dp⟩ := sortOk_parts ok
  obtain ⟨its, rv, pl, hz⟩ := I.list hl
  obtain ⟨e1, e2⟩ := each_of I hd rv
  have hlb : bs.length ≤ sizeLine := by simpa using hz
  rw [Vals.ref1 r]
  refine PySem.W.sorted_data (enc := Prod.snd) (bs := bs) pl.isList e1 e2 al so hlb (fun b hb => ?_) fun out ho he => ?_
  · have := dp b.2 (List.mem_map.mpr ⟨b, hb, rfl⟩)
    omega
  · obtain ⟨ep, hg⟩ := PyProof.Rows.sortedAll_at s.heap its (List.toArray out)
    have hv := vals_of_each he
    have hn : H (s.heap.objs.size + 1) = none := I.hok.fresh (Nat.le_succ _)
    have hlen : ((bs.mergeSort (PySem.W.dataLe false Prod.snd)).map Prod.fst).length ≤ sizeLine := by rw [hv.length, ho]; exact hlb
    exact ⟨.ref _, _, I.laid (t' := s.toks) (fun _ _ z => PyProof.Rows.sortedAll_old z) (Nat.le_succ _) (show ObjOk X.prog X.w _ _ _ (.lst _) from ⟨hlen, out, ep, hv, hg⟩), rfl, q _ hn⟩
def sortL (ws : List W) : Option (List W) := match toDs ws with
  | some ds => if sortOk ds = true then some (ws.mergeSort (PySem.W.dataLe false encW)) else none
  | none => none
theorem sort_rel {K : PySem.W.Frag} {F : Hp} {φ : List Addr} {ts : List (W × V)} (h : ∀ t ∈ ts, R K F φ t.1 t.2) :
    Rs K F φ ((ts.map Prod.fst).mergeSort (PySem.W.dataLe false encW)) (((ts.map fun t => (t.2, encW t.1)).mergeSort (PySem.W.dataLe false Prod.snd)).map Prod.fst) := by
  have e1 : (ts.map Prod.fst).mergeSort (PySem.W.dataLe false encW) = (ts.mergeSort (PySem.W.dataLe false fun t => encW t.1)).map Prod.fst := by
    rw [List.map_mergeSort]
    intro a _ b _
    rfl
  have e2 : (ts.map fun t => (t.2, encW t.1)).mergeSort (PySem.W.dataLe false Prod.snd) = (ts.mergeSort (PySem.W.dataLe false fun t => encW t.1)).map fun t => (t.2, encW t.1) := by
    rw [List.map_mergeSort]
    intro a _ b _
    rfl
  rw [e1, e2, List.map_map]
  exact Rs.unzip fun t ht => h t ((List.mergeSort_perm _ _).mem_iff.mp ht)
section
variable {X : Cx} {e a b : Expr} {pos : Pos}
def nSort (f : OF) : NF := fun ρ L => match f ρ L with
  | none => none
  | some (h, L1) => match cont ρ L1 h with
    | some (.lst ws) => (match sortL ws with
      | some rs => some (.lst rs, L1)
      | none => none)
    | _ => none
theorem in_sorted {f : OF} {p : Pos} (hu : X.A.units + 100 < cLine) (hg : Gl X "sorted") (hm : X.mg "sorted" = none) (ha : IO X a f) (he : starEach [a] X.env = (false, eval a X.env) :: starEach [] X.env := by rfl) (hpl : (backTo pos (starEach [] X.env)).any (·.1) = false := by rfl) : IN X (.Call (.Name "sorted" p) [a] [] pos) (nSort f) := by
  refine ⟨fun {Zx Z F φ L ρ σ H m L'} hs ss h Q q => PE.wp (pe_callB (cr_srt hu) hg hm (by decide +kernel) (pa_cons wpE pa_nil he) (he := he) (hpl := hpl)) ?_⟩
  unfold nSort at h
  split at h
  · cases h
  rename_i hd L1 e1
  split at h
  · rename_i ws e2
    split at h
    · rename_i rs e3
      simp only [Option.some.injEq, Prod.mk.injEq] at h
      obtain ⟨rfl, rfl⟩ := h
      refine ha.run hs ss e1 _ fun F1 φ1 H1 v s1 p1 hs1 r1 => ?_
      obtain ⟨a, vs, rfl, g1, g2⟩ := (cont_ok hs1 (ss.mono s1 p1) r1 e2).seq hs1.sub
      unfold sortL at e3
      split at e3
      · rename_i ds e4
        split at e3
        · rename_i ok
          simp only [Option.some.injEq] at e3
          subst e3
          obtain ⟨k1, k2⟩ := toDs_enc e4
          obtain ⟨ts, t1, t2, t3⟩ := g2.zipped
          subst t1 t2
          refine ⟨a, ts.map fun t => (t.2, encW t.1), rfl, ?_, fun b hb => ?_, ?_, fun p hp => ?_⟩
          · rw [List.map_map]; exact g1
          · obtain ⟨t, ht, rfl⟩ := List.mem_map.mp hb
            exact (t3 t ht).dp hs1.sub (k2 t.1 (List.mem_map.mpr ⟨t, ht, rfl⟩))
          · rw [List.map_map]; rw [k1, List.map_map] at ok; exact ok
          · exact q F1 φ1 _ p _ s1 p1 (hs1.free hp).2.1 (hs1.fresh hp) (sort_rel t3)
        · cases e3
      · cases e3
    · cases h
  · cases h
end
end Lf

set_option maxHeartbeats 4000000
/-! Lf, part T: sorted(set(a list of pairs of ints)). -/
namespace Lf
open PySem PySem.Spec PyProof.Rows L2

/-! ### the one sorted list without repetitions -/
abbrev Cell := Int × Int
def leC (p q : Cell) : Bool := decide (p.1 < q.1 ∨ (p.1 = q.1 ∧ p.2 ≤ q.2))
theorem leC_trans (a b c : Cell) (h1 : leC a b = true) (h2 : leC b c = true) : leC a c = true := by
  simp only [leC, decide_eq_true_eq] at *; omega
theorem leC_total (a b : Cell) : (leC a b || leC b a) = true := by
  simp only [leC, Bool.or_eq_true, decide_eq_true_eq]; omega
theorem leC_anti {a b : Cell} (h1 : leC a b = true) (h2 : leC b a = true) : a = b := by
  simp only [leC, decide_eq_true_eq] at *
  apply Prod.ext <;> omega
def nubC : List Cell → List Cell
  | [] => []
  | c :: cs => if c ∈ nubC cs then nubC cs else c :: nubC cs
theorem mem_nubC {x : Cell} : ∀ {l : List Cell}, x ∈ nubC l ↔ x ∈ l
  | [] => by simp [nubC]
  | c :: cs => by
    unfold nubC
    have ih := mem_nubC (x := x) (l := cs)
    split
    · rename_i h
      rw [ih, List.mem_cons]
      constructor
      · exact .inr
      · rintro (rfl | h')
        · exact mem_nubC.mp h
        · exact h'
    · rw [List.mem_cons, List.mem_cons, ih]
theorem nodup_nubC : ∀ l : List Cell, (nubC l).Nodup
  | [] => by simp [nubC]
  | c :: cs => by
    unfold nubC
    split
    · exact nodup_nubC cs
    · rename_i h; exact List.nodup_cons.mpr ⟨h, nodup_nubC cs⟩
def sortC (l : List Cell) : List Cell := l.mergeSort leC
def canon (l : List Cell) : List Cell := sortC (nubC l)
theorem sortC_perm (l : List Cell) : (sortC l).Perm l := List.mergeSort_perm l leC
theorem sortC_pw (l : List Cell) : (sortC l).Pairwise fun a b => leC a b = true := List.pairwise_mergeSort leC_trans leC_total l
theorem sorted_uniq : ∀ {l m : List Cell}, l.Perm m → l.Pairwise (fun a b => leC a b = true) → m.Pairwise (fun a b => leC a b = true) → l = m
  | [], m, p, _, _ => (List.Perm.eq_nil p.symm).symm
  | x :: l, [], p, _, _ => absurd p.length_eq (by simp)
  | x :: l, y :: m, p, hl, hm => by
    have hx : x ∈ y :: m := p.mem_iff.mp List.mem_cons_self
    have hy : y ∈ x :: l := p.mem_iff.mpr List.mem_cons_self
    have r : ∀ z : Cell, leC z z = true := fun z => by simp [leC]
    have h1 : leC x y = true := by
      rcases List.mem_cons.mp hy with e | h
      · rw [e]; exact r x
      · exact (List.pairwise_cons.mp hl).1 y h
    have h2 : leC y x = true := by
      rcases List.mem_cons.mp hx with e | h
      · rw [e]; exact r y
      · exact (List.pairwise_cons.mp hm).1 x h
    have e := leC_anti h1 h2
    subst e
    rw [sorted_uniq p.cons_inv (List.pairwise_cons.mp hl).2 (List.pairwise_cons.mp hm).2]
theorem sortC_of {l m : List Cell} (p : l.Perm m) : sortC l = sortC m := sorted_uniq ((sortC_perm l).trans (p.trans (sortC_perm m).symm)) (sortC_pw l) (sortC_pw m)
theorem mem_canon {x : Cell} {l : List Cell} : x ∈ canon l ↔ x ∈ l := ((sortC_perm _).mem_iff).trans mem_nubC
theorem nodup_canon (l : List Cell) : (canon l).Nodup := (sortC_perm _).nodup_iff.mpr (nodup_nubC l)
theorem canon_of {l m : List Cell} (nd : m.Nodup) (h : ∀ x, x ∈ m ↔ x ∈ l) : canon l = sortC m := sortC_of ((List.perm_ext_iff_of_nodup (nodup_nubC l) nd).mpr fun x => mem_nubC.trans (h x).symm)
def cW (c : Cell) : W := .tup [.int c.1, .int c.2]
def cellsW : List W → Option (List Cell)
  | [] => some []
  | .tup [.int r, .int c] :: ws => match cellsW ws with
    | some cs => some ((r, c) :: cs)
    | none => none
  | _ => none
theorem cellsW_eq : ∀ {ws : List W} {cs : List Cell}, cellsW ws = some cs → ws = cs.map cW
  | [], cs, h => by simp only [cellsW, Option.some.injEq] at h; subst h; rfl
  | w :: ws, cs, h => by
    unfold cellsW at h
    split at h
    · cases h; rename_i e; cases e
    · rename_i r c ws' e
      cases e
      split at h
      · rename_i cs' e2
        simp only [Option.some.injEq] at h
        subst h
        rw [List.map_cons, ← cellsW_eq e2]; rfl
      · cases h
    · cases h
theorem cellsW_map (cs : List Cell) : cellsW (cs.map cW) = some cs := by
  induction cs with
  | nil => rfl
  | cons c r ih => rw [List.map_cons]; simp only [cellsW, cW]; rw [show r.map cW = List.map cW r from rfl, ih]

section
variable {P : Program} {w : World} {A : Around} {E : Value → Shared → Prop} {s : Shared}
/-- keys and pairs -/
def keyC (k : List Int) : Cell := (k.getD 0 0, k.getD 1 0)
theorem pw_keys {L : List (Addr × List Int)} (h2 : ∀ p ∈ L, p.2.length = 2) (e : L.Pairwise fun p q => PySem.W.dataLe false (fun p : Addr × List Int => PyData.tuple (p.2.map PyData.int)) p q = true) : (L.map fun p => keyC p.2).Pairwise fun a b => leC a b = true := by
  rw [List.pairwise_map]
  refine List.Pairwise.imp_of_mem (fun {p q} hp hq h => ?_) e
  obtain ⟨pa, pk⟩ := p
  obtain ⟨qa, qk⟩ := q
  have lp := h2 _ hp
  have lq := h2 _ hq
  obtain ⟨a, b, rfl⟩ : ∃ a b, pk = [a, b] := by
    match pk, lp with
    | [a, b], _ => exact ⟨a, b, rfl⟩
  obtain ⟨c, d, rfl⟩ : ∃ a b, qk = [a, b] := by
    match qk, lq with
    | [a, b], _ => exact ⟨a, b, rfl⟩
  have k := congrFun (congrFun (PySem.W.dataLe_ii (fun z : Int × Int => z.1) (fun z : Int × Int => z.2)) (a, b)) (c, d)
  have h' : PySem.W.dataLe false (fun b : Int × Int => PyData.tuple [PyData.int b.1, PyData.int b.2]) (a, b) (c, d) = true := h
  rw [k] at h'
  exact h'
theorem sorted_set_pairs {a : Addr} {L : List (Addr × List Int)} {es : Array (Int × Value)} {ep : Nat} {t : SetTable} {Q : Value → Shared → Prop} (R : SetTR P w s.heap a L es ep t) (hh : A.handled = none) (hu : A.units + 100 < cLine)
    (h2 : ∀ p ∈ L, p.2.length = 2)
    (hQ : ∀ (s' : Shared) (p : Addr) (out : List Value) (c : Nat) (L' : List (Addr × List Int)), (∀ b o, s.heap.get? b = some o → s'.heap.get? b = some o) → s'.gens = s.gens → s'.os = s.os → s.heap.objs.size ≤ p →
      s'.heap.get? p = some (seqObj "list" out.toArray c) → out = L'.map (fun q => Value.ref q.1) → L'.Perm L → (L'.map fun q => keyC q.2).Pairwise (fun a b => leC a b = true) → Q (.ref p) s') :
    wpAny (model P w) A (call (.builtin "sorted") [.ref a]) Q E s := by
  have few := R.few
  obtain ⟨o, ho, hex, hd⟩ := R.ob
  refine Calls.call_function_entry kind_sorted plain_sorted entry_sorted (args_sorted1 (.ref a)) (wpAny_bind (m := checkCount "sorted" 1 1 _) (wpAny_pure ?_))
  refine wpAny_bind ?_
  refine collect_set (A := A.in1) hh ⟨o, ho, hex.1, hd⟩ R.fits (Nat.lt_trans (by rw [R.size]; exact few) (by decide)) R.tab.ris R.led fun s1 vs k1 z1 g1 o1 pm => ?_
  have erows : es.toList.map (·.2) = L.map fun q => Value.ref q.1 := by
    rw [R.rows, rowsOf, List.map_map]; rfl
  rw [erows] at pm
  -- the values in the order in which they came
  have ord : ∀ {vs : List Value} {M : List (Addr × List Int)}, vs.Perm (M.map fun q => Value.ref q.1) → ∃ M' : List (Addr × List Int), vs = M'.map (fun q => Value.ref q.1) ∧ M'.Perm M := by
    intro vs
    induction vs with
    | nil =>
      intro M p
      have : M = [] := by simpa using (List.Perm.eq_nil p.symm)
      exact ⟨[], rfl, by rw [this]⟩
    | cons v vs ih =>
      intro M p
      obtain ⟨q, hq, e⟩ := List.mem_map.mp (p.mem_iff.mp List.mem_cons_self)
      obtain ⟨l1, l2, rfl⟩ := List.append_of_mem hq
      have p2 : vs.Perm ((l1 ++ l2).map fun q => Value.ref q.1) := by
        have p3 : (v :: vs).Perm (v :: ((l1 ++ l2).map fun q => Value.ref q.1)) := by
          refine p.trans ?_
          rw [List.map_append, List.map_cons, e, List.map_append]
          exact List.perm_middle
        exact p3.cons_inv
      obtain ⟨M', e1, e2⟩ := ih p2
      exact ⟨q :: M', by rw [e1, ← e]; rfl, (e2.cons q).trans List.perm_middle.symm⟩
  obtain ⟨L1, rfl, pL1⟩ := ord pm
  have l64 : L1.length < 64 := by rw [pL1.length_eq]; exact few
  refine wpAny_bind (wpAny_newList ?_ (by simp only [List.length_map]; rw [sizeLine_eq]; omega))
  have atL : (s1.heap.push (seqObj "list" (L1.map fun q => Value.ref q.1).toArray 0)).get? s1.heap.objs.size = some (seqObj "list" (L1.map fun q => Value.ref q.1).toArray 0) := Heap.get?_push_size _ rfl
  let enc : Addr × List Int → PyData := fun q => .tuple (q.2.map .int)
  have rd : ∀ q ∈ L1, ∃ as, Reads (s1.heap.push (seqObj "list" (L1.map fun q => Value.ref q.1).toArray 0)) (.ref q.1) (enc q) as ∧ s1.heap.objs.size ∉ as := fun q hq => by
    obtain ⟨b, xs, eb, ⟨ob, hob, hcl, n, hdt⟩, hxs⟩ := tupInts_of (P := P) (w := w) (isT_keep (R.tup q (pL1.mem_iff.mp hq)) fun b u e => Heap.get?_push_of_some (seqObj "list" (L1.map fun q => Value.ref q.1).toArray 0) (k1 b u e))
    cases eb
    have ra : ∀ {vs : List Value} {ns : List Int}, IntsAre vs ns → ReadsAll (s1.heap.push (seqObj "list" (L1.map fun q => Value.ref q.1).toArray 0)) vs (ns.map PyData.int) [] := by
      intro vs ns h
      induction h with
      | nil => exact .nil
      | cons i tk _ ih => exact .cons (as := []) (.int i tk) ih
    exact ⟨[], .tuple hob hcl hdt (ra hxs), by simp⟩
  have eR : PySem.W.EachIs (fun (v : Value) (q : Addr × List Int) => v = Value.ref q.1) (L1.map fun q => Value.ref q.1) L1 := by
    clear rd l64 pL1 pm atL
    induction L1 with
    | nil => exact .nil
    | cons q r ih => exact .cons rfl ih
  have eD : PySem.W.EachIs (fun v (q : Addr × List Int) => ∃ as, Reads (s1.heap.push (seqObj "list" (L1.map fun q => Value.ref q.1).toArray 0)) v (enc q) as ∧ s1.heap.objs.size ∉ as) (L1.map fun q => Value.ref q.1) L1 := by
    have gen : ∀ {h : Heap} {n : Addr} {M : List (Addr × List Int)}, (∀ q ∈ M, ∃ as, Reads h (.ref q.1) (enc q) as ∧ n ∉ as) → PySem.W.EachIs (fun v (q : Addr × List Int) => ∃ as, Reads h v (enc q) as ∧ n ∉ as) (M.map fun q => Value.ref q.1) M := by
      intro h n M
      induction M with
      | nil => intro _; exact .nil
      | cons q r ih => intro hm; exact .cons (hm q List.mem_cons_self) (ih fun u hu => hm u (List.mem_cons_of_mem _ hu))
    exact gen rd
  have two : ∀ q ∈ L1, ∃ x y, q.2 = [x, y] := fun q hq => by
    have := h2 q (pL1.mem_iff.mp hq)
    match hk : q.2, this with
    | [x, y], _ => exact ⟨x, y, rfl⟩
  have al : PySem.W.AllAlike (L1.map enc) := fun d hd d' hd' => by
    obtain ⟨q, hq, rfl⟩ := List.mem_map.mp hd
    obtain ⟨q', hq', rfl⟩ := List.mem_map.mp hd'
    exact PySem.W.alike_ints q.2 q'.2
  have so : PySem.W.Sortable (L1.map enc) := .inl fun d hd => by
    obtain ⟨q, hq, rfl⟩ := List.mem_map.mp hd
    obtain ⟨x, y, e⟩ := two q hq
    exact ⟨.int x, [.int y], by show PyData.tuple (q.2.map .int) = _; rw [e]; rfl⟩
  have dep : ∀ q : Addr × List Int, (enc q).depth ≤ 1 := fun q => by
    show PyData.depth (.tuple (q.2.map .int)) ≤ 1
    simp only [PyData.depth, PySem.W.depth_ints]
    omega
  refine wpAny_bind (wpAny_holding ?_)
  refine PySem.W.list_sort_data (s := { s1 with heap := s1.heap.push (seqObj "list" (L1.map fun q => Value.ref q.1).toArray 0) }) (enc := enc) atL eR eD al so (by rw [sizeLine_eq]; omega) (fun q _ => ?_) fun out ho he => ?_
  · have := dep q
    show A.units + 1 + 1 + _ < cLine
    omega
  · obtain ⟨c, hc⟩ := PyProof.Rows.sortedHeap_at (vs := L1.map fun q => Value.ref q.1) (out := out.toArray) atL
    have eo : out = (L1.mergeSort (PySem.W.dataLe false enc)).map fun q => Value.ref q.1 := by
      generalize L1.mergeSort (PySem.W.dataLe false enc) = M at he
      clear ho hc
      induction he with
      | nil => rfl
      | cons h1 _ ih => rw [List.map_cons, h1, ih]
    have pS := List.mergeSort_perm L1 (PySem.W.dataLe false enc)
    refine wpAny_pure ⟨_, rfl, hQ _ s1.heap.objs.size out c (L1.mergeSort (PySem.W.dataLe false enc)) (fun b u e => ?_) g1 o1 z1 hc eo (pS.trans pL1) ?_⟩
    · have e2 := k1 b u e
      have lt := Heap.lt_size e2
      refine (PyProof.Rows.sortedHeap_old (Nat.ne_of_lt lt) (by rw [size_push']; exact Nat.lt_succ_of_lt lt)).trans ?_
      exact Heap.get?_push_of_some _ e2
    · refine pw_keys (fun q hq => h2 q (pL1.mem_iff.mp (pS.mem_iff.mp hq))) (PySem.W.sort_pairwise (PySem.W.sortLe_total _ _ _) L1)
end
end Lf

set_option maxHeartbeats 4000000
/-! Lf, part U: sorted(set(..)) as a rule, slices, dicts. -/
namespace Lf
open PySem PySem.Spec PyProof.Rows L2

def rSsp (K : PySem.W.Frag) (P : Program) (w : World) : List V → Hp → VK → Prop := fun vs H Q => ∃ (a : Addr) (L : List (Addr × List Int)), vs = [V.ref a] ∧ H a = some (SetTO P w a L) ∧ (∀ p ∈ L, SqT K H p.1 (p.2.map V.int)) ∧ (∀ p ∈ L, p.2.length = 2) ∧
  ∀ (L' : List (Addr × List Int)) (p : Addr), L'.Perm L → (L'.map fun q => keyC q.2).Nodup → (L'.map fun q => keyC q.2).Pairwise (fun a b => leC a b = true) → H p = none → Q (.ref p) (upd H p (.lst (L'.map fun q => V.ref q.1)))
theorem keyC_inj {k k' : List Int} (h : k.length = 2) (h' : k'.length = 2) (e : keyC k = keyC k') : k = k' := by
  match k, h, k', h' with
  | [a, b], _, [c, d], _ => simp [keyC] at e; rw [e.1, e.2]
theorem cr_ssp {X : Cx} (hc : X.calm = true) (hu : X.A.units + 100 < cLine) : CallR X (.builtin "sorted") (rSsp X.K X.prog X.w) := by
  intro pins s σ H vs us Q I r h
  obtain ⟨a, L, rfl, ha, hk, h2, q⟩ := h
  have R0 : SetT0 X.prog X.w s.heap a L := (I.hok a _ ha).1
  obtain ⟨es, ep, t, R⟩ := R0.full fun p hp => I.isT (hk p hp)
  have nd0 := R.nd
  have few := R.few
  rw [Vals.ref1 r]
  refine sorted_set_pairs R (I.ok.hd hc) hu h2 fun s' p out c L' k g o hp hg ho pm pw => ?_
  have hn : H p = none := I.hok.fresh hp
  have hv : Vals (L'.map fun q => V.ref q.1) out := by rw [ho]; exact vals_of_refs L'
  have hlen : (L'.map fun q => V.ref q.1).length ≤ sizeLine := by rw [List.length_map, pm.length_eq, sizeLine_eq]; omega
  have ndk : (L'.map fun q => keyC q.2).Nodup := by
    have n1 : (L'.map (·.2)).Nodup := ((pm.map (·.2)).nodup_iff).mpr nd0
    have e : (L'.map fun q => keyC q.2) = (L'.map (·.2)).map keyC := by rw [List.map_map]; rfl
    rw [e]
    refine List.pairwise_map.mpr (List.Pairwise.imp_of_mem (fun {x y} hx hy hne e => hne ?_) n1)
    obtain ⟨p1, m1, rfl⟩ := List.mem_map.mp hx
    obtain ⟨p2, m2, rfl⟩ := List.mem_map.mp hy
    exact keyC_inj (h2 p1 (pm.mem_iff.mp m1)) (h2 p2 (pm.mem_iff.mp m2)) e
  have J : Inv X pins σ (upd H p (.lst (L'.map fun q => V.ref q.1))) { s with heap := s'.heap, gens := s'.gens, drawn := s'.drawn, toks := s'.toks } :=
    I.call (ch := []) (Un.laid k hp hn) (I.hok.laid k hp (show ObjOk X.prog X.w _ _ _ (.lst _) from ⟨hlen, out, c, hv, hg⟩)) (by rw [g]; exact I.bare) (fun _ z => nomatch z)
  have e : s' = { s with heap := s'.heap, gens := s'.gens, drawn := s'.drawn, toks := s'.toks } := by
    obtain ⟨x1, x2, x3, x4, x5⟩ := s'
    obtain ⟨y1, y2, y3, y4, y5⟩ := s
    simp only at o g
    subst o
    rfl
  rw [e]
  exact ⟨.ref p, _, J, rfl, q L' p pm ndk pw hn⟩
/-- cells as tuples, with their addresses -/
theorem Rs.cells {K : PySem.W.Frag} {F : Hp} {φ : List Addr} : ∀ {cs : List Cell} {vs : List V}, Rs K F φ (cs.map cW) vs → ∃ as : List (Addr × Cell), cs = as.map Prod.snd ∧ vs = as.map (fun p => V.ref p.1) ∧ ∀ p ∈ as, TupAt K F p.1 [.int p.2.1, .int p.2.2]
  | [], _, .nil => ⟨[], rfl, rfl, fun _ h => nomatch h⟩
  | c :: cs, _, .cons r t => by
    obtain ⟨as, h1, h2, h3⟩ := Rs.cells t
    cases r with
    | tup ta tr =>
      rename_i a ts
      have e : ts = [.int c.1, .int c.2] := (Rs.ints (ns := [c.1, c.2]) tr)
      subst e
      refine ⟨(a, c) :: as, by rw [h1]; rfl, by rw [h2]; rfl, fun p hp => ?_⟩
      rcases List.mem_cons.mp hp with rfl | hp
      · exact ta
      · exact h3 p hp
theorem Rs.of_cells {K : PySem.W.Frag} {F : Hp} {φ : List Addr} : ∀ {as : List (Addr × Cell)}, (∀ p ∈ as, TupAt K F p.1 [.int p.2.1, .int p.2.2]) → Rs K F φ ((as.map Prod.snd).map cW) (as.map fun p => V.ref p.1)
  | [], _ => .nil
  | p :: as, h => .cons (.tup (h p List.mem_cons_self) (.cons (.int _) (.cons (.int _) .nil))) (Rs.of_cells fun q hq => h q (List.mem_cons_of_mem _ hq))
section
variable {X : Cx} {e a b : Expr} {pos : Pos}
def nSset (f : OF) : NF := fun ρ L => match f ρ L with
  | none => none
  | some (h, L1) => match cont ρ L1 h with
    | some (.lst ws) => (match cellsW ws with
      | some cs => if cs.length < 64 then some (.lst ((canon cs).map cW), L1) else none
      | none => none)
    | _ => none
theorem in_sset {f : OF} {p p2 pos2 : Pos} (hc : X.calm = true) (hu : X.A.units + 100 < cLine) (hg : Gl X "sorted") (hm : X.mg "sorted" = none) (hg2 : Gl X "set") (hm2 : X.mg "set" = none) (ha : IO X a f)
    (he : starEach [.Call (.Name "set" p2) [a] [] pos2] X.env = (false, eval (.Call (.Name "set" p2) [a] [] pos2) X.env) :: starEach [] X.env := by rfl)
    (he2 : starEach [a] X.env = (false, eval a X.env) :: starEach [] X.env := by rfl) (hpl : (backTo pos (starEach [] X.env)).any (·.1) = false := by rfl) (hpl2 : (backTo pos2 (starEach [] X.env)).any (·.1) = false := by rfl) :
    IN X (.Call (.Name "sorted" p) [.Call (.Name "set" p2) [a] [] pos2] [] pos) (nSset f) := by
  refine ⟨fun {Zx Z F φ L ρ σ H m L'} hs ss h Q q => PE.wp (pe_callB (cr_ssp hc hu) hg hm (by decide +kernel) (pa_cons (pe_callTy (cr_setOfT hc (by omega)) hg2 hm2 (by decide +kernel) (pa_cons wpE pa_nil he2) (he := he2) (hpl := hpl2)) pa_nil he) (he := he) (hpl := hpl)) ?_⟩
  unfold nSset at h
  split at h
  · cases h
  rename_i hd L1 e1
  split at h
  · rename_i ws e2
    split at h
    · rename_i cs e3
      split at h
      · rename_i hz
        simp only [Option.some.injEq, Prod.mk.injEq] at h
        obtain ⟨rfl, rfl⟩ := h
        refine ha.run hs ss e1 _ fun F1 φ1 H1 v s1 p1 hs1 r1 => ?_
        obtain ⟨a, vs, rfl, g1, g2⟩ := (cont_ok hs1 (ss.mono s1 p1) r1 e2).seq hs1.sub
        rw [cellsW_eq e3] at g2
        obtain ⟨as, t1, t2, t3⟩ := g2.cells
        subst t1 t2
        have ksEq : (as.map fun p => ((p.1, [p.2.1, p.2.2]) : Addr × List Int)).map (fun p => V.ref p.1) = as.map fun p => V.ref p.1 := by rw [List.map_map]; rfl
        refine ⟨a, as.map fun p => (p.1, [p.2.1, p.2.2]), rfl, by rw [ksEq]; exact g1, fun p hp => ?_, by rw [List.length_map]; rw [List.length_map] at hz; exact hz, fun st LL hst sub1 sub2 => ?_⟩
        · obtain ⟨u, hu', rfl⟩ := List.mem_map.mp hp
          exact (t3 u hu').sq hs1.sub
        · -- the set stands at st, untracked by us
          have back : ∀ p ∈ LL, ∃ u ∈ as, p = (u.1, [u.2.1, u.2.2]) := fun p hp => by
            obtain ⟨u, h1, h2⟩ := List.mem_map.mp (sub1 p hp)
            exact ⟨u, h1, h2.symm⟩
          have hs2 : Hs X.K X.mg Z F1 φ1 L1 (upd H1 st (SetTO X.prog X.w st LL)) := (hs1.fresh (o := SetTO X.prog X.w st LL) hst (by intro _ z; unfold SetTO at z; cases z)).weak (Sub.new (hs1.free hst).2.1)
          refine ⟨st, LL, rfl, upd_same, fun p hp => ?_, fun p hp => ?_, fun L' p pm nd pw hp => ?_⟩
          · obtain ⟨u, h1, rfl⟩ := back p hp
            exact (t3 u h1).sq hs2.sub
          · obtain ⟨u, h1, rfl⟩ := back p hp
            rfl
          · have hmem : ∀ x, x ∈ (L'.map fun q => keyC q.2) ↔ x ∈ as.map Prod.snd := fun x => by
              constructor
              · intro hx
                obtain ⟨q, hq, rfl⟩ := List.mem_map.mp hx
                obtain ⟨u, h1, rfl⟩ := back q (pm.mem_iff.mp hq)
                exact List.mem_map.mpr ⟨u, h1, rfl⟩
              · intro hx
                obtain ⟨u, hu', rfl⟩ := List.mem_map.mp hx
                have m1 := sub2 (u.1, [u.2.1, u.2.2]) (List.mem_map.mpr ⟨u, hu', rfl⟩)
                obtain ⟨q, hq, e⟩ := List.mem_map.mp m1
                refine List.mem_map.mpr ⟨q, pm.mem_iff.mpr hq, ?_⟩
                rw [e]; rfl
            have ec : canon (as.map Prod.snd) = L'.map fun q => keyC q.2 := by
              rw [canon_of nd hmem]
              exact sorted_uniq (sortC_perm _) (sortC_pw _) pw
            have rr : Rs X.K F1 φ1 ((L'.map fun q => keyC q.2).map cW) (L'.map fun q => V.ref q.1) := by
              have := Rs.of_cells (K := X.K) (F := F1) (φ := φ1) (as := L'.map fun q => (q.1, keyC q.2)) fun p hp => by
                obtain ⟨q, hq, rfl⟩ := List.mem_map.mp hp
                obtain ⟨u, h1, rfl⟩ := back q (pm.mem_iff.mp hq)
                exact t3 u h1
              have ea : (L'.map fun q => ((q.1, keyC q.2) : Addr × Cell)).map Prod.snd = L'.map fun q => keyC q.2 := by rw [List.map_map]; rfl
              have eb : (L'.map fun q => ((q.1, keyC q.2) : Addr × Cell)).map (fun p => V.ref p.1) = L'.map fun q => V.ref q.1 := by rw [List.map_map]; rfl
              rw [ea, eb] at this
              exact this
            refine q F1 φ1 _ p (.lst (L'.map fun q => V.ref q.1)) s1 p1 (hs2.free hp).2.1 (hs2.fresh hp) ?_
            show Rs _ _ _ ((canon (as.map Prod.snd)).map cW) _
            rw [ec]
            exact rr
      · cases h
    · cases h
  · cases h
/-! ### slices -/
/-- an optional part -/
structure IP (X : Cx) (e : Option Expr) (f : Ro → Lg → Option (Option Int × Lg)) : Prop where
  run : ∀ {Zx Z F : Hp} {φ : List Addr} {L : Lg} {ρ : Ro} {σ : L2.St} {H : Hp} {w : Option Int} {L' : Lg}, Hs X.K X.mg Z F φ L H → Ss X.K Zx Z F φ ρ σ → f ρ L = some (w, L') →
    ∀ Q : Option Int → Hp → Prop, (∀ (F' : Hp) (φ' : List Addr) (H' : Hp), Sub F F' → φ <+: φ' → Hs X.K X.mg Z F' φ' L' H' → Q w H') → ∃ t, PO X e t ∧ t σ H Q
def cNoP : Ro → Lg → Option (Option Int × Lg) := fun _ L => some (none, L)
def cPart (f : EF) : Ro → Lg → Option (Option Int × Lg) := fun ρ L => match f ρ L with
  | some (.int i, L') => some (some i, L')
  | _ => none
theorem ip_none : IP X none cNoP := by
  refine ⟨fun {Zx Z F φ L ρ σ H w L'} hs ss h Q q => ⟨_, po_none, ?_⟩⟩
  simp only [cNoP, Option.some.injEq, Prod.mk.injEq] at h
  obtain ⟨rfl, rfl⟩ := h
  exact q F φ H (Sub.refl F) (List.prefix_refl φ) hs
theorem ip_some {f : EF} (he : IE X e f) : IP X (some e) (cPart f) := by
  refine ⟨fun {Zx Z F φ L ρ σ H w L'} hs ss h Q q => ⟨_, po_some wpE, ?_⟩⟩
  unfold cPart at h
  split at h
  · rename_i i L1 e1
    simp only [Option.some.injEq, Prod.mk.injEq] at h
    obtain ⟨rfl, rfl⟩ := h
    refine he.run hs ss e1 _ fun F1 φ1 H1 v s1 p1 hs1 r1 => ?_
    cases r1
    exact ⟨i, rfl, q F1 φ1 H1 s1 p1 hs1⟩
  · cases h
def WpO (X : Cx) (e : Option Expr) : L2.St → Hp → (Option Int → Hp → Prop) → Prop := fun σ H Q => ∃ t, PO X e t ∧ t σ H Q
theorem wpO : PO X (none : Option Expr) (WpO X none) ∧ ∀ e, PO X (some e) (WpO X (some e)) :=
  ⟨⟨fun pins s σ H Q I ⟨t, h1, h2⟩ => h1.run pins s σ H Q I h2⟩, fun e => ⟨fun pins s σ H Q I ⟨t, h1, h2⟩ => h1.run pins s σ H Q I h2⟩⟩
theorem wpOa (e : Option Expr) : PO X e (WpO X e) := by
  cases e with
  | none => exact wpO.1
  | some e => exact wpO.2 e
def cutW {α : Type} (xs : List α) (lo hi : Option Int) : List α := (xs.drop (HT.sIx xs.length 0 lo)).take (HT.sIx xs.length xs.length hi - HT.sIx xs.length 0 lo)
theorem Rs.cut {K : PySem.W.Frag} {F : Hp} {φ : List Addr} {ws : List W} {vs : List V} (r : Rs K F φ ws vs) (lo hi : Option Int) : Rs K F φ (cutW ws lo hi) (cutV vs lo hi) := by
  unfold cutW cutV
  rw [r.length]
  exact (r.drop _).take _
def slW : W → Option Int → Option Int → Option W
  | .lst ws, l, u => some (.lst (cutW ws l u))
  | .str s, l, u => if s.length ≤ 16777216 then some (.str (cutS s l u)) else none
  | _, _, _ => none
def cSl (fo : OF) (fl fh : Ro → Lg → Option (Option Int × Lg)) : EF := fun ρ L => match fo ρ L with
  | none => none
  | some (h, L1) => match fl ρ L1 with
    | none => none
    | some (l, L2) => match fh ρ L2 with
      | none => none
      | some (u, L3) => match cont ρ L3 h with
        | none => none
        | some w => match slW w l u with
          | none => none
          | some r => some (r, L3)
theorem ie_sl {fo : OF} {lo hi : Option Expr} {fl fh : Ro → Lg → Option (Option Int × Lg)} {p2 : Pos} (ha : IO X a fo) (hl : IP X lo fl) (hh : IP X hi fh) : IE X (.Subscript a (.Slice lo hi none p2) pos) (cSl fo fl fh) := by
  refine ⟨fun {Zx Z F φ L ρ σ H w L'} hs ss h Q q => PE.wp (pe_slice (SlR.or sl_list sl_str) wpE (wpOa lo) (wpOa hi)) ?_⟩
  unfold cSl at h
  split at h
  · cases h
  rename_i hd L1 e1
  split at h
  · cases h
  rename_i l L2 e2
  split at h
  · cases h
  rename_i u L3 e3
  split at h
  · cases h
  rename_i w0 e4
  split at h
  · cases h
  rename_i r e5
  simp only [Option.some.injEq, Prod.mk.injEq] at h
  obtain ⟨rfl, rfl⟩ := h
  refine ha.run hs ss e1 _ fun F1 φ1 H1 v s1 p1 hs1 r1 => ?_
  refine hl.run hs1 (ss.mono s1 p1) e2 _ fun F2 φ2 H2 s2 p2 hs2 => ?_
  refine hh.run hs2 (ss.mono (s1.trans s2) (List.IsPrefix.trans p1 p2)) e3 _ fun F3 φ3 H3 s3 p3 hs3 => ?_
  have s13 := (s1.trans s2).trans s3
  have p13 := List.IsPrefix.trans (List.IsPrefix.trans p1 p2) p3
  have r1' : HR X.K F3 φ3 ρ σ hd v := by
    cases hd with
    | val w => exact R.mono (s2.trans s3) (List.IsPrefix.trans p2 p3) r1
    | own i => exact r1
  have c := cont_ok hs3 (ss.mono s13 p13) r1' e4
  unfold slW at e5
  split at e5
  · cases e5
    obtain ⟨a, vs, rfl, g1, g2⟩ := c.seq hs3.sub
    refine .inl ⟨a, vs, rfl, g1, fun p hp => ?_⟩
    exact newL hs3 (g2.cut l u) (fun F' H' v s' hs' r' => q F' φ3 H' v (s13.trans s') p13 hs' r') hp
  · split at e5
    · rename_i hz
      cases e5
      have e := c.str
      subst e
      exact .inr ⟨_, rfl, by rw [sizeLine_eq]; exact hz, q F3 φ3 H3 _ s13 p13 hs3 (.str _)⟩
    · cases e5
  · cases e5
/-- xs[::-1] -/
def revW : W → Option W
  | .lst ws => some (.lst ws.reverse)
  | _ => none
def cRev (fo : OF) : EF := fun ρ L => match fo ρ L with
  | none => none
  | some (h, L1) => match cont ρ L1 h with
    | none => none
    | some w => match revW w with
      | none => none
      | some r => some (r, L1)
theorem ie_rev {fo : OF} {k : Nat} {p1 p2 p3 : Pos} (ha : IO X a fo) : IE X (.Subscript a (.Slice none none (some (.UnaryOp .USub (.Constant (.int 1) k p1) p2)) p3) pos) (cRev fo) := by
  refine ⟨fun {Zx Z F φ L ρ σ H w L'} hs ss h Q q => PE.wp (pe_revL wpE) ?_⟩
  unfold cRev at h
  split at h
  · cases h
  rename_i hd L1 e1
  split at h
  · cases h
  rename_i w0 e4
  split at h
  · cases h
  rename_i r e5
  simp only [Option.some.injEq, Prod.mk.injEq] at h
  obtain ⟨rfl, rfl⟩ := h
  refine ha.run hs ss e1 _ fun F1 φ1 H1 v s1 p1 hs1 r1 => ?_
  have c := cont_ok hs1 (ss.mono s1 p1) r1 e4
  unfold revW at e5
  split at e5
  · cases e5
    obtain ⟨a, vs, rfl, g1, g2⟩ := c.seq hs1.sub
    refine ⟨a, vs, rfl, g1, fun p hp => ?_⟩
    exact newL hs1 g2.reverse (fun F' H' v s' hs' r' => q F' φ1 H' v (s1.trans s') p1 hs' r') hp
  · cases e5
end
end Lf

set_option maxHeartbeats 4000000
/-! Lf, part V: dicts, and loops over their keys. -/
namespace Lf
open PySem PySem.Spec PyProof.Rows L2

section
variable {κ : Type} [DecidableEq κ]
def lookD (kvs : List (κ × W)) (k : κ) : Option W := (kvs.find? fun kv => decide (kv.1 = k)).map (·.2)
def putD (kvs : List (κ × W)) (k : κ) (w : W) : List (κ × W) :=
  if (kvs.any fun kv => decide (kv.1 = k)) = true then kvs.map (fun kv => if kv.1 = k then (kv.1, w) else kv) else kvs ++ [(k, w)]
def delD (kvs : List (κ × W)) (k : κ) : List (κ × W) := kvs.filter fun kv => decide (kv.1 ≠ k)
variable {K : PySem.W.Frag} {F : Hp} {φ : List Addr}
theorem look_rel (k : κ) : ∀ {kvs : List (κ × W)} {vs : List (κ × V)}, kvs.map Prod.fst = vs.map Prod.fst → Rs K F φ (kvs.map Prod.snd) (vs.map Prod.snd) →
    (lookD kvs k = none ∧ valV vs k = none) ∨ ∃ w v, lookD kvs k = some w ∧ valV vs k = some v ∧ R K F φ w v
  | [], [], _, _ => .inl ⟨rfl, rfl⟩
  | [], _ :: _, e, _ => by simp at e
  | _ :: _, [], e, _ => by simp at e
  | (a, w) :: kvs, (b, v) :: vs, e, r => by
    simp only [List.map_cons, List.cons.injEq] at e
    obtain ⟨e1, e2⟩ := e
    subst e1
    cases r with
    | cons r1 r2 =>
      by_cases q : a = k
      · refine .inr ⟨w, v, ?_, ?_, r1⟩
        · simp [lookD, List.find?_cons, q]
        · simp [valV, List.find?_cons, q]
      · rcases look_rel k e2 r2 with ⟨h1, h2⟩ | ⟨w', v', h1, h2, h3⟩
        · refine .inl ⟨?_, ?_⟩
          · unfold lookD at h1 ⊢; rw [List.find?_cons]; simp only [q, decide_false]; exact h1
          · unfold valV at h2 ⊢; rw [List.find?_cons]; simp only [q, decide_false]; exact h2
        · refine .inr ⟨w', v', ?_, ?_, h3⟩
          · unfold lookD at h1 ⊢; rw [List.find?_cons]; simp only [q, decide_false]; exact h1
          · unfold valV at h2 ⊢; rw [List.find?_cons]; simp only [q, decide_false]; exact h2
theorem any_rel (k : κ) : ∀ {kvs : List (κ × W)} {vs : List (κ × V)}, kvs.map Prod.fst = vs.map Prod.fst → (kvs.any fun kv => decide (kv.1 = k)) = (vs.any fun kv => decide (kv.1 = k))
  | [], [], _ => rfl
  | [], _ :: _, e => by simp at e
  | _ :: _, [], e => by simp at e
  | (a, w) :: kvs, (b, v) :: vs, e => by
    simp only [List.map_cons, List.cons.injEq] at e
    obtain ⟨e1, e2⟩ := e
    subst e1
    simp only [List.any_cons]
    rw [any_rel k e2]
theorem upd_rel (k : κ) {w : W} {v : V} (r : R K F φ w v) : ∀ {kvs : List (κ × W)} {vs : List (κ × V)}, kvs.map Prod.fst = vs.map Prod.fst → Rs K F φ (kvs.map Prod.snd) (vs.map Prod.snd) →
    (kvs.map fun kv => if kv.1 = k then (kv.1, w) else kv).map Prod.fst = (vs.map fun kv => if kv.1 = k then (kv.1, v) else kv).map Prod.fst ∧ Rs K F φ ((kvs.map fun kv => if kv.1 = k then (kv.1, w) else kv).map Prod.snd) ((vs.map fun kv => if kv.1 = k then (kv.1, v) else kv).map Prod.snd)
  | [], [], _, _ => ⟨rfl, .nil⟩
  | [], _ :: _, e, _ => by simp at e
  | _ :: _, [], e, _ => by simp at e
  | (a, w') :: kvs, (b, v') :: vs, e, rs => by
    simp only [List.map_cons, List.cons.injEq] at e
    obtain ⟨e1, e2⟩ := e
    subst e1
    cases rs with
    | cons r1 r2 =>
      obtain ⟨h1, h2⟩ := upd_rel k r e2 r2
      by_cases q : a = k
      · simp only [List.map_cons, if_pos q]
        exact ⟨by rw [h1], .cons r h2⟩
      · simp only [List.map_cons, if_neg q]
        exact ⟨by rw [h1], .cons r1 h2⟩
theorem put_rel (k : κ) {w : W} {v : V} (r : R K F φ w v) {kvs : List (κ × W)} {vs : List (κ × V)} (e : kvs.map Prod.fst = vs.map Prod.fst) (rs : Rs K F φ (kvs.map Prod.snd) (vs.map Prod.snd)) :
    (putD kvs k w).map Prod.fst = (putK vs k v).map Prod.fst ∧ Rs K F φ ((putD kvs k w).map Prod.snd) ((putK vs k v).map Prod.snd) := by
  unfold putD putK
  rw [any_rel k e]
  split
  · exact upd_rel k r e rs
  · rw [List.map_append, List.map_append, List.map_append, List.map_append, e]
    exact ⟨rfl, rs.append (.one r)⟩
end
/-- keys -/
def keyW : Key → W
  | .inl i => .int i
  | .inr s => .str s
def asKey : W → Option Key
  | .int i => some (.inl i)
  | .str s => some (.inr s)
  | _ => none
def asKeys : List W → Option (List Key)
  | [] => some []
  | w :: ws => match asKey w, asKeys ws with
    | some k, some ks => some (k :: ks)
    | _, _ => none
def asTKey : W → Option (List Key)
  | .tup ws => asKeys ws
  | _ => none
section
variable {K : PySem.W.Frag} {F : Hp} {φ : List Addr}
theorem asKey_rel {w : W} {v : V} {k : Key} (r : R K F φ w v) (h : asKey w = some k) : v = kV k := by
  cases w <;> first | (simp only [asKey, Option.some.injEq] at h; subst h; cases r; rfl) | cases h
theorem asKeys_rel : ∀ {ws : List W} {vs : List V} {ks : List Key}, Rs K F φ ws vs → asKeys ws = some ks → vs = ks.map kV
  | _, _, _, .nil, h => by simp only [asKeys, Option.some.injEq] at h; subst h; rfl
  | _, _, _, .cons r t, h => by
    simp only [asKeys] at h
    split at h
    · rename_i k ks' e1 e2
      simp only [Option.some.injEq] at h
      subst h
      rw [asKey_rel r e1, asKeys_rel t e2]; rfl
    · cases h
theorem asTKey_rel {w : W} {v : V} {k : List Key} (r : R K F φ w v) (h : asTKey w = some k) : ∃ b, v = .ref b ∧ F b = some (.tup (k.map kV)) := by
  cases w <;> first | cases h | skip
  cases r with
  | tup h1 h2 =>
    have h1' : F _ = some (.tup _) := h1
    rw [asKeys_rel h2 h] at h1'
    exact ⟨_, rfl, h1'⟩
/-- what a dict's contents give at a key -/
def getW : W → W → Option (Option W)
  | .dK kvs, k => match asKey k with
    | some k => some (lookD kvs k)
    | none => none
  | .dT kvs, k => match asTKey k with
    | some k => some (lookD kvs k)
    | none => none
  | _, _ => none
theorem get_rel {H : Hp} {d k : W} {vd vk : V} {r : Option W} (s : Sub F H) (c : Cont K F φ H d vd) (rk : R K F φ k vk) (h : getW d k = some r) :
    ∃ a o, vd = .ref a ∧ DGet H a vk o ∧ ((r = none ∧ o = none) ∨ ∃ w v, r = some w ∧ o = some v ∧ R K F φ w v) := by
  unfold getW at h
  split at h
  · split at h
    · rename_i kvs _ kk e
      simp only [Option.some.injEq] at h
      subst h
      have ek := asKey_rel rk e
      subst ek
      have hd : ∃ a vs, vd = .ref a ∧ Rd H a (.dK vs) ∧ kvs.map Prod.fst = vs.map Prod.fst ∧ Rs K F φ (kvs.map Prod.snd) (vs.map Prod.snd) := by
        rcases c with c | ⟨a, o, m, rfl, e1, e2, e3⟩
        · cases c with
          | dK h1 h2 h3 =>
            refine ⟨_, _, rfl, ?_, h2, h3⟩
            rcases h1 with h1 | ⟨ob, h1⟩
            · exact .inl (s _ _ h1)
            · exact .inr ⟨ob, s _ _ h1⟩
        · cases m <;> cases e1
          cases o <;> first | exact e3.elim | skip
          exact ⟨a, _, rfl, .inl e2, e3.1, e3.2⟩
      obtain ⟨a, vs, rfl, h1, h2, h3⟩ := hd
      rcases look_rel kk h2 h3 with ⟨g1, g2⟩ | ⟨w, v, g1, g2, g3⟩
      · exact ⟨a, none, rfl, .inl ⟨vs, kk, h1, rfl, g2.symm⟩, .inl ⟨g1, rfl⟩⟩
      · exact ⟨a, some v, rfl, .inl ⟨vs, kk, h1, rfl, g2.symm⟩, .inr ⟨w, v, g1, rfl, g3⟩⟩
    · cases h
  · split at h
    · rename_i kvs _ kk e
      simp only [Option.some.injEq] at h
      subst h
      obtain ⟨b, rfl, hb⟩ := asTKey_rel rk e
      have hd : ∃ a vs, vd = .ref a ∧ Rd H a (.dT vs) ∧ kvs.map Prod.fst = vs.map Prod.fst ∧ Rs K F φ (kvs.map Prod.snd) (vs.map Prod.snd) := by
        rcases c with c | ⟨a, o, m, rfl, e1, e2, e3⟩
        · cases c with
          | dT h1 h2 h3 =>
            refine ⟨_, _, rfl, ?_, h2, h3⟩
            rcases h1 with h1 | ⟨ob, h1⟩
            · exact .inl (s _ _ h1)
            · exact .inr ⟨ob, s _ _ h1⟩
        · cases m <;> cases e1
          cases o <;> first | exact e3.elim | skip
          exact ⟨a, _, rfl, .inl e2, e3.1, e3.2⟩
      obtain ⟨a, vs, rfl, h1, h2, h3⟩ := hd
      rcases look_rel kk h2 h3 with ⟨g1, g2⟩ | ⟨w, v, g1, g2, g3⟩
      · exact ⟨a, none, rfl, .inr ⟨vs, kk, b, h1, rfl, s _ _ hb, g2.symm⟩, .inl ⟨g1, rfl⟩⟩
      · exact ⟨a, some v, rfl, .inr ⟨vs, kk, b, h1, rfl, s _ _ hb, g2.symm⟩, .inr ⟨w, v, g1, rfl, g3⟩⟩
    · cases h
  · cases h
end
section
variable {X : Cx} {e a b c : Expr} {es : List Expr} {pos : Pos}
theorem HR.step {K : PySem.W.Frag} {F F' : Hp} {φ φ' : List Addr} {ρ : Ro} {σ : L2.St} {h : Hd} {v : V} (s : Sub F F') (p : φ <+: φ') (r : HR K F φ ρ σ h v) : HR K F' φ' ρ σ h v := by
  cases h with
  | val w => exact R.mono s p r
  | own i => exact r
/-- d[k] -/
def cDGet (fo : OF) (fk : EF) : EF := fun ρ L => match fo ρ L with
  | none => none
  | some (h, L1) => match fk ρ L1 with
    | none => none
    | some (k, L2) => match cont ρ L2 h with
      | none => none
      | some d => match getW d k with
        | some (some w) => some (w, L2)
        | _ => none
theorem ie_dget {fo : OF} {fk : EF} (hu : X.A.units + 1 < cLine) (ho : IO X a fo) (hk : IE X b fk) (hs' : NoSl b := by intro _ _; rfl) : IE X (.Subscript a b pos) (cDGet fo fk) := by
  refine ⟨fun {Zx Z F φ L ρ σ H w L'} hs ss h Q q => PE.wp (pe_dget hu wpE wpE hs') ?_⟩
  unfold cDGet at h
  split at h
  · cases h
  rename_i hd L1 e1
  split at h
  · cases h
  rename_i k L2 e2
  split at h
  · cases h
  rename_i d e3
  split at h
  · rename_i w0 e4
    simp only [Option.some.injEq, Prod.mk.injEq] at h
    obtain ⟨rfl, rfl⟩ := h
    refine ho.run hs ss e1 _ fun F1 φ1 H1 vo s1 p1 hs1 r1 => ?_
    refine hk.run hs1 (ss.mono s1 p1) e2 _ fun F2 φ2 H2 vk s2 p2 hs2 r2 => ?_
    have s12 := s1.trans s2
    have p12 := List.IsPrefix.trans p1 p2
    obtain ⟨a, o, rfl, hg, hr⟩ := get_rel hs2.sub (cont_ok hs2 (ss.mono s12 p12) (r1.step s2 p2) e3) r2 e4
    rcases hr with ⟨z, _⟩ | ⟨w1, v1, z, rfl, hr⟩
    · cases z
    · cases z
      exact ⟨a, v1, rfl, hg, q F2 φ2 H2 v1 s12 p12 hs2 hr⟩
  · cases h
/-- k in d, k not in d -/
def cDIn (neg : Bool) (fk : EF) (fo : OF) : EF := fun ρ L => match fk ρ L with
  | none => none
  | some (k, L1) => match fo ρ L1 with
    | none => none
    | some (h, L2) => match cont ρ L2 h with
      | none => none
      | some d => match getW d k with
        | some r => some (.bl (if neg then !r.isSome else r.isSome), L2)
        | none => none
theorem din_run {neg : Bool} {fo : OF} {fk : EF} (ho : IO X b fo) (hk : IE X a fk) {Zx Z F : Hp} {φ : List Addr} {L : Lg} {ρ : Ro} {σ : L2.St} {H : Hp} {w : W} {L' : Lg} (hs : Hs X.K X.mg Z F φ L H) (ss : Ss X.K Zx Z F φ ρ σ) (h : cDIn neg fk fo ρ L = some (w, L'))
    (Q : VK) (q : ∀ (F' : Hp) (φ' : List Addr) (H' : Hp) (v : V), Sub F F' → φ <+: φ' → Hs X.K X.mg Z F' φ' L' H' → R X.K F' φ' w v → Q v H') :
    Wp X a σ H fun y H1 => Wp X b σ H1 fun x H2 => ∃ a o, x = .ref a ∧ DGet H2 a y o ∧ Q (.bl (if neg then !o.isSome else o.isSome)) H2 := by
  unfold cDIn at h
  split at h
  · cases h
  rename_i k L1 e1
  split at h
  · cases h
  rename_i hd L2 e2
  split at h
  · cases h
  rename_i d e3
  split at h
  · rename_i r e4
    simp only [Option.some.injEq, Prod.mk.injEq] at h
    obtain ⟨rfl, rfl⟩ := h
    refine hk.run hs ss e1 _ fun F1 φ1 H1 vk s1 p1 hs1 r1 => ?_
    refine ho.run hs1 (ss.mono s1 p1) e2 _ fun F2 φ2 H2 vo s2 p2 hs2 r2 => ?_
    have s12 := s1.trans s2
    have p12 := List.IsPrefix.trans p1 p2
    obtain ⟨a, o, rfl, hg, hr⟩ := get_rel hs2.sub (cont_ok hs2 (ss.mono s12 p12) r2 e3) (r1.mono s2 p2) e4
    refine ⟨a, o, rfl, hg, ?_⟩
    have eo : o.isSome = r.isSome := by
      rcases hr with ⟨rfl, rfl⟩ | ⟨w1, v1, rfl, rfl, _⟩ <;> rfl
    rw [eo]
    exact q F2 φ2 H2 _ s12 p12 hs2 (.bl _)
  · cases h
theorem ie_din {fo : OF} {fk : EF} (hu : X.A.units + 1 < cLine) (hk : IE X a fk) (ho : IO X b fo) (h1 : behindInMarks .In b = false := by rfl) : IE X (.Compare a [.In] [b] pos) (cDIn false fk fo) :=
  ⟨fun hs ss h Q q => PE.wp (pe_cmp (pc_din hu wpE wpE) h1) (din_run ho hk hs ss h Q q)⟩
theorem ie_dnotin {fo : OF} {fk : EF} (hu : X.A.units + 1 < cLine) (hk : IE X a fk) (ho : IO X b fo) (h1 : behindInMarks .NotIn b = false := by rfl) : IE X (.Compare a [.NotIn] [b] pos) (cDIn true fk fo) :=
  ⟨fun hs ss h Q q => PE.wp (pe_cmp (pc_dnotin hu wpE wpE) h1) (din_run ho hk hs ss h Q q)⟩
theorem it_din {fo : OF} {fk : EF} (hu : X.A.units + 1 < cLine) (hk : IE X a fk) (ho : IO X b fo) (h1 : behindInMarks .In b = false := by rfl) : IT X (.Compare a [.In] [b] pos) (asT (cDIn false fk fo)) := by
  refine ⟨fun {Zx Z F φ L ρ σ H w L'} hs ss h Q q => PT.wp (pt_cmp (pc_din hu wpE wpE) h1) ?_⟩
  refine din_run ho hk hs ss (asT_some h) (fun x H' => ∃ k, x = .bl k ∧ Q k H') fun F' φ' H' v s1 p1 hs1 r1 => ?_
  cases r1
  exact ⟨w, rfl, q F' φ' H' s1 p1 hs1⟩
theorem it_dnotin {fo : OF} {fk : EF} (hu : X.A.units + 1 < cLine) (hk : IE X a fk) (ho : IO X b fo) (h1 : behindInMarks .NotIn b = false := by rfl) : IT X (.Compare a [.NotIn] [b] pos) (asT (cDIn true fk fo)) := by
  refine ⟨fun {Zx Z F φ L ρ σ H w L'} hs ss h Q q => PT.wp (pt_cmp (pc_dnotin hu wpE wpE) h1) ?_⟩
  refine din_run ho hk hs ss (asT_some h) (fun x H' => ∃ k, x = .bl k ∧ Q k H') fun F' φ' H' v s1 p1 hs1 r1 => ?_
  cases r1
  exact ⟨w, rfl, q F' φ' H' s1 p1 hs1⟩
theorem cont_isD {K : PySem.W.Frag} {F H : Hp} {φ : List Addr} {d k : W} {v : V} {r : Option W} (s : Sub F H) (c : Cont K F φ H d v) (h : getW d k = some r) : ∃ a, v = .ref a ∧ IsD H a := by
  unfold getW at h
  split at h
  · rcases c with c | ⟨a, o, m, rfl, e1, e2, e3⟩
    · cases c with
      | dK h1 h2 h3 =>
        rcases h1 with h1 | ⟨ob, h1⟩
        · exact ⟨_, rfl, .inl ⟨_, .inl (s _ _ h1)⟩⟩
        · exact ⟨_, rfl, .inl ⟨_, .inr ⟨ob, s _ _ h1⟩⟩⟩
    · cases m <;> cases e1
      cases o <;> first | exact e3.elim | skip
      exact ⟨a, rfl, .inl ⟨_, .inl e2⟩⟩
  · rcases c with c | ⟨a, o, m, rfl, e1, e2, e3⟩
    · cases c with
      | dT h1 h2 h3 =>
        rcases h1 with h1 | ⟨ob, h1⟩
        · exact ⟨_, rfl, .inr ⟨_, .inl (s _ _ h1)⟩⟩
        · exact ⟨_, rfl, .inr ⟨_, .inr ⟨ob, s _ _ h1⟩⟩⟩
    · cases m <;> cases e1
      cases o <;> first | exact e3.elim | skip
      exact ⟨a, rfl, .inr ⟨_, .inl e2⟩⟩
  · cases h
/-- d.get(k, x) -/
def cDGet2 (fo : OF) (fk fx : EF) : EF := fun ρ L => match fo ρ L with
  | none => none
  | some (h, L0) => match fk ρ L0 with
    | none => none
    | some (k, L1) => match fx ρ L1 with
      | none => none
      | some (x, L2) => match cont ρ L0 h, cont ρ L2 h with
        | some d0, some d => (match getW d0 k, getW d k with
          | some _, some r => some (r.getD x, L2)
          | _, _ => none)
        | _, _ => none
theorem ie_dget2 {fo : OF} {fk fx : EF} {apos cpos : Pos} (hu : X.A.units + 1 < cLine) (ho : IO X a fo) (hk : IE X b fk) (hx : IE X c fx) (m : M2 X a "get" apos b c cpos) : IE X (.Call (.Attribute a "get" apos) [b, c] [] cpos) (cDGet2 fo fk fx) := by
  refine ⟨fun {Zx Z F φ L ρ σ H w L'} hs ss h Q q => PE.wp (pe_dget2 hu wpE wpE wpE m) ?_⟩
  unfold cDGet2 at h
  split at h
  · cases h
  rename_i hd L0 e0
  split at h
  · cases h
  rename_i k L1 e1
  split at h
  · cases h
  rename_i x L2 e2
  split at h
  · rename_i d0 d e3 e4
    split at h
    · rename_i r0 r g0 g1
      simp only [Option.some.injEq, Prod.mk.injEq] at h
      obtain ⟨rfl, rfl⟩ := h
      refine ho.run hs ss e0 _ fun F1 φ1 H1 vo s1 p1 hs1 r1 => ?_
      obtain ⟨a, rfl, isd⟩ := cont_isD hs1.sub (cont_ok hs1 (ss.mono s1 p1) r1 e3) g0
      refine ⟨a, rfl, isd, ?_⟩
      refine hk.run hs1 (ss.mono s1 p1) e1 _ fun F2 φ2 H2 vk s2 p2 hs2 r2 => ?_
      refine hx.run hs2 (ss.mono (s1.trans s2) (List.IsPrefix.trans p1 p2)) e2 _ fun F3 φ3 H3 vx s3 p3 hs3 r3 => ?_
      have s13 := (s1.trans s2).trans s3
      have p13 := List.IsPrefix.trans (List.IsPrefix.trans p1 p2) p3
      obtain ⟨a', o, ea, hg, hr⟩ := get_rel hs3.sub (cont_ok hs3 (ss.mono s13 p13) (r1.step (s2.trans s3) (List.IsPrefix.trans p2 p3)) e4) (r2.mono s3 p3) g1
      cases ea
      refine ⟨o, hg, ?_⟩
      rcases hr with ⟨rfl, rfl⟩ | ⟨w1, v1, rfl, rfl, hr⟩
      · exact q F3 φ3 H3 vx s13 p13 hs3 r3
      · exact q F3 φ3 H3 v1 s13 p13 hs3 hr
    · cases h
  · cases h
/-! ### d[k] = v, d an own dict of the slot i -/
def putM : M → W → W → Option M
  | .dK kvs, k, w => match asKey k with
    | some k => if kvs.length < 16777216 then some (.dK (putD kvs k w)) else none
    | none => none
  | .dT kvs, k, w => match asTKey k with
    | some k => if kvs.length < 16777216 then some (.dT (putD kvs k w)) else none
    | none => none
  | .lst xs, .int i, w => match ixN xs.length i with
    | some j => some (.lst (xs.set j w))
    | none => none
  | _, _, _ => none
theorem keys_len {κ : Type} {kvs : List (κ × W)} {vs : List (κ × V)} (e : kvs.map Prod.fst = vs.map Prod.fst) : kvs.length = vs.length := by
  have := congrArg List.length e
  simpa using this
theorem putM_rel {K : PySem.W.Frag} {F H : Hp} {φ : List Addr} {m m' : M} {o : HO} {p : Addr} {k w : W} {vk vw : V} (s : Sub F H) (hH : H p = some o) (hm : MOk K F φ m o) (rk : R K F φ k vk) (rw' : R K F φ w vw) (nl : ∀ xs, m ≠ .lst xs) (h : putM m k w = some m') :
    ∃ o', DPut H p vk vw (upd H p o') ∧ MOk K F φ m' o' := by
  unfold putM at h
  split at h
  · split at h
    · split at h
      · rename_i kvs kk e hz
        cases h
        cases o <;> first | exact hm.elim | skip
        rename_i vs
        obtain ⟨m1, m2⟩ := hm
        have ek := asKey_rel rk e
        subst ek
        exact ⟨.dK (putK vs kk vw), .inl ⟨vs, kk, hH, rfl, by rw [← keys_len m1, sizeLine_eq]; exact hz, rfl⟩, put_rel kk rw' m1 m2⟩
      · cases h
    · cases h
  · split at h
    · split at h
      · rename_i kvs kk e hz
        cases h
        cases o <;> first | exact hm.elim | skip
        rename_i vs
        obtain ⟨m1, m2⟩ := hm
        obtain ⟨b, rfl, hb⟩ := asTKey_rel rk e
        exact ⟨.dT (putK vs kk vw), .inr ⟨vs, kk, b, hH, rfl, s _ _ hb, by rw [← keys_len m1, sizeLine_eq]; exact hz, rfl⟩, put_rel kk rw' m1 m2⟩
      · cases h
    · cases h
  · exact absurd rfl (nl _)
  · cases h
def cPut (i : Nat) (fk fv : EF) : SF := fun ρ L => match fv ρ L with
  | none => none
  | some (w, L1) => match fk ρ L1 with
    | none => none
    | some (k, L2) => match ρ[i]? with
      | some (.ow (.lst _)) => none
      | some (.ow m) => (match putM m k w with
        | some m' => some (.nx (ρ.set i (.ow m')) L2)
        | none => none)
      | _ => none
theorem is_put (i : Nat) {x : Str} {px pos' : Pos} {fk fv : EF} (hu : X.A.units + 1 < cLine) (hk : IE X b fk) (hv' : IE X c fv) (hN : X.N[i]? = some x := by rfl) (hv : Vis X.env.scope x := by first | exact Or.inl rfl | exact Or.inr (Or.inl rfl) | exact Or.inr (Or.inr rfl)) (hd : (x == ("__debug__" : Str)) = false := by decide)
    (hcd : (x == ("__classdict__" : Str)) = false := by decide) (hs' : swapsWith c (some (.Subscript (.Name x px) b pos')) pos.line X.env = pure false := by rfl) :
    IS X (.Assign [.Subscript (.Name x px) b pos'] c pos) (cPut i fk fv) := by
  refine ⟨fun {Zx Z F φ L ρ σ H o} hs ss h D q => PS.wp (ps_dput hu (pe_var hN hv hd hcd) wpE wpE hs') ?_⟩
  unfold cPut at h
  split at h
  · cases h
  rename_i w L1 e1
  split at h
  · cases h
  rename_i k L2 e2
  split at h
  · cases h
  · rename_i m nl e3
    split at h
    · rename_i m' e4
      simp only [Option.some.injEq] at h
      subst h
      obtain ⟨p, ho, h1, h2, h3, h4⟩ := ss.ow i _ e3
      refine hv'.run hs ss e1 _ fun F1 φ1 H1 vw s1 p1 hs1 r1 => ?_
      refine ⟨.ref p, h1, ?_⟩
      refine hk.run hs1 (ss.mono s1 p1) e2 _ fun F2 φ2 H2 vk s2 p2 hs2 r2 => ?_
      have s12 := s1.trans s2
      have p12 := List.IsPrefix.trans p1 p2
      obtain ⟨o', g1, g2⟩ := putM_rel hs2.sub (hs2.ext p _ h2).1 (h4.mono s12 p12) r2 (r1.mono s2 p2) (fun xs z => nl xs z) e4
      exact ⟨p, _, rfl, g1, q _ F2 φ2 σ _ s12 p12 (hs2.turn h2 g2.nt) ((ss.mono s12 p12).turn e3 h1 g2)⟩
    · cases h
  · cases h
end
/-! ### locks -/
def isD : HO → Bool
  | .dK _ => true
  | .dT _ => true
  | _ => false
/-- the same but for a lock -/
def Lk (F F' : Hp) : Prop := ∀ a, F' a = F a ∨ ∃ od u, isD u = true ∧ ((F a = some u ∧ F' a = some (.frz od u)) ∨ (F a = some (.frz od u) ∧ F' a = some u))
theorem Lk.lock {F : Hp} {d : Addr} {od : Obj} {u : HO} (h : F d = some u) (hu : isD u = true) : Lk F (upd F d (.frz od u)) := fun a => by
  by_cases q : a = d
  · subst q; exact .inr ⟨od, u, hu, .inl ⟨h, upd_same⟩⟩
  · exact .inl (upd_ne q)
theorem Lk.unlock {F : Hp} {d : Addr} {od : Obj} {u : HO} (h : F d = some (.frz od u)) (hu : isD u = true) : Lk F (upd F d u) := fun a => by
  by_cases q : a = d
  · subst q; exact .inr ⟨od, u, hu, .inr ⟨h, upd_same⟩⟩
  · exact .inl (upd_ne q)
theorem Lk.at_ {F F' : Hp} (l : Lk F F') {a : Addr} {o : HO} (h : F a = some o) (n1 : isD o = false) (n2 : ∀ od u, o = .frz od u → isD u = false) : F' a = some o := by
  rcases l a with e | ⟨od, u, hu, ⟨e1, e2⟩ | ⟨e1, e2⟩⟩
  · rw [e]; exact h
  · rw [h] at e1; cases e1; rw [n1] at hu; cases hu
  · rw [h] at e1; cases e1; rw [n2 od u rfl] at hu; cases hu
theorem Lk.dict {F F' : Hp} (l : Lk F F') {a : Addr} {o : HO} (h : DAt F a o) (hd : isD o = true) : DAt F' a o := by
  rcases l a with e | ⟨od, u, hu, ⟨e1, e2⟩ | ⟨e1, e2⟩⟩
  · rcases h with h | ⟨ob, h⟩
    · exact .inl (by rw [e]; exact h)
    · exact .inr ⟨ob, by rw [e]; exact h⟩
  · rcases h with h | ⟨ob, h⟩
    · rw [h] at e1; cases e1; exact .inr ⟨od, e2⟩
    · rw [h] at e1; cases e1; cases hu
  · rcases h with h | ⟨ob, h⟩
    · rw [h] at e1; cases e1; cases hd
    · rw [h] at e1; cases e1; exact .inl e2
theorem Lk.sq {K : PySem.W.Frag} {F F' : Hp} (l : Lk F F') {a : Addr} {xs : List V} (h : SqL K F a xs) : SqL K F' a xs := by
  rcases h with (h | ⟨o, h⟩) | h
  · exact .inl (.inl (l.at_ h rfl fun _ _ z => nomatch z))
  · exact .inl (.inr ⟨o, l.at_ h rfl fun _ _ z => by cases z; rfl⟩)
  · exact .inr h
mutual
theorem R.lk {K : PySem.W.Frag} {F F' : Hp} {φ : List Addr} (l : Lk F F') : ∀ {w : W} {v : V}, R K F φ w v → R K F' φ w v
  | _, _, .non => .non
  | _, _, .bl b => .bl b
  | _, _, .int i => .int i
  | _, _, .str x => .str x
  | _, _, .ty n => .ty n
  | _, _, .tup h hs => .tup (l.at_ (o := .tup _) h rfl fun _ _ z => nomatch z) (Rs.lk l hs)
  | _, _, .lst h hs => .lst (l.at_ h rfl fun _ _ z => nomatch z) (Rs.lk l hs)
  | _, _, .kt h hs => .kt h (Rs.lk l hs)
  | _, _, .dK h k hs => .dK (l.dict h rfl) k (Rs.lk l hs)
  | _, _, .dT h k hs => .dT (l.dict h rfl) k (Rs.lk l hs)
  | _, _, .ob h => .ob h
  | _, _, .scr h => .scr (l.sq h)
theorem Rs.lk {K : PySem.W.Frag} {F F' : Hp} {φ : List Addr} (l : Lk F F') : ∀ {ws : List W} {vs : List V}, Rs K F φ ws vs → Rs K F' φ ws vs
  | _, _, .nil => .nil
  | _, _, .cons h hs => .cons (R.lk l h) (Rs.lk l hs)
end
theorem MOk.lk {K : PySem.W.Frag} {F F' : Hp} {φ : List Addr} (l : Lk F F') {m : M} {o : HO} (h : MOk K F φ m o) : MOk K F' φ m o := by
  cases m <;> cases o <;> first | exact Rs.lk l h | exact ⟨h.1, Rs.lk l h.2⟩ | exact h
section
variable {K : PySem.W.Frag} {mg : Str → Option Value} {Zx Z F : Hp} {φ : List Addr} {L : Lg} {H : Hp} {ρ : Ro} {σ : L2.St} {d : Addr} {u u' : HO}
theorem Hs.relock (h : Hs K mg Z F φ L H) (hd : F d = some u) (l : Lk F (upd F d u')) : Hs K mg Z (upd F d u') φ L (upd H d u') := by
  have out : ∀ a o, Z a = some o → a ≠ d := fun a o e q => by
    subst q
    have := (h.ext a o e).2.1
    rw [hd] at this; cases this
  refine ⟨fun a o e => ?_, fun a o e => ?_, h.len, h.nd, fun a m => ?_, fun i o a e1 e2 => ?_⟩
  · by_cases q : a = d
    · subst q; rw [upd_same] at e ⊢; exact e
    · rw [upd_ne q] at e ⊢; exact h.sub a o e
  · have q := out a o e
    rw [upd_ne q, upd_ne q]; exact h.ext a o e
  · by_cases q : a = d
    · subst q
      refine ⟨u', upd_same, fun xs e => ?_⟩
      subst e
      obtain ⟨o, ho, nt⟩ := h.has a m
      have := h.sub a u hd
      rw [this] at ho; cases ho
      rcases l a with e | ⟨od, v, hv, ⟨e1, e2⟩ | ⟨e1, e2⟩⟩
      · rw [upd_same, hd] at e; cases e; exact nt xs rfl
      · rw [upd_same] at e2; cases e2
      · rw [upd_same] at e2; cases e2; cases hv
    · obtain ⟨o, ho, nt⟩ := h.has a m
      exact ⟨o, by rw [upd_ne q]; exact ho, nt⟩
  · have hob := h.objs i o a e1 e2
    cases o with
    | ins c fs =>
      obtain ⟨n, C, dx, vs, h1, h2, h3, h4⟩ := hob
      have q : a ≠ d := fun q => by subst q; rw [hd] at n; cases n
      exact ⟨by rw [upd_ne q]; exact n, C, dx, vs, h1, by rw [upd_ne q]; exact h2, h3, Rs.lk l h4⟩
    | box m =>
      obtain ⟨n, o, h1, h2⟩ := hob
      have q : a ≠ d := fun q => by subst q; rw [hd] at n; cases n
      exact ⟨by rw [upd_ne q]; exact n, o, by rw [upd_ne q]; exact h1, h2.lk l⟩
    | dead => exact True.intro
    | nd kvs =>
      obtain ⟨n, P, w, xs, vs, h1, h2, h3, h4, h5⟩ := hob
      have q : a ≠ d := fun q => by subst q; rw [hd] at n; cases n
      exact ⟨by rw [upd_ne q]; exact n, P, w, xs, vs, by rw [upd_ne q]; exact h1, h2, Rs.lk l h3, Rs.lk l h4, h5⟩
theorem Ss.relock {F' : Hp} (l : Lk F F') (h : Ss K Zx Z F φ ρ σ) : Ss K Zx Z F' φ ρ σ :=
  ⟨h.len, fun i w e => let ⟨v, h1, h2⟩ := h.va i w e; ⟨v, h1, h2.lk l⟩, fun i m e => let ⟨a, o, h1, h2, h3, h4⟩ := h.ow i m e; ⟨a, o, h1, h2, h3, h4.lk l⟩, h.sep, h.out⟩
end
/-- the keys as values -/
def keysD : W → Option (List W)
  | .dK kvs => some (kvs.map fun kv => keyW kv.1)
  | .dT kvs => some (kvs.map fun kv => .tup (kv.1.map keyW))
  | _ => none
theorem Rs.keys {K : PySem.W.Frag} {F : Hp} {φ : List Addr} : ∀ ks : List Key, Rs K F φ (ks.map keyW) (ks.map kV)
  | [] => .nil
  | .inl i :: ks => .cons (.int i) (Rs.keys ks)
  | .inr s :: ks => .cons (.str s) (Rs.keys ks)
theorem R.key {K : PySem.W.Frag} {F : Hp} {φ : List Addr} (k : Key) : R K F φ (keyW k) (kV k) := by
  cases k with
  | inl i => exact .int i
  | inr s => exact .str s
/-- a tuple that stands somewhere may be taken into F -/
theorem Hs.takeT {K : PySem.W.Frag} {mg : Str → Option Value} {Z F : Hp} {φ : List Addr} {L : Lg} {H : Hp} {q : Addr} {xs : List V} (h : Hs K mg Z F φ L H) (hq : H q = some (.tup xs)) : ∃ F', Sub F F' ∧ F' q = some (.tup xs) ∧ Hs K mg Z F' φ L H := by
  cases e : F q with
  | some o =>
    have := h.sub q o e
    rw [hq] at this; cases this
    exact ⟨F, Sub.refl F, e, h⟩
  | none =>
    have zq : Z q = none := by
      cases z : Z q with
      | none => rfl
      | some o =>
        obtain ⟨h1, _, _, nt⟩ := h.ext q o z
        rw [hq] at h1; cases h1
        exact absurd rfl (nt xs)
    have nq : q ∉ φ := fun m => by
      obtain ⟨o, ho, nt⟩ := h.has q m
      rw [hq] at ho; cases ho
      exact nt xs rfl
    have sb : Sub F (upd F q (.tup xs)) := Sub.new e
    refine ⟨upd F q (.tup xs), sb, upd_same, ⟨fun a o ea => ?_, fun a o ea => ?_, h.len, h.nd, h.has, fun i o a e1 e2 => ?_⟩⟩
    · by_cases r : a = q
      · subst r; rw [upd_same] at ea; cases ea; exact hq
      · rw [upd_ne r] at ea; exact h.sub a o ea
    · obtain ⟨g1, g2, g3, g4⟩ := h.ext a o ea
      exact ⟨g1, by rw [upd_ne (ne_of_none ea zq)]; exact g2, g3, g4⟩
    · exact (h.objs i o a e1 e2).mono sb (List.prefix_refl φ) (fun z => by rw [upd_ne (pre_nd e2 nq)]; exact z) fun u z => z
section
variable {X : Cx} {tg e : Expr} {pos : Pos}
theorem itok_keys {K : PySem.W.Frag} {mg : Str → Option Value} {F : Hp} {φ : List Addr} {d : Addr} {od : Obj} {kvs : List (Key × W)} {vs : List (Key × V)} (h : F d = some (.frz od (.dK vs))) (e : kvs.map Prod.fst = vs.map Prod.fst) : ItOk K mg F φ (Itk d od vs) (kvs.map fun kv => keyW kv.1) := by
  intro Z F1 φ1 L1 H1 i s p hs
  have hd := hs.sub _ _ (s _ _ h)
  have hl := keys_len e
  refine ⟨fun x hx => ?_, fun hi => ⟨hd, by rw [← hl]; simpa using hi⟩⟩
  have hi : i < kvs.length := by have := (List.getElem?_eq_some_iff.mp hx).1; simpa using this
  refine ⟨⟨hd, by rw [← hl]; exact hi⟩, fun u H2 y => ?_⟩
  obtain ⟨rfl, k, v, hk, rfl⟩ := y
  refine ⟨F1, Sub.refl F1, hs, ?_⟩
  have e1 : (kvs.map Prod.fst)[i]? = some k := by rw [e, List.getElem?_map, hk]; rfl
  rw [List.getElem?_map] at hx e1
  cases q : kvs[i]? with
  | none => rw [q] at e1; cases e1
  | some kv =>
    rw [q] at e1 hx
    simp at e1 hx
    subst e1 hx
    exact R.key _
theorem itok_keysT {K : PySem.W.Frag} {mg : Str → Option Value} {F : Hp} {φ : List Addr} {d : Addr} {od : Obj} {kvs : List (List Key × W)} {vs : List (List Key × V)} (h : F d = some (.frz od (.dT vs))) (e : kvs.map Prod.fst = vs.map Prod.fst) : ItOk K mg F φ (Itkt d od vs) (kvs.map fun kv => .tup (kv.1.map keyW)) := by
  intro Z F1 φ1 L1 H1 i s p hs
  have hd := hs.sub _ _ (s _ _ h)
  have hl := keys_len e
  refine ⟨fun x hx => ?_, fun hi => ⟨hd, by rw [← hl]; simpa using hi⟩⟩
  have hi : i < kvs.length := by have := (List.getElem?_eq_some_iff.mp hx).1; simpa using this
  refine ⟨⟨hd, by rw [← hl]; exact hi⟩, fun u H2 y => ?_⟩
  obtain ⟨rfl, k, v, q, hk, rfl, hq⟩ := y
  obtain ⟨F2, s2, f2, hs2⟩ := hs.takeT hq
  refine ⟨F2, s2, hs2, ?_⟩
  have e1 : (kvs.map Prod.fst)[i]? = some k := by rw [e, List.getElem?_map, hk]; rfl
  rw [List.getElem?_map] at hx e1
  cases q : kvs[i]? with
  | none => rw [q] at e1; cases e1
  | some kv =>
    rw [q] at e1 hx
    simp at e1 hx
    subst e1 hx
    exact .tup f2 (Rs.keys _)
/-- the frozen dict that a name holds -/
def sKeys (i : Nat) : AF := fun ρ L => match ρ[i]? with
  | some (.va w) => (match keysD w with
    | some ks => some (ks, L)
    | none => none)
  | _ => none
/-- for x in d, d a frozen dict at a name -/
theorem is_forD {bd : List Stmt} {g : GF} {body : SF} {ix : List Nat} {x : Str} {px : Pos} (i : Nat) (hp : PassesOwn (model X.prog X.w) X.A X.env X.xe) (hc : X.calm = true) (hg : IG X tg ix g) (hb : ISs X bd body) (hN : X.N[i]? = some x := by rfl) (hv : Vis X.env.scope x := by first | exact Or.inl rfl | exact Or.inr (Or.inl rfl) | exact Or.inr (Or.inr rfl)) (hd : (x == ("__debug__" : Str)) = false := by decide)
    (hcd : (x == ("__classdict__" : Str)) = false := by decide) (hs' : ∀ y, foldedSetIterable (.Name x px) X.env y = pure y := by intro _; rfl) : IS X (.For tg (.Name x px) bd [] pos) (cFor (sKeys i) g body) := by
  refine ⟨fun {Zx Z F φ L ρ σ H o} hs ss h D q => ?_⟩
  have h0 := h
  unfold cFor at h
  split at h
  · cases h
  rename_i xs L1 e1
  have e1' := e1
  unfold sKeys at e1
  split at e1
  · rename_i w ew
    split at e1
    · rename_i ks ek
      simp only [Option.some.injEq, Prod.mk.injEq] at e1
      obtain ⟨rfl, rfl⟩ := e1
      obtain ⟨v, hv1, hv2⟩ := ss.va i w ew
      -- the dict's place
      have hdict : ∃ a u, v = .ref a ∧ isD u = true ∧ DAt F a u ∧ ((∃ kvs vs, w = .dK kvs ∧ u = .dK vs ∧ kvs.map Prod.fst = vs.map Prod.fst) ∨ ∃ kvs vs, w = .dT kvs ∧ u = .dT vs ∧ kvs.map Prod.fst = vs.map Prod.fst) := by
        cases hv2 <;> first | (cases ek; done) | skip
        · rename_i h1 h2 h3; exact ⟨_, _, rfl, rfl, h1, .inl ⟨_, _, rfl, rfl, h2⟩⟩
        · rename_i h1 h2 h3; exact ⟨_, _, rfl, rfl, h1, .inr ⟨_, _, rfl, rfl, h2⟩⟩
      obtain ⟨a, u, rfl, hu, hda, hw⟩ := hdict
      -- under a lock that stands already, or under a new one
      have core : ∀ (od : Obj) (F1 H1 : Hp) (D1 : Ends), F1 a = some (.frz od u) → Hs X.K X.mg Z F1 φ L H1 → Ss X.K Zx Z F1 φ ρ σ → EndOk X Zx F1 φ D1 o → tFor (iKeys (tVar i)) (WpG X tg) (WpSs X bd) D1 σ H1 := by
        intro od F1 H1 D1 hF1 hs1 ss1 q1
        have hH1 := hs1.sub _ _ hF1
        have go : ∀ J, ItOk X.K X.mg F1 φ J ks → ∃ W : Nat → Nat → L2.St → Hp → Prop, (∃ m, W 0 m σ H1) ∧ ∀ i m σ H, W i m σ H →
            (J.stop i H ∧ D1.nx σ H) ∨ (J.go i H ∧ ∃ N : L2.St → Hp → Prop, (∀ σ' H', N σ' H' → ∃ m', m' < m ∧ W (i + 1) m' σ' H') ∧ ∀ x H', J.yld i H x H' → WpG X tg x σ H' fun σ2 H2 => WpSs X bd { D1 with nx := N, ct := N, bk := D1.nx } σ2 H2) := by
          intro J itok
          refine ⟨fun i mm σ' H' => mm = ks.length - i ∧ i ≤ ks.length ∧ ∃ (Z2 F2 : Hp) (φ2 : List Addr) (ρ2 : Ro) (L2 : Lg), Sub F1 F2 ∧ φ <+: φ2 ∧ Hs X.K X.mg Z2 F2 φ2 L2 H' ∧ Ss X.K Zx Z2 F2 φ2 ρ2 σ' ∧ forLoop g body (ks.drop i) ρ2 L2 = some o,
            ⟨ks.length, rfl, Nat.zero_le _, Z, F1, φ, ρ, L, Sub.refl F1, List.prefix_refl φ, hs1, ss1, by simpa using h⟩, ?_⟩
          rintro i mm σ' H' ⟨rfl, hi', Z2, F2, φ2, ρ2, L2, s2, p2, hs2, ss2, e2⟩
          obtain ⟨it1, it2⟩ := itok i s2 p2 hs2
          by_cases hlt : i < ks.length
          · obtain ⟨go, yl⟩ := it1 _ (List.getElem?_eq_getElem hlt)
            refine .inr ⟨go, fun σ' H' => ∃ (Z2 F2 : Hp) (φ2 : List Addr) (ρ2 : Ro) (L2 : Lg), Sub F1 F2 ∧ φ <+: φ2 ∧ Hs X.K X.mg Z2 F2 φ2 L2 H' ∧ Ss X.K Zx Z2 F2 φ2 ρ2 σ' ∧ forLoop g body (ks.drop (i + 1)) ρ2 L2 = some o,
              fun σ' H' n => ⟨ks.length - (i + 1), by omega, rfl, hlt, n⟩, fun v H3 y => ?_⟩
            obtain ⟨F3, s3, hs3, r3⟩ := yl v H3 y
            rw [List.drop_eq_getElem_cons hlt] at e2
            unfold forLoop at e2
            split at e2
            · cases e2
            rename_i ρ3 g1
            refine hg.run hs3 (ss2.mono s3 (List.prefix_refl φ2)) r3 g1 _ fun σ4 ss4 _ => ?_
            have s13 := s2.trans s3
            cases e5 : body ρ3 L2 with
            | none => rw [e5] at e2; cases e2
            | some o1 =>
              rw [e5] at e2
              refine hb.run hs3 ss4 e5 _ ?_
              cases o1 with
              | nx ρ5 L5 => exact fun Z5 F5 φ5 σ5 H5 s5 p5 hs5 ss5 => ⟨Z5, F5, φ5, ρ5, L5, s13.trans s5, List.IsPrefix.trans p2 p5, hs5, ss5, e2⟩
              | ct ρ5 L5 => exact fun Z5 F5 φ5 σ5 H5 s5 p5 hs5 ss5 => ⟨Z5, F5, φ5, ρ5, L5, s13.trans s5, List.IsPrefix.trans p2 p5, hs5, ss5, e2⟩
              | bk ρ5 L5 =>
                cases e2
                exact fun Z5 F5 φ5 σ5 H5 s5 p5 hs5 ss5 => q1 Z5 F5 φ5 σ5 H5 (s13.trans s5) (List.IsPrefix.trans p2 p5) hs5 ss5
              | rt w L5 =>
                cases e2
                exact fun Z5 F5 φ5 H5 v5 s5 p5 z hs5 r5 => q1 Z5 F5 φ5 H5 v5 (s13.trans s5) (List.IsPrefix.trans p2 p5) z hs5 r5
          · have ei : i = ks.length := by omega
            subst ei
            refine .inl ⟨it2 (Nat.le_refl _), ?_⟩
            rw [List.drop_length] at e2
            simp only [forLoop, Option.some.injEq] at e2
            subst e2
            exact q1 Z2 F2 φ2 σ' H' s2 p2 hs2 ss2
        refine ⟨.ref a, hv1, a, od, rfl, ?_⟩
        rcases hw with ⟨kvs, vs, rfl, rfl, hk⟩ | ⟨kvs, vs, rfl, rfl, hk⟩
        · simp only [keysD, Option.some.injEq] at ek
          subst ek
          exact .inl ⟨vs, hH1, go _ (itok_keys hF1 hk)⟩
        · simp only [keysD, Option.some.injEq] at ek
          subst ek
          exact .inr ⟨vs, hH1, go _ (itok_keysT hF1 hk)⟩
      have base : PS X (.For tg (.Name x px) bd [] pos) (tFor (iKeys (tVar i)) (WpG X tg) (WpSs X bd)) := ps_for hp hc (pi_keys (pe_var hN hv hd hcd)) wpG wpSs hs'
      rcases hda with hda | ⟨od, hda⟩
      · refine PS.wp (ps_lock base) ⟨a, u, hs.sub _ _ hda, ?_, fun od => ?_⟩
        · cases u <;> first | (cases hu; done) | exact True.intro
        · have l := Lk.lock (od := od) hda hu
          refine core od _ _ _ upd_same (hs.relock hda l) (ss.relock l) ?_
          -- behind: the lock is taken away
          have back : ∀ {F' : Hp}, Sub (upd F a (.frz od u)) F' → F' a = some (.frz od u) ∧ Sub F (upd F' a u) := fun {F'} s => by
            refine ⟨s _ _ upd_same, fun b o' eb => ?_⟩
            by_cases qb : b = a
            · subst qb; rw [hda] at eb; cases eb; exact upd_same
            · rw [upd_ne qb]; exact s b o' (by rw [upd_ne qb]; exact eb)
          have cont' : ∀ {ρ' : Ro} {L' : Lg} {P : L2.St → Hp → Prop}, GoOn X Zx F φ ρ' L' P → GoOn X Zx (upd F a (.frz od u)) φ ρ' L' fun σ' H' => H' a = some (.frz od u) ∧ P σ' (upd H' a u) :=
            fun {ρ' L' P} g Z' F' φ' σ' H' s p hs' ss' => by
              obtain ⟨b1, b2⟩ := back s
              have l' := Lk.unlock b1 hu
              exact ⟨hs'.sub _ _ b1, g Z' _ φ' σ' _ b2 p (hs'.relock b1 l') (ss'.relock l')⟩
          cases o with
          | nx ρ' L' => exact cont' q
          | bk ρ' L' => exact cont' q
          | ct ρ' L' => exact cont' q
          | rt w L' =>
            intro Z' F' φ' H' v' s p z hs' r'
            obtain ⟨b1, b2⟩ := back s
            have l' := Lk.unlock b1 hu
            exact ⟨hs'.sub _ _ b1, q Z' _ φ' _ v' b2 p z (hs'.relock b1 l') (r'.lk l')⟩
      · exact PS.wp base (core od F H D hda hs ss q)
    · cases e1
  · cases e1
/-! ### comprehensions over a frozen dict at a name -/
theorem lcD_run {i : Nat} {g : GF} {tt : TF} {te : EF} {ix vs : List Nat} (hix : ∀ i ∈ ix, i ∈ vs) (gW : TG) (tW : TT) (eW : TE)
    (hg : ∀ {Zx Z F : Hp} {φ : List Addr} {L : Lg} {ρ ρ' : Ro} {σ : L2.St} {H : Hp} {w : W} {v : V}, Hs X.K X.mg Z F φ L H → Ss X.K Zx Z F φ ρ σ → R X.K F φ w v → g w ρ = some ρ' →
      ∀ Q : L2.St → Hp → Prop, (∀ σ', Ss X.K Zx Z F φ ρ' σ' → (∀ vs, (∀ i ∈ ix, i ∈ vs) → wipe σ' vs = wipe σ vs) → Q σ' H) → gW v σ H Q)
    (ht : ∀ {Zx Z F : Hp} {φ : List Addr} {L : Lg} {ρ : Ro} {σ : L2.St} {H : Hp} {w : Bool} {L' : Lg}, Hs X.K X.mg Z F φ L H → Ss X.K Zx Z F φ ρ σ → tt ρ L = some (w, L') →
      ∀ Q : Bool → Hp → Prop, (∀ (F' : Hp) (φ' : List Addr) (H' : Hp), Sub F F' → φ <+: φ' → Hs X.K X.mg Z F' φ' L' H' → Q w H') → tW σ H Q)
    (he : ∀ {Zx Z F : Hp} {φ : List Addr} {L : Lg} {ρ : Ro} {σ : L2.St} {H : Hp} {w : W} {L' : Lg}, Hs X.K X.mg Z F φ L H → Ss X.K Zx Z F φ ρ σ → te ρ L = some (w, L') →
      ∀ Q : VK, (∀ (F' : Hp) (φ' : List Addr) (H' : Hp) (v : V), Sub F F' → φ <+: φ' → Hs X.K X.mg Z F' φ' L' H' → R X.K F' φ' w v → Q v H') → eW σ H Q)
    {Zx Z F : Hp} {φ : List Addr} {L : Lg} {ρ : Ro} {σ : L2.St} {H : Hp} {m : M} {L' : Lg} (hs : Hs X.K X.mg Z F φ L H) (ss : Ss X.K Zx Z F φ ρ σ) (h : cLc (sKeys i) g tt te vs ρ L = some (m, L'))
    (Q : VK) (q : ∀ (F' : Hp) (φ' : List Addr) (H' : Hp) (p : Addr) (o : HO), Sub F F' → φ <+: φ' → Z p = none → Hs X.K X.mg (upd Z p o) F' φ' L' H' → MOk X.K F' φ' m o → Q (.ref p) H') :
    tLc (iKeys (tVar i)) gW tW eW vs σ H Q ∨ tLockE (tLc (iKeys (tVar i)) gW tW eW vs) σ H Q := by
  unfold cLc at h
  split at h
  · cases h
  rename_i ks L1 e1
  split at h
  · cases h
  rename_i ws L2 e2
  split at h
  · rename_i hz
    simp only [Option.some.injEq, Prod.mk.injEq] at h
    obtain ⟨rfl, rfl⟩ := h
    unfold sKeys at e1
    split at e1
    · rename_i w ew
      split at e1
      · rename_i ks' ek
        simp only [Option.some.injEq, Prod.mk.injEq] at e1
        obtain ⟨rfl, rfl⟩ := e1
        obtain ⟨v, hv1, hv2⟩ := ss.va i w ew
        have hdict : ∃ a u, v = .ref a ∧ isD u = true ∧ DAt F a u ∧ ((∃ kvs vs, w = .dK kvs ∧ u = .dK vs ∧ kvs.map Prod.fst = vs.map Prod.fst) ∨ ∃ kvs vs, w = .dT kvs ∧ u = .dT vs ∧ kvs.map Prod.fst = vs.map Prod.fst) := by
          cases hv2 <;> first | (cases ek; done) | skip
          · rename_i h1 h2 h3; exact ⟨_, _, rfl, rfl, h1, .inl ⟨_, _, rfl, rfl, h2⟩⟩
          · rename_i h1 h2 h3; exact ⟨_, _, rfl, rfl, h1, .inr ⟨_, _, rfl, rfl, h2⟩⟩
        obtain ⟨a, u, rfl, hu, hda, hw⟩ := hdict
        have core : ∀ (od : Obj) (F1 H1 : Hp) (Q1 : VK), F1 a = some (.frz od u) → Hs X.K X.mg Z F1 φ L H1 → Ss X.K Zx Z F1 φ ρ σ →
            (∀ (F' : Hp) (φ' : List Addr) (H' : Hp) (p : Addr) (o : HO), Sub F1 F' → φ <+: φ' → Z p = none → Hs X.K X.mg (upd Z p o) F' φ' L2 H' → MOk X.K F' φ' (.lst ws) o → Q1 (.ref p) H') → tLc (iKeys (tVar i)) gW tW eW vs σ H1 Q1 := by
          intro od F1 H1 Q1 hF1 hs1 ss1 q1
          have hH1 := hs1.sub _ _ hF1
          refine ⟨.ref a, hv1, a, od, rfl, ?_⟩
          rcases hw with ⟨kvs, vs', rfl, rfl, hk⟩ | ⟨kvs, vs', rfl, rfl, hk⟩
          · simp only [keysD, Option.some.injEq] at ek
            subst ek
            exact .inl ⟨vs', hH1, fun D hD => lc_w hix gW tW eW hg ht he hs1 ss1 (itok_keys hF1 hk) e2 hz Q1 q1 hD⟩
          · simp only [keysD, Option.some.injEq] at ek
            subst ek
            exact .inr ⟨vs', hH1, fun D hD => lc_w hix gW tW eW hg ht he hs1 ss1 (itok_keysT hF1 hk) e2 hz Q1 q1 hD⟩
        rcases hda with hda | ⟨od, hda⟩
        · refine .inr ⟨a, u, hs.sub _ _ hda, ?_, fun od => ?_⟩
          · cases u <;> first | (cases hu; done) | exact True.intro
          · have l := Lk.lock (od := od) hda hu
            refine core od _ _ _ upd_same (hs.relock hda l) (ss.relock l) fun F' φ' H' p o s p' z hs' m' => ?_
            have b1 : F' a = some (.frz od u) := s _ _ upd_same
            have b2 : Sub F (upd F' a u) := fun b o' eb => by
              by_cases qb : b = a
              · subst qb; rw [hda] at eb; cases eb; exact upd_same
              · rw [upd_ne qb]; exact s b o' (by rw [upd_ne qb]; exact eb)
            have l' := Lk.unlock b1 hu
            exact ⟨hs'.sub _ _ b1, q _ φ' _ p o b2 p' z (hs'.relock b1 l') (m'.lk l')⟩
        · exact .inl (core od F H Q hda hs ss q)
      · cases e1
    · cases e1
  · cases h
theorem in_lcD {elt tg : Expr} {ifs : List Expr} {scope : Scope} {own : List (Str × Nat)} {g : GF} {tt : TF} {te : EF} {ix : List Nat} {x : Str} {px : Pos} (i : Nat) (hc : X.calm = true) (hN : X.N.Nodup) (ok : BlkOk X.N X.env.scope scope own) (hix : ∀ i ∈ ix, i ∈ own.map (·.2))
    (hg : ∀ (s : Shared) (H : Hp) (C : Addr) (cl : List (Str × Addr)) (fp : List Addr), IG (X.blk s H scope (compEnvC scope cl C X.env) fp) tg ix g) (ht : ∀ (s : Shared) (H : Hp) (C : Addr) (cl : List (Str × Addr)) (fp : List Addr), ITs (X.blk s H scope (compEnvC scope cl C X.env) fp) ifs tt)
    (he : ∀ (s : Shared) (H : Hp) (C : Addr) (cl : List (Str × Addr)) (fp : List Addr), IE (X.blk s H scope (compEnvC scope cl C X.env) fp) elt te) (hNi : X.N[i]? = some x := by rfl) (hv : Vis X.env.scope x := by first | exact Or.inl rfl | exact Or.inr (Or.inl rfl) | exact Or.inr (Or.inr rfl)) (hd : (x == ("__debug__" : Str)) = false := by decide)
    (hcd : (x == ("__classdict__" : Str)) = false := by decide) (hs' : ∀ y, foldedSetIterable (.Name x px) X.env y = pure y := by intro _; rfl) :
    IN X (.ListComp elt [⟨tg, .Name x px, ifs, 0⟩] scope pos) (cLc (sKeys i) g tt te (own.map (·.2))) := by
  refine ⟨fun {Zx Z F φ L ρ σ H m L'} hs ss h Q q => ?_⟩
  let gW : TG := fun v σ H Q => ∀ (s : Shared) (H0 : Hp) (C : Addr) (cl : List (Str × Addr)) (fp : List Addr), WpG (X.blk s H0 scope (compEnvC scope cl C X.env) fp) tg v σ H Q
  let tW : TT := fun σ H Q => ∀ (s : Shared) (H0 : Hp) (C : Addr) (cl : List (Str × Addr)) (fp : List Addr), WpTs (X.blk s H0 scope (compEnvC scope cl C X.env) fp) ifs σ H Q
  let eW : TE := fun σ H Q => ∀ (s : Shared) (H0 : Hp) (C : Addr) (cl : List (Str × Addr)) (fp : List Addr), Wp (X.blk s H0 scope (compEnvC scope cl C X.env) fp) elt σ H Q
  have base := pe_lc (pos := pos) hc hN (pi_keys (tg := tg) (pe_var (pos := px) hNi hv hd hcd)) ok (g := gW) (tt := tW) (te := eW) (fun s H C cl fp => ⟨fun pins s' σ H v u Q I r h => h s _ C cl fp pins s' u I r⟩) (fun s H C cl fp => ⟨fun pins s' σ H Q I h => h s _ C cl fp pins s' I⟩) (fun s H C cl fp => ⟨fun pins s' σ H Q I h => h s _ C cl fp pins s' I⟩) hs'
  rcases lcD_run (i := i) hix gW tW eW (fun h1 h2 h3 h4 Q q s H0 C cl fp => (hg s H0 C cl fp).run h1 h2 h3 h4 Q q)
    (fun h1 h2 h3 Q q s H0 C cl fp => let ⟨t, k1, k2⟩ := (ht s H0 C cl fp).run h1 h2 h3 Q q; PTs.wp k1 k2) (fun h1 h2 h3 Q q s H0 C cl fp => (he s H0 C cl fp).run h1 h2 h3 Q q) hs ss h Q q with r | r
  · exact PE.wp base r
  · exact PE.wp (pe_lock base) r
end
end Lf

set_option maxHeartbeats 4000000
/-! Lf, part W: defs by name, names in their places, the end of a law. -/
namespace Lf
open PySem PySem.Spec PyProof.Rows L2

theorem u100 {A : Around} {k : Nat} (r : Room k A) : A.units + 100 < cLine := by have := r.un; omega
/-- a def that stands under its name and does what d says -/
structure Def (P : Program) (w : World) (K : PySem.W.Frag) (mg : Str → Option Value) (base : Heap) (k : Nat) (x : Str) (ps : List Str) (d : DF) : Prop where
  ex : ∃ (f : Addr) (fd : FuncData), FnOk P w K mg base CX0 k f fd ps (spI K mg ps.length d) ∧ mg x = some (.ref f) ∧ PySem.W.keepIn K (.ref f) = true ∧ Binds K fd ps []
section
variable {X : Cx} {e a b : Expr} {es : List Expr} {pos : Pos}
theorem ie_callD {k j : Nat} {x : Str} {p : Pos} {ps : List Str} {d : DF} {g : AF} (G : Def X.prog X.w X.K X.mg X.base k x ps d) (hr : Room j X.A) (hkj : k ≤ j) (hg : Gl X x) (ha : IA X (e :: es) g) (hn : ∀ ρ L ws L', g ρ L = some (ws, L') → ws.length = ps.length)
    (hdb : (x == ("__debug__" : Str)) = false := by decide) (he : starEach (e :: es) X.env = (false, eval e X.env) :: starEach es X.env := by rfl) (hpl : (backTo pos (starEach es X.env)).any (·.1) = false := by rfl) :
    IE X (.Call (.Name x p) (e :: es) [] pos) (cCall d g) := by
  refine ⟨fun hs ss h Q q => ?_⟩
  obtain ⟨f, fd, F, hm, hk, hb⟩ := G.ex
  exact (ie_call F (hr.mono hkj) hg hm hk hb ha hn hdb he hpl).run hs ss h Q q
/-- a name in its place, whatever it holds -/
def cNm (i : Nat) : OF := fun ρ L => match ρ[i]? with
  | some (.ow _) => some (.own i, L)
  | some (.va w) => some (.val w, L)
  | _ => none
theorem io_nm (i : Nat) {x : Str} (hN : X.N[i]? = some x := by rfl) (hv : Vis X.env.scope x := by first | exact Or.inl rfl | exact Or.inr (Or.inl rfl) | exact Or.inr (Or.inr rfl)) (hd : (x == ("__debug__" : Str)) = false := by decide)
    (hcd : (x == ("__classdict__" : Str)) = false := by decide) : IO X (.Name x pos) (cNm i) := by
  refine ⟨fun {Zx Z F φ L ρ σ H w L'} hs ss h Q q => ?_⟩
  unfold cNm at h
  split at h
  · rename_i m e1
    exact (io_own i hN hv hd hcd).run hs ss (by unfold cOwn; rw [e1]; exact h) Q q
  · rename_i w0 e1
    exact ((ie_var i hN hv hd hcd).io).run hs ss (by unfold cOf cVar; rw [e1]; exact h) Q q
  · cases h
end
section
variable {P : Program} {w : World} {K : PySem.W.Frag} {mg : Str → Option Value} {base : Heap}
theorem fn_okD {x qual : Str} {st : Stmt} {f : Addr} {fd : FuncData} {N ps : List Str} {k : Nat} {body : SF} (F : FunD K x qual (defArgs st) (defBody st) (defScope st) [] [] f fd) (S : FnScope N ps (defScope st))
    (hb : ∀ (cdv : Value) (A : Around) (outer : List Env) (s : Shared) (H : Hp) (E : XK), Room k (A.deeper (envOfC qual (defScope st) s.heap.objs.size f cdv)) → ISs (cxOf CX0 P w K mg base N qual (defScope st) f cdv A outer s H E).nox (defBody st) body) :
    FnOk P w K mg base CX0 (k + 1) f fd ps (spI K mg ps.length (runDef N.length body)) := by
  refine F.ok S (fun vs H Q E h => ?_) (fun cdv A outer s H vs Q E hr h => ?_)
  · obtain ⟨Z, F, φ, L, ws, w, L', h1, h2, h3, _⟩ := h
    rw [← h2.length]; exact h3
  · obtain ⟨Z, F1, φ, L, ws, w1, L', h1, h2, h3, h4, q⟩ := h
    refine ⟨_, PSs.nox wpSs, ?_⟩
    unfold runDef at h4
    split at h4
    · rename_i ρ1 L1 e1
      simp only [Option.some.injEq, Prod.mk.injEq] at h4
      obtain ⟨rfl, rfl⟩ := h4
      exact (hb cdv A outer s H E hr).run h1 (Ss.start h2) e1 _ fun Z' F' φ' σ' H' s1 p1 hs1 ss1 => q Z' F' φ' H' .non s1 p1 ss1.out hs1 .non
    · rename_i w2 L1 e1
      simp only [Option.some.injEq, Prod.mk.injEq] at h4
      obtain ⟨rfl, rfl⟩ := h4
      exact (hb cdv A outer s H E hr).run h1 (Ss.start h2) e1 _ fun Z' F' φ' H' v s1 p1 z hs1 r1 => q Z' F' φ' H' v s1 p1 z hs1 r1
    · cases h4
theorem def_mk {x qual : Str} {st : Stmt} {f : Addr} {fd : FuncData} {N ps : List Str} {k : Nat} {body : SF} (F : FunD K x qual (defArgs st) (defBody st) (defScope st) [] [] f fd) (hm : mg x = some (.ref f)) (hb : Binds K fd ps []) (S : FnScope N ps (defScope st))
    (h : ∀ (cdv : Value) (A : Around) (outer : List Env) (s : Shared) (H : Hp) (E : XK), Room k (A.deeper (envOfC qual (defScope st) s.heap.objs.size f cdv)) → ISs (cxOf CX0 P w K mg base N qual (defScope st) f cdv A outer s H E).nox (defBody st) body) :
    Def P w K mg base (k + 1) x ps (runDef N.length body) := ⟨f, fd, fn_okD F S h, hm, F.kp, hb⟩
end
/-! ### the end -/
/-- a law: what stands behind the top gives the law's def with what it computes -/
theorem walk_lf {l : PySem.W.OpenLaw} {n k : Nat} {q : Program} {loose : List Str} {XP : (Str → Option Value) → Heap → Prop} {YP : World → Heap → Prop} {d : DefRec} {x : Str} {D : DF}
    (hn : l.most = some n) (hn2 : n ≤ sizeLine) (hdf : d.params.defaults = []) (hr : Room k callerA)
    (F : ∀ (w : World) (mg : Str → Option Value) (fa : Addr) (h : Heap), YP w h → h.Ns mainGlobals mg → mg d.name = some (.ref fa) →
      ∃ (K : PySem.W.Frag) (fd : FuncData), K.In h ∧ (∀ (s : Shared) (u : Value), BindsTo s fd ⟨[u], []⟩ [(x, u)]) ∧
        ∀ base : Heap, K.In base → base.Ns mainGlobals mg → FnOk l.prog w K mg base CX0 k fa fd [x] (spI K mg 1 D))
    (hD : ∀ ns : List Int, ns.length ≤ n → (∀ z ∈ ns, Builtin.Int.intBits z ≤ 1048576) → ∃ L', D [.scr ns] [] = some (.bl true, L')) :
    PySem.W.WalkO q loose XP YP l.row.toRowW d [] (fun f vs => PySem.call f vs) := by
  refine Att.attach_callB hn hdf fun w s₀ s₁ mg mb fa o pm cd doc a vs ns G Y ho hd hcd hmg hobj hints hlen hbits hg => ?_
  obtain ⟨K, fd, KX, hb, hF⟩ := F w mg fa _ Y G.T.g hmg
  refine law_call (sp := spI K mg 1 D) KX G.T.g G.T.b G.T.builtins G.T.nolimit hg hobj hints (Nat.le_trans hlen hn2) hr hF hb (fun H _ hS => ?_) fun _ _ _ z => z
  obtain ⟨L', e⟩ := hD ns hlen hbits
  refine ⟨fun _ => none, H, [], [], [.scr ns], .bl true, L', ⟨Sub.refl H, (fun _ _ z => by cases z), rfl, by simp, (fun _ z => by cases z), fun i o a z => by simp at z⟩, .cons (.scr hS) .nil, rfl, e, fun Z' F' φ' H' v _ _ _ _ r => ?_⟩
  cases r
  rfl
end Lf

set_option maxHeartbeats 4000000
/-! Lf, part X: the combinators on slots and things, as equations. -/
namespace Lf
open PySem PySem.Spec PyProof.Rows L2
@[simp] theorem e_cVar (i : Nat) (ρ : Ro) (L : Lg) : cVar i ρ L = (match ρ[i]? with
  | some (.va w) => some (w, L)
  | _ => none) := id rfl
@[simp] theorem e_cK (w : W) (z0 : Ro) (L : Lg) : cK w z0 L = (some (w, L)) := id rfl
@[simp] theorem e_cOp (g : W → W → Option W) (fa fb : EF) (ρ : Ro) (L : Lg) : cOp g fa fb ρ L = (match fa ρ L with
  | none => none
  | some (x, L1) => match fb ρ L1 with
    | none => none
    | some (y, L2) => match g x y with
      | none => none
      | some w => some (w, L2)) := id rfl
@[simp] theorem e_cUn (g : W → Option W) (fa : EF) (ρ : Ro) (L : Lg) : cUn g fa ρ L = (match fa ρ L with
  | none => none
  | some (x, L1) => match g x with
    | none => none
    | some w => some (w, L1)) := id rfl
@[simp] theorem e_asT (f : EF) (ρ : Ro) (L : Lg) : asT f ρ L = (match f ρ L with
  | some (.bl k, L') => some (k, L')
  | _ => none) := id rfl
@[simp] theorem e_cTru (f : EF) (ρ : Ro) (L : Lg) : cTru f ρ L = (match f ρ L with
  | some (w, L') => match truW w with
    | some k => some (k, L')
    | none => none
  | none => none) := id rfl
@[simp] theorem e_cTruO (f : OF) (ρ : Ro) (L : Lg) : cTruO f ρ L = (match f ρ L with
  | some (w, L') => match cont ρ L' w with
    | some w => match truW w with
      | some k => some (k, L')
      | none => none
    | none => none
  | none => none) := id rfl
@[simp] theorem e_cNot (f : TF) (ρ : Ro) (L : Lg) : cNot f ρ L = (match f ρ L with
  | some (k, L') => some (!k, L')
  | none => none) := id rfl
@[simp] theorem e_cAnd (f g : TF) (ρ : Ro) (L : Lg) : cAnd f g ρ L = (match f ρ L with
  | some (true, L') => g ρ L'
  | some (false, L') => some (false, L')
  | none => none) := id rfl
@[simp] theorem e_cOr (f g : TF) (ρ : Ro) (L : Lg) : cOr f g ρ L = (match f ρ L with
  | some (true, L') => some (true, L')
  | some (false, L') => g ρ L'
  | none => none) := id rfl
@[simp] theorem e_asE (f : TF) (ρ : Ro) (L : Lg) : asE f ρ L = (match f ρ L with
  | some (k, L') => some (.bl k, L')
  | none => none) := id rfl
@[simp] theorem e_cNotV (f : EF) (ρ : Ro) (L : Lg) : cNotV f ρ L = (match f ρ L with
  | some (.bl k, L') => some (.bl (!k), L')
  | _ => none) := id rfl
@[simp] theorem e_cAndV (f g : EF) (ρ : Ro) (L : Lg) : cAndV f g ρ L = (match f ρ L with
  | some (.bl true, L') => g ρ L'
  | some (.bl false, L') => some (.bl false, L')
  | _ => none) := id rfl
@[simp] theorem e_cOrV (f g : EF) (ρ : Ro) (L : Lg) : cOrV f g ρ L = (match f ρ L with
  | some (.bl true, L') => some (.bl true, L')
  | some (.bl false, L') => g ρ L'
  | _ => none) := id rfl
@[simp] theorem e_cIf (t : TF) (f g : EF) (ρ : Ro) (L : Lg) : cIf t f g ρ L = (match t ρ L with
  | some (true, L') => f ρ L'
  | some (false, L') => g ρ L'
  | none => none) := id rfl
@[simp] theorem e_cNil  (z0 : Ro) (L : Lg) : cNil  z0 L = (some ([], L)) := id rfl
@[simp] theorem e_cCons (f : EF) (g : AF) (ρ : Ro) (L : Lg) : cCons f g ρ L = (match f ρ L with
  | none => none
  | some (w, L1) => match g ρ L1 with
    | none => none
    | some (ws, L2) => some (w :: ws, L2)) := id rfl
@[simp] theorem e_cTup (g : AF) (ρ : Ro) (L : Lg) : cTup g ρ L = (match g ρ L with
  | none => none
  | some (ws, L1) => if ws.length ≤ 1000 then some (.tup ws, L1) else none) := id rfl
@[simp] theorem e_cLst (g : AF) (ρ : Ro) (L : Lg) : cLst g ρ L = (match g ρ L with
  | none => none
  | some (ws, L1) => if ws.length ≤ 1000 then some (.lst ws, L1) else none) := id rfl
@[simp] theorem e_cFz (f : NF) (ρ : Ro) (L : Lg) : cFz f ρ L = (match f ρ L with
  | none => none
  | some (m, L') => some (m.fz, L')) := id rfl
@[simp] theorem e_cBox (f : NF) (ρ : Ro) (L : Lg) : cBox f ρ L = (match f ρ L with
  | none => none
  | some (m, L') => some (.ob L'.length, L' ++ [.box m])) := id rfl
@[simp] theorem e_cOf (f : EF) (ρ : Ro) (L : Lg) : cOf f ρ L = (match f ρ L with
  | none => none
  | some (w, L') => some (.val w, L')) := id rfl
@[simp] theorem e_cOwn (i : Nat) (ρ : Ro) (L : Lg) : cOwn i ρ L = (match ρ[i]? with
  | some (.ow _) => some (.own i, L)
  | _ => none) := id rfl
@[simp] theorem e_cIx (g : W → W → Option W) (fo : OF) (fi : EF) (ρ : Ro) (L : Lg) : cIx g fo fi ρ L = (match fo ρ L with
  | none => none
  | some (h, L1) => match fi ρ L1 with
    | none => none
    | some (i, L2) => match cont ρ L2 h with
      | none => none
      | some w => match g w i with
        | none => none
        | some r => some (r, L2)) := id rfl
@[simp] theorem e_gN (i : Nat) (w : W) (ρ : Ro) : gN i w ρ = (if i < ρ.length then some (ρ.set i (.va w)) else none) := id rfl
@[simp] theorem e_gsN  (ws : List W) (ρ : Ro) : gsN  ws ρ = (match ws with
  | [] => some ρ
  | _ => none) := id rfl
@[simp] theorem e_gsC (g : GF) (k : GsF) (ws : List W) (ρ : Ro) : gsC g k ws ρ = (match ws with
  | [] => none
  | w :: r => match g w ρ with
    | none => none
    | some ρ1 => k r ρ1) := id rfl
@[simp] theorem e_gTupW (n : Nat) (k : GsF) (w : W) (ρ : Ro) : gTupW n k w ρ = (match w with
  | .tup ws => if ws.length = n then k ws ρ else none
  | .kt ws => if ws.length = n then k ws ρ else none
  | _ => none) := id rfl
@[simp] theorem e_sLst (f : EF) (ρ : Ro) (L : Lg) : sLst f ρ L = (match f ρ L with
  | some (.lst xs, L') => some (xs, L')
  | _ => none) := id rfl
@[simp] theorem e_sTup (f : EF) (ρ : Ro) (L : Lg) : sTup f ρ L = (match f ρ L with
  | some (.tup xs, L') => some (xs, L')
  | some (.kt xs, L') => some (xs, L')
  | _ => none) := id rfl
@[simp] theorem e_cYes  (z0 : Ro) (L : Lg) : cYes  z0 L = (some (true, L)) := id rfl
@[simp] theorem e_cLc (src : AF) (g : GF) (tt : TF) (te : EF) (vs : List Nat) (ρ : Ro) (L : Lg) : cLc src g tt te vs ρ L = (match src ρ L with
  | none => none
  | some (xs, L1) => match lcLoop g tt te (wipeR ρ vs) xs L1 with
    | none => none
    | some (ws, L2) => if ws.length ≤ 16777216 then some (.lst ws, L2) else none) := id rfl
@[simp] theorem e_cNx  (ρ : Ro) (L : Lg) : cNx  ρ L = (some (.nx ρ L)) := id rfl
@[simp] theorem e_cSeq (f g : SF) (ρ : Ro) (L : Lg) : cSeq f g ρ L = (match f ρ L with
  | some (.nx ρ1 L1) => g ρ1 L1
  | o => o) := id rfl
@[simp] theorem e_cFr (i : Nat) (f : SF) (ρ : Ro) (L : Lg) : cFr i f ρ L = (match ρ[i]? with
  | some (.ow m) => f (ρ.set i (.va m.fz)) L
  | _ => f ρ L) := id rfl
@[simp] theorem e_cDrop (f : EF) (ρ : Ro) (L : Lg) : cDrop f ρ L = (match f ρ L with
  | none => none
  | some (_, L') => some (.nx ρ L')) := id rfl
@[simp] theorem e_cRet (f : EF) (ρ : Ro) (L : Lg) : cRet f ρ L = (match f ρ L with
  | none => none
  | some (w, L') => some (.rt w L')) := id rfl
@[simp] theorem e_cRetN  (z0 : Ro) (L : Lg) : cRetN  z0 L = (some (.rt .non L)) := id rfl
@[simp] theorem e_cIfS (t : TF) (f g : SF) (ρ : Ro) (L : Lg) : cIfS t f g ρ L = (match t ρ L with
  | none => none
  | some (true, L') => f ρ L'
  | some (false, L') => g ρ L') := id rfl
@[simp] theorem e_cSet (i : Nat) (f : EF) (ρ : Ro) (L : Lg) : cSet i f ρ L = (match f ρ L with
  | none => none
  | some (w, L') => if i < ρ.length then some (.nx (ρ.set i (.va w)) L') else none) := id rfl
@[simp] theorem e_cSetO (i : Nat) (f : NF) (ρ : Ro) (L : Lg) : cSetO i f ρ L = (match f ρ L with
  | none => none
  | some (m, L') => if i < ρ.length then some (.nx (ρ.set i (.ow m)) L') else none) := id rfl
@[simp] theorem e_cFz2 (i : Nat) (f : SF) (ρ : Ro) (L : Lg) : cFz2 i f ρ L = (match f ρ L with
  | some (.nx ρ1 L1) => (match ρ1[i]? with
    | some (.ow m) => some (.nx (ρ1.set i (.va m.fz)) L1)
    | _ => some (.nx ρ1 L1))
  | o => o) := id rfl
@[simp] theorem e_cAsg (g : GF) (f : EF) (ρ : Ro) (L : Lg) : cAsg g f ρ L = (match f ρ L with
  | none => none
  | some (w, L') => match g w ρ with
    | none => none
    | some ρ' => some (.nx ρ' L')) := id rfl
@[simp] theorem e_cAug (i : Nat) (g : W → W → Option W) (f : EF) (ρ : Ro) (L : Lg) : cAug i g f ρ L = (match ρ[i]? with
  | some (.va x) => (match f ρ L with
    | none => none
    | some (y, L') => match g x y with
      | none => none
      | some w => some (.nx (ρ.set i (.va w)) L'))
  | _ => none) := id rfl
@[simp] theorem e_cApp (i : Nat) (f : EF) (ρ : Ro) (L : Lg) : cApp i f ρ L = (match f ρ L with
  | none => none
  | some (w, L') => match ρ[i]? with
    | some (.ow (.lst ws)) => if ws.length < 16777216 then some (.nx (ρ.set i (.ow (.lst (ws ++ [w])))) L') else none
    | _ => none) := id rfl
@[simp] theorem e_cFor (src : AF) (g : GF) (body : SF) (ρ : Ro) (L : Lg) : cFor src g body ρ L = (match src ρ L with
  | none => none
  | some (xs, L1) => forLoop g body xs ρ L1) := id rfl
@[simp] theorem e_cCall (d : DF) (g : AF) (ρ : Ro) (L : Lg) : cCall d g ρ L = (match g ρ L with
  | none => none
  | some (ws, L1) => d ws L1) := id rfl
@[simp] theorem e_cN (g : List W → Option W) (f : AF) (ρ : Ro) (L : Lg) : cN g f ρ L = (match f ρ L with
  | none => none
  | some (ws, L1) => match g ws with
    | none => none
    | some w => some (w, L1)) := id rfl
@[simp] theorem e_cC (g : W → Option W) (f : OF) (ρ : Ro) (L : Lg) : cC g f ρ L = (match f ρ L with
  | none => none
  | some (h, L1) => match cont ρ L1 h with
    | none => none
    | some w0 => match g w0 with
      | none => none
      | some w => some (w, L1)) := id rfl
@[simp] theorem e_listW (f : OF) (ρ : Ro) (L : Lg) : listW f ρ L = (match f ρ L with
  | none => none
  | some (h, L1) => match cont ρ L1 h with
    | some (.lst ws) => some (.lst ws, L1)
    | some (.tup ws) => some (.lst ws, L1)
    | _ => none) := id rfl
@[simp] theorem e_nSort (f : OF) (ρ : Ro) (L : Lg) : nSort f ρ L = (match f ρ L with
  | none => none
  | some (h, L1) => match cont ρ L1 h with
    | some (.lst ws) => (match sortL ws with
      | some rs => some (.lst rs, L1)
      | none => none)
    | _ => none) := id rfl
@[simp] theorem e_nSset (f : OF) (ρ : Ro) (L : Lg) : nSset f ρ L = (match f ρ L with
  | none => none
  | some (h, L1) => match cont ρ L1 h with
    | some (.lst ws) => (match cellsW ws with
      | some cs => if cs.length < 64 then some (.lst ((canon cs).map cW), L1) else none
      | none => none)
    | _ => none) := id rfl
@[simp] theorem e_cNoP  (z0 : Ro) (L : Lg) : cNoP  z0 L = (some (none, L)) := id rfl
@[simp] theorem e_cPart (f : EF) (ρ : Ro) (L : Lg) : cPart f ρ L = (match f ρ L with
  | some (.int i, L') => some (some i, L')
  | _ => none) := id rfl
@[simp] theorem e_cSl (fo : OF) (fl fh : Ro → Lg → Option (Option Int × Lg)) (ρ : Ro) (L : Lg) : cSl fo fl fh ρ L = (match fo ρ L with
  | none => none
  | some (h, L1) => match fl ρ L1 with
    | none => none
    | some (l, L2) => match fh ρ L2 with
      | none => none
      | some (u, L3) => match cont ρ L3 h with
        | none => none
        | some w => match slW w l u with
          | none => none
          | some r => some (r, L3)) := id rfl
@[simp] theorem e_cRev (fo : OF) (ρ : Ro) (L : Lg) : cRev fo ρ L = (match fo ρ L with
  | none => none
  | some (h, L1) => match cont ρ L1 h with
    | none => none
    | some w => match revW w with
      | none => none
      | some r => some (r, L1)) := id rfl
@[simp] theorem e_cDGet (fo : OF) (fk : EF) (ρ : Ro) (L : Lg) : cDGet fo fk ρ L = (match fo ρ L with
  | none => none
  | some (h, L1) => match fk ρ L1 with
    | none => none
    | some (k, L2) => match cont ρ L2 h with
      | none => none
      | some d => match getW d k with
        | some (some w) => some (w, L2)
        | _ => none) := id rfl
@[simp] theorem e_cDIn (neg : Bool) (fk : EF) (fo : OF) (ρ : Ro) (L : Lg) : cDIn neg fk fo ρ L = (match fk ρ L with
  | none => none
  | some (k, L1) => match fo ρ L1 with
    | none => none
    | some (h, L2) => match cont ρ L2 h with
      | none => none
      | some d => match getW d k with
        | some r => some (.bl (if neg then !r.isSome else r.isSome), L2)
        | none => none) := id rfl
@[simp] theorem e_cDGet2 (fo : OF) (fk fx : EF) (ρ : Ro) (L : Lg) : cDGet2 fo fk fx ρ L = (match fo ρ L with
  | none => none
  | some (h, L0) => match fk ρ L0 with
    | none => none
    | some (k, L1) => match fx ρ L1 with
      | none => none
      | some (x, L2) => match cont ρ L0 h, cont ρ L2 h with
        | some d0, some d => (match getW d0 k, getW d k with
          | some _, some r => some (r.getD x, L2)
          | _, _ => none)
        | _, _ => none) := id rfl
@[simp] theorem e_cPut (i : Nat) (fk fv : EF) (ρ : Ro) (L : Lg) : cPut i fk fv ρ L = (match fv ρ L with
  | none => none
  | some (w, L1) => match fk ρ L1 with
    | none => none
    | some (k, L2) => match ρ[i]? with
      | some (.ow (.lst _)) => none
      | some (.ow m) => (match putM m k w with
        | some m' => some (.nx (ρ.set i (.ow m')) L2)
        | none => none)
      | _ => none) := id rfl
@[simp] theorem e_sKeys (i : Nat) (ρ : Ro) (L : Lg) : sKeys i ρ L = (match ρ[i]? with
  | some (.va w) => (match keysD w with
    | some ks => some (ks, L)
    | none => none)
  | _ => none) := id rfl
@[simp] theorem e_cNm (i : Nat) (ρ : Ro) (L : Lg) : cNm i ρ L = (match ρ[i]? with
  | some (.ow _) => some (.own i, L)
  | some (.va w) => some (.val w, L)
  | _ => none) := id rfl
end Lf

set_option maxHeartbeats 4000000
/-! Lf, part Y: what the steps give on values. -/
namespace Lf
open PySem PySem.Spec PyProof.Rows L2
@[simp] theorem addW_i (i j : Int) : addW (.int i) (.int j) = some (.int (i + j)) := id rfl
@[simp] theorem addW_l (a b : List W) : addW (.lst a) (.lst b) = if a.length + b.length ≤ 16777216 then some (.lst (a ++ b)) else none := id rfl
@[simp] theorem addW_s (a b : Str) : addW (.str a) (.str b) = if a.length + b.length ≤ 16777216 then some (.str (a ++ b)) else none := id rfl
@[simp] theorem subW_i (i j : Int) : subW (.int i) (.int j) = some (.int (i - j)) := id rfl
@[simp] theorem mulW_i (i j : Int) : mulW (.int i) (.int j) = if (-18446744073709551616 < i ∧ i < 18446744073709551616) ∨ (-18446744073709551616 < j ∧ j < 18446744073709551616) then some (.int (i * j)) else none := id rfl
@[simp] theorem fdivW_i (i j : Int) : fdivW (.int i) (.int j) = if 0 < j ∧ j < 18446744073709551616 then some (.int (i / j)) else none := id rfl
@[simp] theorem modW_i (i j : Int) : modW (.int i) (.int j) = if 0 < j then some (.int (i % j)) else none := id rfl
@[simp] theorem negW_i (i : Int) : negW (.int i) = some (.int (-i)) := id rfl
@[simp] theorem cmpI_i (p : Int → Int → Bool) (i j : Int) : cmpI p (.int i) (.int j) = some (.bl (p i j)) := id rfl
@[simp] theorem eqW_i (i j : Int) : eqW (.int i) (.int j) = some (.bl (decide (i = j))) := id rfl
@[simp] theorem neW_i (i j : Int) : neW (.int i) (.int j) = some (.bl (!decide (i = j))) := id rfl
@[simp] theorem truW_b (b : Bool) : truW (.bl b) = some b := id rfl
@[simp] theorem truW_l (xs : List W) : truW (.lst xs) = some (!xs.isEmpty) := id rfl
@[simp] theorem truW_i (i : Int) : truW (.int i) = some (i != 0) := id rfl
@[simp] theorem absW_i (i : Int) : absW [.int i] = some (.int (if i < 0 then -i else i)) := id rfl
@[simp] theorem intW_i (i : Int) : intW [.int i] = some (.int i) := id rfl
@[simp] theorem intW_b (b : Bool) : intW [.bl b] = some (.int (if b then 1 else 0)) := id rfl
@[simp] theorem lenW_l (xs : List W) : lenW (.lst xs) = some (.int xs.length) := id rfl
@[simp] theorem lenW_t (xs : List W) : lenW (.tup xs) = some (.int xs.length) := id rfl
@[simp] theorem lenW_s (xs : List Int) : lenW (.scr xs) = some (.int xs.length) := id rfl
@[simp] theorem addI_i (i j : Int) : addI (.int i) (.int j) = some (.int (i + j)) := id rfl
@[simp] theorem fz_l (xs : List W) : M.fz (.lst xs) = .lst xs := id rfl
@[simp] theorem fz_K (xs : List (Key × W)) : M.fz (.dK xs) = .dK xs := id rfl
@[simp] theorem fz_T (xs : List (List Key × W)) : M.fz (.dT xs) = .dT xs := id rfl
@[simp] theorem cont_own (ρ : Ro) (L : Lg) (i : Nat) : cont ρ L (.own i) = (match ρ[i]? with
  | some (.ow m) => some m.fz
  | _ => none) := id rfl
@[simp] theorem cont_l (ρ : Ro) (L : Lg) (xs : List W) : cont ρ L (.val (.lst xs)) = some (.lst xs) := id rfl
@[simp] theorem cont_t (ρ : Ro) (L : Lg) (xs : List W) : cont ρ L (.val (.tup xs)) = some (.tup xs) := id rfl
@[simp] theorem cont_s (ρ : Ro) (L : Lg) (xs : List Int) : cont ρ L (.val (.scr xs)) = some (.scr xs) := id rfl
@[simp] theorem cont_b (ρ : Ro) (L : Lg) (b : Bool) : cont ρ L (.val (.bl b)) = some (.bl b) := id rfl
@[simp] theorem cont_i (ρ : Ro) (L : Lg) (b : Int) : cont ρ L (.val (.int b)) = some (.int b) := id rfl
@[simp] theorem cont_str (ρ : Ro) (L : Lg) (b : Str) : cont ρ L (.val (.str b)) = some (.str b) := id rfl
@[simp] theorem cont_K (ρ : Ro) (L : Lg) (b : List (Key × W)) : cont ρ L (.val (.dK b)) = some (.dK b) := id rfl
@[simp] theorem cont_T (ρ : Ro) (L : Lg) (b : List (List Key × W)) : cont ρ L (.val (.dT b)) = some (.dT b) := id rfl
@[simp] theorem slW_l (ws : List W) (l u : Option Int) : slW (.lst ws) l u = some (.lst (cutW ws l u)) := id rfl
@[simp] theorem revW_l (ws : List W) : revW (.lst ws) = some (.lst ws.reverse) := id rfl
@[simp] theorem isiW_list (xs : List W) : isiW "list" [.lst xs, .ty "list"] = some (.bl true) := by
  simp only [isiW, tyName, if_pos]; rfl
@[simp] theorem isiW_tuple (xs : List W) : isiW "tuple" [.tup xs, .ty "tuple"] = some (.bl true) := by
  simp only [isiW, tyName, if_pos]; rfl
@[simp] theorem isiW_int (i : Int) : isiW "int" [.int i, .ty "int"] = some (.bl true) := by
  simp only [isiW, tyName, if_pos]; rfl
@[simp] theorem isiW_bool (i : Int) : isiW "bool" [.int i, .ty "bool"] = some (.bl false) := by
  simp only [isiW, tyName, if_pos]; rfl
@[simp] theorem ixW_l (xs : List W) (i : Int) : ixW (.lst xs) (.int i) = atI xs i := id rfl
@[simp] theorem ixW_t (xs : List W) (i : Int) : ixW (.tup xs) (.int i) = atI xs i := id rfl
@[simp] theorem ixW_s (xs : List Int) (i : Int) : ixW (.scr xs) (.int i) = (match atI xs i with
  | some n => some (.int n)
  | none => none) := id rfl
@[simp] theorem atI_0 {α : Type} (x : α) (xs : List α) : atI (x :: xs) 0 = some x := atI_nat (j := 0) rfl
theorem atI_one {α : Type} (x y : α) (xs : List α) : atI (x :: y :: xs) 1 = some y := atI_nat (j := 1) rfl
@[simp] theorem cW_eq (c : Cell) : cW c = .tup [.int c.1, .int c.2] := id rfl
def rng1 (j : Int) (L : Lg) : Option (List W × Lg) := if -(2 ^ 62) ≤ j ∧ j < 2 ^ 62 then some (rangeW 0 j.toNat, L) else none
def rng2 (i j : Int) (L : Lg) : Option (List W × Lg) := if -(2 ^ 62) ≤ i ∧ i < 2 ^ 62 ∧ -(2 ^ 62) ≤ j ∧ j < 2 ^ 62 then some (rangeW i (j - i).toNat, L) else none
@[simp] theorem e_sRange1 (f : AF) (ρ : Ro) (L : Lg) : sRange1 f ρ L = (match f ρ L with
  | some ([.int j], L') => rng1 j L'
  | _ => none) := id rfl
@[simp] theorem e_sRange2 (f : AF) (ρ : Ro) (L : Lg) : sRange2 f ρ L = (match f ρ L with
  | some ([.int i, .int j], L') => rng2 i j L'
  | _ => none) := id rfl
@[simp] theorem rng1_ok (j : Int) (L : Lg) (h1 : -1000000 ≤ j) (h2 : j ≤ 1000000) : rng1 j L = some (rangeW 0 j.toNat, L) := if_pos ⟨by omega, by omega⟩
@[simp] theorem rng2_ok (i j : Int) (L : Lg) (h1 : -1000000 ≤ i) (h2 : i ≤ 1000000) (h3 : -1000000 ≤ j) (h4 : j ≤ 1000000) : rng2 i j L = some (rangeW i (j - i).toNat, L) := if_pos ⟨by omega, by omega, by omega, by omega⟩
theorem rangeW_ints (lo : Int) (n : Nat) : rangeW lo n = ((List.range n).map fun (i : Nat) => lo + (i : Int)).map W.int := by
  unfold rangeW; rw [List.map_map]; rfl
@[simp] theorem e_runDef (N : Nat) (body : SF) (ws : List W) (L : Lg) : runDef N body ws L = (match body (ws.map Sl.va ++ List.replicate (N - ws.length) .un) L with
  | some (.nx _ L') => some (.non, L')
  | some (.rt w L') => some (w, L')
  | _ => none) := id rfl
/-! lists of cells -/
abbrev cellsL (cs : List Cell) : W := .lst (cs.map cW)
theorem toD_c (c : Cell) : toD (cW c) = some (.tuple [.int c.1, .int c.2]) := by simp [cW, toD, toDs]
theorem toDs_cells : ∀ cs : List Cell, toDs (cs.map cW) = some (cs.map fun c => .tuple [.int c.1, .int c.2])
  | [] => rfl
  | c :: cs => by
    rw [List.map_cons]
    simp only [toDs, toD_c, toDs_cells cs]
    rfl
theorem eqvAll_cells : ∀ cs ds : List Cell, PyData.eqvAll (cs.map fun c => PyData.tuple [.int c.1, .int c.2]) (ds.map fun c => PyData.tuple [.int c.1, .int c.2]) = decide (cs = ds)
  | [], [] => by simp [PyData.eqvAll]
  | [], _ :: _ => by simp [PyData.eqvAll]
  | _ :: _, [] => by simp [PyData.eqvAll]
  | c :: cs, d :: ds => by
    simp only [List.map_cons, PyData.eqvAll, PyData.eqv, eqvAll_cells cs ds]
    rw [Bool.eq_iff_iff]
    simp [Prod.ext_iff, and_assoc]
theorem canLay_cells : ∀ cs : List Cell, PyData.canLayAll0 (cs.map fun c => PyData.tuple [.int c.1, .int c.2]) = true
  | [] => rfl
  | c :: cs => by simp [PyData.canLayAll0, PyData.canLay0, canLay_cells cs]
theorem depth_cells : ∀ cs : List Cell, PyData.depthAll (cs.map fun c => PyData.tuple [.int c.1, .int c.2]) ≤ 1
  | [] => by simp [PyData.depthAll]
  | c :: cs => by
    have := depth_cells cs
    simp [PyData.depthAll, PyData.depth]
    omega
theorem shaped_cells (cs : List Cell) : SeqAt.shaped (.list (cs.map fun c => .tuple [.int c.1, .int c.2])) = true := by
  unfold SeqAt.shaped
  rw [Bool.and_eq_true, decide_eq_true_eq]
  refine ⟨by simp [PyData.canLay0, canLay_cells], ?_⟩
  have := depth_cells cs
  simp only [PyData.depth]
  omega
theorem eqB_cells (cs ds : List Cell) : eqB (cellsL cs) (cellsL ds) = some (decide (cs = ds)) := by
  show eqD (cellsL cs) (cellsL ds) = _
  unfold eqD cellsL
  simp only [toD, toDs_cells, shaped_cells, and_self, if_true, PyData.eqv, eqvAll_cells]
theorem eqW_cells (cs ds : List Cell) : eqW (cellsL cs) (cellsL ds) = some (.bl (decide (cs = ds))) := by unfold eqW; rw [eqB_cells]
theorem neW_cells (cs ds : List Cell) : neW (cellsL cs) (cellsL ds) = some (.bl (!decide (cs = ds))) := by unfold neW; rw [eqB_cells]
theorem all_tup (cs : List Cell) : (List.all (cs.map fun c => PyData.tuple [.int c.1, .int c.2]) tupOne) = true := by
  rw [List.all_eq_true]; intro d hd; obtain ⟨c, _, rfl⟩ := List.mem_map.mp hd; rfl
theorem sortOk_cells (cs : List Cell) : sortOk (cs.map fun c => .tuple [.int c.1, .int c.2]) = true := by
  unfold sortOk
  rw [all_tup]
  simp only [Bool.true_or, Bool.and_true, Bool.and_eq_true, List.all_eq_true, decide_eq_true_eq]
  refine ⟨fun d hd d' hd' => ?_, fun d hd => ?_⟩
  · obtain ⟨c, _, rfl⟩ := List.mem_map.mp hd
    obtain ⟨c', _, rfl⟩ := List.mem_map.mp hd'
    rfl
  · obtain ⟨c, _, rfl⟩ := List.mem_map.mp hd
    simp [PyData.depth, PyData.depthAll]
theorem encW_c (c : Cell) : encW (cW c) = .tuple [.int c.1, .int c.2] := by unfold encW; rw [toD_c]; rfl
theorem sortL_cells (cs : List Cell) : sortL (cs.map cW) = some ((sortC cs).map cW) := by
  unfold sortL
  rw [toDs_cells]
  simp only [sortOk_cells, if_true, Option.some.injEq]
  unfold sortC
  rw [List.map_mergeSort]
  intro a _ b _
  have k := congrFun (congrFun (PySem.W.dataLe_ii (fun z : Cell => z.1) (fun z : Cell => z.2)) a) b
  have h : PySem.W.dataLe false encW (cW a) (cW b) = PySem.W.dataLe false (fun z : Cell => PyData.tuple [.int z.1, .int z.2]) a b := by
    show PySem.W.dataLe false encW (cW a) (cW b) = _
    unfold PySem.W.dataLe PySem.W.sortLe
    simp only [encW_c]
  rw [h, k]
  rfl
/-! loops -/
theorem for_nx {g : GF} {body : SF} {x : W} {xs : List W} {ρ ρ1 ρ2 : Ro} {L L2 : Lg} (h1 : g x ρ = some ρ1) (h2 : body ρ1 L = some (.nx ρ2 L2)) : forLoop g body (x :: xs) ρ L = forLoop g body xs ρ2 L2 := by
  simp only [forLoop, h1, h2]
theorem for_rt {g : GF} {body : SF} {x w : W} {xs : List W} {ρ ρ1 : Ro} {L L2 : Lg} (h1 : g x ρ = some ρ1) (h2 : body ρ1 L = some (.rt w L2)) : forLoop g body (x :: xs) ρ L = some (.rt w L2) := by
  simp only [forLoop, h1, h2]
theorem for_nil {g : GF} {body : SF} {ρ : Ro} {L : Lg} : forLoop g body [] ρ L = some (.nx ρ L) := rfl
theorem lc_map {α : Type} (f : α → W) (h : α → W) {g : GF} {te : EF} {ρ : Ro} {L : Lg} : ∀ {xs : List α}, (∀ x ∈ xs, ∃ ρ1, g (f x) ρ = some ρ1 ∧ te ρ1 L = some (h x, L)) → lcLoop g cYes te ρ (xs.map f) L = some (xs.map h, L)
  | [], _ => rfl
  | x :: xs, H => by
    obtain ⟨ρ1, h1, h2⟩ := H x List.mem_cons_self
    rw [List.map_cons]
    simp only [lcLoop, h1, cYes, h2, lc_map f h (xs := xs) fun y hy => H y (List.mem_cons_of_mem _ hy), List.map_cons]
end Lf

set_option maxHeartbeats 4000000
/-! Lf, part Z: lists of cells, sets of cells as dicts. -/
namespace Lf
open PySem PySem.Spec PyProof.Rows L2
theorem seq_nx {f g : SF} {ρ ρ1 : Ro} {L L1 : Lg} (h : f ρ L = some (.nx ρ1 L1)) : cSeq f g ρ L = g ρ1 L1 := by rw [e_cSeq, h]
theorem seq_rt {f g : SF} {ρ : Ro} {L L1 : Lg} {w : W} (h : f ρ L = some (.rt w L1)) : cSeq f g ρ L = some (.rt w L1) := by rw [e_cSeq, h]
/-! ### ascending, each once -/
def Can (l : List Cell) : Prop := l.Nodup ∧ l.Pairwise fun a b => leC a b = true
theorem can_canon (l : List Cell) : Can (canon l) := ⟨nodup_canon l, sortC_pw _⟩
theorem can_eq {l m : List Cell} (hm : Can m) (h : ∀ x, x ∈ m ↔ x ∈ l) : canon l = m := by
  rw [canon_of hm.1 h]
  exact sorted_uniq (sortC_perm m) (sortC_pw m) hm.2
theorem can_self {m : List Cell} (hm : Can m) : canon m = m := can_eq hm fun _ => Iff.rfl
theorem sortC_self {m : List Cell} (hm : m.Pairwise fun a b => leC a b = true) : sortC m = m := sorted_uniq (sortC_perm m) (sortC_pw m) hm
theorem can_ext {l m : List Cell} (hl : Can l) (hm : Can m) (h : ∀ x, x ∈ l ↔ x ∈ m) : l = m := by rw [← can_self hl]; exact can_eq hm fun x => (h x).symm
theorem canon_congr {l m : List Cell} (h : ∀ x, x ∈ l ↔ x ∈ m) : canon l = canon m := can_eq (can_canon m) fun x => mem_canon.trans (h x).symm
/-- moved -/
def tr (a b : Int) (c : Cell) : Cell := (c.1 + a, c.2 + b)
theorem tr_inj {a b : Int} {x y : Cell} (h : tr a b x = tr a b y) : x = y := by
  simp only [tr, Prod.mk.injEq] at h
  apply Prod.ext <;> omega
theorem can_tr {l : List Cell} (a b : Int) (h : Can l) : Can (l.map (tr a b)) := by
  refine ⟨List.pairwise_map.mpr (h.1.imp fun hne e => hne (tr_inj e)), List.pairwise_map.mpr (h.2.imp fun {x y} hle => ?_)⟩
  have h1 : x.1 < y.1 ∨ (x.1 = y.1 ∧ x.2 ≤ y.2) := by simpa only [leC, decide_eq_true_eq] using hle
  show decide (x.1 + a < y.1 + a ∨ (x.1 + a = y.1 + a ∧ x.2 + b ≤ y.2 + b)) = true
  rw [decide_eq_true_eq]
  omega
theorem sortC_can {l : List Cell} (h : l.Nodup) : Can (sortC l) := ⟨(sortC_perm l).nodup_iff.mpr h, sortC_pw l⟩
theorem mem_sortC {x : Cell} {l : List Cell} : x ∈ sortC l ↔ x ∈ l := (sortC_perm l).mem_iff
theorem length_nubC : ∀ l : List Cell, (nubC l).length ≤ l.length
  | [] => Nat.le_refl _
  | c :: cs => by
    unfold nubC
    have := length_nubC cs
    split
    · simp; omega
    · simp; omega
theorem length_canon (l : List Cell) : (canon l).length ≤ l.length := by
  unfold canon
  rw [(sortC_perm _).length_eq]
  exact length_nubC l
/-! ### a dict whose keys are cells -/
def tkC (c : Cell) : List Key := [.inl c.1, .inl c.2]
theorem tkC_inj {a b : Cell} (h : tkC a = tkC b) : a = b := by
  simp [tkC] at h
  exact Prod.ext h.1 h.2
@[simp] theorem asTKey_c (a b : Int) : asTKey (.tup [.int a, .int b]) = some (tkC (a, b)) := id rfl
def setD (cs : List Cell) : List (List Key × W) := cs.map fun c => (tkC c, W.bl true)
theorem put_set (cs : List Cell) (c : Cell) : putD (setD cs) (tkC c) (.bl true) = if c ∈ cs then setD cs else setD (cs ++ [c]) := by
  unfold putD
  have e : ((setD cs).any fun kv => decide (kv.1 = tkC c)) = decide (c ∈ cs) := by
    rw [Bool.eq_iff_iff, List.any_eq_true, decide_eq_true_eq]
    constructor
    · rintro ⟨kv, h1, h2⟩
      obtain ⟨d, hd, rfl⟩ := List.mem_map.mp h1
      rw [← tkC_inj (of_decide_eq_true h2)]; exact hd
    · intro h
      exact ⟨(tkC c, .bl true), List.mem_map.mpr ⟨c, h, rfl⟩, by simp⟩
  rw [e]
  by_cases h : c ∈ cs
  · simp only [h, decide_true, if_true]
    unfold setD
    rw [List.map_map]
    apply List.map_congr_left
    intro d _
    show (if tkC d = tkC c then (tkC d, W.bl true) else (tkC d, W.bl true)) = (tkC d, W.bl true)
    split <;> rfl
  · simp only [h, decide_false, if_false, Bool.false_eq_true]
    unfold setD
    rw [List.map_append]; rfl
theorem keys_set (cs : List Cell) : keysD (.dT (setD cs)) = some (cs.map cW) := by
  show some ((setD cs).map fun kv => W.tup (kv.1.map keyW)) = _
  unfold setD
  rw [List.map_map]
  rfl
@[simp] theorem putM_T (kvs : List (List Key × W)) (k w : W) : putM (.dT kvs) k w = (match asTKey k with
    | some k => if kvs.length < 16777216 then some (.dT (putD kvs k w)) else none
    | none => none) := id rfl
@[simp] theorem setD_length (cs : List Cell) : (setD cs).length = cs.length := by unfold setD; simp
/-! ### pieces of lists of cells -/
theorem cut_cells (cs : List Cell) (l u : Option Int) : cutW (cs.map cW) l u = (cutW cs l u).map cW := by
  unfold cutW
  rw [List.length_map, ← List.map_drop, ← List.map_take]
theorem mem_cut {α : Type} {x : α} {cs : List α} {l u : Option Int} (h : x ∈ cutW cs l u) : x ∈ cs := by
  unfold cutW at h
  exact List.mem_of_mem_drop (List.mem_of_mem_take h)
theorem cut_length {α : Type} (cs : List α) (l u : Option Int) : (cutW cs l u).length ≤ cs.length := by
  unfold cutW
  rw [List.length_take, List.length_drop]
  omega
theorem cells_map {f : Cell → Cell} {g : GF} {te : EF} {ρ : Ro} {L : Lg} {cs : List Cell} (h : ∀ c ∈ cs, ∃ ρ1, g (cW c) ρ = some ρ1 ∧ te ρ1 L = some (cW (f c), L)) : lcLoop g cYes te ρ (cs.map cW) L = some ((cs.map f).map cW, L) := by
  rw [lc_map cW (fun c => cW (f c)) h, List.map_map]; rfl
theorem cells_ints {f : Cell → Int} {g : GF} {te : EF} {ρ : Ro} {L : Lg} {cs : List Cell} (h : ∀ c ∈ cs, ∃ ρ1, g (cW c) ρ = some ρ1 ∧ te ρ1 L = some (.int (f c), L)) : lcLoop g cYes te ρ (cs.map cW) L = some ((cs.map f).map W.int, L) := by
  rw [lc_map cW (fun c => W.int (f c)) h, List.map_map]; rfl
theorem minW1_ints {ns : List Int} {m : Int} (h : leastI ns = some m) : minW1 (.lst (ns.map W.int)) = some (.int m) := by
  unfold minW1; simp only [intsW_map, h]
theorem least_some {ns : List Int} (h : ns ≠ []) : ∃ m, leastI ns = some m := by
  cases ns with
  | nil => exact absurd rfl h
  | cons n r => exact ⟨_, rfl⟩
theorem least_eq {ns ms : List Int} (h : ∀ x, x ∈ ns ↔ x ∈ ms) : leastI ns = leastI ms := by
  cases e : leastI ns with
  | none =>
    cases ns with
    | nil =>
      cases ms with
      | nil => rfl
      | cons n r => exact absurd ((h n).mpr List.mem_cons_self) (by simp)
    | cons n r => cases e
  | some m =>
    obtain ⟨h1, h2⟩ := leastI_spec e
    obtain ⟨m', e'⟩ := least_some (ns := ms) (fun z => by rw [z] at h; exact absurd ((h m).mp h1) (by simp))
    obtain ⟨g1, g2⟩ := leastI_spec e'
    rw [e', Int.le_antisymm (h2 m' ((h m').mpr g1)) (g2 m ((h m).mp h1))]
end Lf

set_option maxHeartbeats 4000000
/-! Lf, part G: objects of the program's own classes. -/
namespace Lf
open PySem PySem.Spec PyProof.Rows L2
section
variable {K : PySem.W.Frag} {mg : Str → Option Value} {Z F : Hp} {φ : List Addr} {L : Lg} {H : Hp}
/-- fields by name -/
theorem lk_some {f : Str} {w : W} : ∀ {fs : List (Str × W)} {vs : List (Str × V)}, fs.map Prod.fst = vs.map Prod.fst → Rs K F φ (fs.map Prod.snd) (vs.map Prod.snd) → fs.lookup f = some w → ∃ v, vs.lookup f = some v ∧ R K F φ w v
  | [], _, _, _, h => by cases h
  | (g, w0) :: r, [], e, _, _ => by cases e
  | (g, w0) :: r, (g', v0) :: r', e, rs, h => by
    simp only [List.map_cons, List.cons.injEq] at e
    obtain ⟨e1, e2⟩ := e
    have e1 : g = g' := e1
    subst e1
    cases rs with
    | cons r1 r2 =>
      rw [List.lookup_cons] at h ⊢
      cases q : (f == g) with
      | true => rw [q] at h; cases h; exact ⟨_, rfl, r1⟩
      | false => rw [q] at h; exact lk_some e2 r2 h
theorem lk_none {f : Str} : ∀ {fs : List (Str × W)} {vs : List (Str × V)}, fs.map Prod.fst = vs.map Prod.fst → fs.lookup f = none → vs.lookup f = none
  | [], [], _, _ => rfl
  | [], _ :: _, e, _ => by cases e
  | (g, w0) :: r, [], e, _ => by cases e
  | (g, w0) :: r, (g', v0) :: r', e, h => by
    simp only [List.map_cons, List.cons.injEq] at e
    obtain ⟨e1, e2⟩ := e
    have e1 : g = g' := e1
    subst e1
    rw [List.lookup_cons] at h ⊢
    cases q : (f == g) with
    | true => rw [q] at h; cases h
    | false => rw [q] at h; exact lk_none e2 h
def putW (f : Str) (w : W) : List (Str × W) → List (Str × W)
  | [] => [(f, w)]
  | (g, x) :: r => if g = f then (g, w) :: r else (g, x) :: putW f w r
theorem putW_ok {f : Str} {w : W} {v : V} (h : R K F φ w v) : ∀ {fs : List (Str × W)} {vs : List (Str × V)}, fs.map Prod.fst = vs.map Prod.fst → Rs K F φ (fs.map Prod.snd) (vs.map Prod.snd) →
    (putW f w fs).map Prod.fst = (putF f v vs).map Prod.fst ∧ Rs K F φ ((putW f w fs).map Prod.snd) ((putF f v vs).map Prod.snd)
  | [], [], _, _ => ⟨rfl, .one h⟩
  | [], _ :: _, e, _ => by cases e
  | (g, w0) :: r, [], e, _ => by cases e
  | (g, w0) :: r, (g', v0) :: r', e, rs => by
    simp only [List.map_cons, List.cons.injEq] at e
    obtain ⟨e1, e2⟩ := e
    have e1 : g = g' := e1
    subst e1
    cases rs with
    | cons r1 r2 =>
      unfold putW putF
      by_cases q : g = f
      · rw [if_pos q, if_pos q]
        refine ⟨by simp only [List.map_cons, e2], .cons h r2⟩
      · rw [if_neg q, if_neg q]
        obtain ⟨a1, a2⟩ := putW_ok h e2 r2
        exact ⟨by simp only [List.map_cons, a1], .cons r1 a2⟩
/-- a numbered thing is changed -/
theorem Hs.setOb {i : Nat} {a : Addr} {o : HO} {ob : Ob} (h : Hs K mg Z F φ L H) (hi : i < L.length) (ha : φ[i]? = some a) (hF : F a = none) (nt : NT o) (hok : ObOk K mg F φ (upd H a o) a ob) : Hs K mg Z F φ (L.set i ob) (upd H a o) := by
  have am : a ∈ φ := List.mem_of_getElem? ha
  refine ⟨fun b u e => ?_, fun b u e => ?_, by rw [List.length_set]; exact h.len, h.nd, fun b m => ?_, fun j u b e1 e2 => ?_⟩
  · have q : b ≠ a := fun q => by rw [q, hF] at e; cases e
    rw [upd_ne q]; exact h.sub b u e
  · obtain ⟨g1, g2, g3, g4⟩ := h.ext b u e
    have q : b ≠ a := fun q => g3 (q ▸ am)
    exact ⟨by rw [upd_ne q]; exact g1, g2, g3, g4⟩
  · by_cases q : b = a
    · subst q; exact ⟨o, upd_same, nt⟩
    · obtain ⟨u, e, n⟩ := h.has b m
      exact ⟨u, by rw [upd_ne q]; exact e, n⟩
  · by_cases q : i = j
    · subst q
      rw [ha] at e2; cases e2
      rw [List.getElem?_set_self hi] at e1
      cases e1
      exact hok
    · rw [List.getElem?_set_ne q] at e1
      have qb : b ≠ a := fun z => by
        subst z
        exact q ((List.getElem?_inj (List.getElem?_eq_some_iff.mp ha).1 h.nd).mp (ha.trans e2.symm))
      exact (h.objs j u b e1 e2).mono (Sub.refl F) (List.prefix_refl φ) (fun z => z) fun u e => by rw [upd_ne qb]; exact e
/-- a thing that nobody here looks at -/
theorem Hs.extra {p : Addr} {o : HO} (h : Hs K mg Z F φ L H) (hp : H p = none) : Hs K mg Z F φ L (upd H p o) := by
  obtain ⟨f1, f2, f3⟩ := h.free hp
  refine ⟨fun a u e => ?_, fun a u e => ?_, h.len, h.nd, fun a m => ?_, fun i u a e1 e2 => ?_⟩
  · rw [upd_ne (ne_of_none e f1)]; exact h.sub a u e
  · obtain ⟨g1, g2, g3, g4⟩ := h.ext a u e
    exact ⟨by rw [upd_ne (ne_of_none e f2)]; exact g1, g2, g3, g4⟩
  · obtain ⟨u, e, n⟩ := h.has a m
    exact ⟨u, by rw [upd_ne (ne_of_none e hp)]; exact e, n⟩
  · exact (h.objs i u a e1 e2).mono (Sub.refl F) (List.prefix_refl φ) (fun z => z) fun u e => by rw [upd_ne (ne_of_none e hp)]; exact e
/-- a new numbered thing -/
theorem Hs.push {p : Addr} {o : HO} {ob : Ob} (h : Hs K mg Z F φ L H) (hp : H p = none) (nt : NT o) (hok : ObOk K mg F (φ ++ [p]) (upd H p o) p ob) : Hs K mg Z F (φ ++ [p]) (L ++ [ob]) (upd H p o) := by
  obtain ⟨f1, f2, f3⟩ := h.free hp
  have pf : φ <+: φ ++ [p] := List.prefix_append _ _
  refine ⟨fun a u e => ?_, fun a u e => ?_, by simp [h.len], ?_, fun a m => ?_, fun i u a e1 e2 => ?_⟩
  · rw [upd_ne (ne_of_none e f1)]; exact h.sub a u e
  · obtain ⟨g1, g2, g3, g4⟩ := h.ext a u e
    have q := ne_of_none e f2
    exact ⟨by rw [upd_ne q]; exact g1, g2, by simp [g3, q], g4⟩
  · rw [List.nodup_append]
    exact ⟨h.nd, by simp, fun a ha b hb e => f3 (by simp at hb; subst hb; subst e; exact ha)⟩
  · rcases List.mem_append.mp m with m | m
    · obtain ⟨u, e, n⟩ := h.has a m
      exact ⟨u, by rw [upd_ne (ne_of_none e hp)]; exact e, n⟩
    · simp at m; subst m; exact ⟨o, upd_same, nt⟩
  · by_cases hi : i < L.length
    · rw [List.getElem?_append_left hi] at e1
      rw [List.getElem?_append_left (by rw [h.len]; exact hi)] at e2
      exact (h.objs i u a e1 e2).mono (Sub.refl F) pf (fun z => z) fun u e => by rw [upd_ne (ne_of_none e hp)]; exact e
    · have : i = L.length := by
        have := (List.getElem?_eq_some_iff.mp e1).1
        simp at this; omega
      subst this
      rw [List.getElem?_append_right (Nat.le_refl _)] at e1
      rw [← h.len, List.getElem?_append_right (Nat.le_refl _)] at e2
      simp at e1 e2
      subst e1; subst e2
      exact hok
end
/-! ### facts of a class -/
structure ClsD (K : PySem.W.Frag) (mg : Str → Option Value) (c : Str) (C : Addr) : Prop where
  at_ : mg c = some (.ref C)
  cls : Cls K C
structure FldD (K : PySem.W.Frag) (mg : Str → Option Value) (c f : Str) : Prop where
  ex : ∃ C, ClsD K mg c C ∧ NoAttr K C f
structure MetD (P : Program) (w : World) (K : PySem.W.Frag) (mg : Str → Option Value) (base : Heap) (k : Nat) (c m : Str) (ps : List Str) (d : DF) : Prop where
  ex : ∃ (C f : Addr) (fd : FuncData), ClsD K mg c C ∧ Meth K C m f ∧ FnOk P w K mg base CX0 k f fd ps (spI K mg ps.length d) ∧ Binds K fd ps []
structure MakD (P : Program) (w : World) (K : PySem.W.Frag) (mg : Str → Option Value) (base : Heap) (k : Nat) (c : Str) (ps : List Str) (d : DF) : Prop where
  ex : ∃ (C f : Addr) (fd : FuncData), ClsD K mg c C ∧ Mk K C f ∧ FnOk P w K mg base CX0 k f fd ps (spI K mg ps.length d) ∧ Binds K fd ps []
section
variable {X : Cx} {e a b o : Expr} {es : List Expr} {pos : Pos}
/-- o.f -/
def cFld (c f : Str) (fo : EF) : EF := fun ρ L => match fo ρ L with
  | some (.ob i, L1) => (match L1[i]? with
    | some (.ins c' fs) => if c' = c then (match fs.lookup f with
      | some w => some (w, L1)
      | none => none) else none
    | _ => none)
  | _ => none
theorem ie_fld {c f : Str} {fo : EF} (D : FldD X.K X.mg c f) (ho : IE X o fo) (hb : attributeBase o f X.env (eval o X.env) = eval o X.env := by rfl) : IE X (.Attribute o f pos) (cFld c f fo) := by
  refine ⟨fun {Zx Z F φ L ρ σ H w L'} hs ss h Q q => PE.wp (pe_fld wpE hb) ?_⟩
  obtain ⟨C, cd, na⟩ := D.ex
  unfold cFld at h
  split at h
  · rename_i i L1 e1
    split at h
    · rename_i c' fs e2
      split at h
      · rename_i ec
        subst ec
        split at h
        · rename_i w' e3
          simp only [Option.some.injEq, Prod.mk.injEq] at h
          obtain ⟨rfl, rfl⟩ := h
          refine ho.run hs ss e1 _ fun F1 φ1 H1 v s1 p1 hs1 r1 => ?_
          cases r1 with
          | ob hj =>
            obtain ⟨_, C', dx, vs, g1, g2, g3, g4⟩ := hs1.objs _ _ _ e2 hj
            rw [cd.at_] at g1
            cases g1
            obtain ⟨v, l1, l2⟩ := lk_some g3 g4 e3
            exact ⟨_, _, dx, vs, v, rfl, g2, cd.cls, na, l1, q F1 φ1 H1 v s1 p1 hs1 l2⟩
        · cases h
      · cases h
    · cases h
  · cases h
/-- o.f = e -/
def cSFld (c f : Str) (fo fe : EF) : SF := fun ρ L => match fe ρ L with
  | none => none
  | some (w, L1) => match fo ρ L1 with
    | some (.ob i, L2) => (match L2[i]? with
      | some (.ins c' fs) => if c' = c ∧ fs.length < 1000 then some (.nx ρ (L2.set i (.ins c (putW f w fs)))) else none
      | _ => none)
    | _ => none
theorem is_sfld {c f : Str} {fo fe : EF} {pos' : Pos} (D : FldD X.K X.mg c f) (ho : IE X o fo) (he : IE X e fe) (hs0 : swapsWith e (some (.Attribute o f pos')) pos.line X.env = pure false := by rfl) : IS X (.Assign [.Attribute o f pos'] e pos) (cSFld c f fo fe) := by
  refine ⟨fun {Zx Z F φ L ρ σ H o} hs ss h D' q => PS.wp (ps_fld wpE wpE hs0) ?_⟩
  obtain ⟨C, cd, na⟩ := D.ex
  unfold cSFld at h
  split at h
  · cases h
  rename_i w L1 e1
  split at h
  · rename_i i L2 e2
    split at h
    · rename_i c' fs e3
      split at h
      · rename_i ec
        obtain ⟨rfl, hl⟩ := ec
        simp only [Option.some.injEq] at h
        subst h
        refine he.run hs ss e1 _ fun F1 φ1 H1 v s1 p1 hs1 r1 => ?_
        refine ho.run hs1 (ss.mono s1 p1) e2 _ fun F2 φ2 H2 v2 s2 p2 hs2 r2 => ?_
        cases r2 with
        | ob hj =>
          obtain ⟨nF, C', dx, vs, g1, g2, g3, g4⟩ := hs2.objs _ _ _ e3 hj
          rw [cd.at_] at g1
          cases g1
          have lv : vs.length < 1000 := by
            have := congrArg List.length g3
            simp only [List.length_map] at this
            omega
          obtain ⟨q1, q2⟩ := putW_ok (r1.mono s2 p2) g3 g4 (f := f)
          refine ⟨_, C, dx, vs, rfl, g2, cd.cls, na, lv, ?_⟩
          refine q Z F2 φ2 σ _ (s1.trans s2) (List.IsPrefix.trans p1 p2) (hs2.setOb (List.getElem?_eq_some_iff.mp e3).1 hj nF NT.ins ?_) (ss.mono (s1.trans s2) (List.IsPrefix.trans p1 p2))
          exact ⟨nF, C, dx, _, cd.at_, upd_same, q1, q2⟩
      · cases h
    · cases h
  · cases h
/-- o.m(..) -/
def cMeth (c m : Str) (d : DF) (fo : EF) (g : AF) : EF := fun ρ L => match fo ρ L with
  | some (.ob i, L1) => (match L1[i]? with
    | some (.ins c' fs) => if c' = c then (match fs.lookup m with
      | some _ => none
      | none => (match g ρ L1 with
        | none => none
        | some (ws, L2) => d (.ob i :: ws) L2)) else none
    | _ => none)
  | _ => none
theorem ie_meth {c m : Str} {k j : Nat} {ps : List Str} {d : DF} {fo : EF} {g : AF} {apos : Pos} {pl : Sem Bool} (D : MetD X.prog X.w X.K X.mg X.base k c m ps d) (hr : Room j X.A) (hkj : k ≤ j) (ho : IE X o fo) (ha : IA X (e :: es) g) (hn : ∀ ρ L ws L', g ρ L = some (ws, L') → ws.length + 1 = ps.length)
    (hst : starEach (e :: es) X.env = (false, eval e X.env) :: starEach es X.env := by rfl) (hpl : (backTo pos (starEach es X.env)).any (·.1) = false := by rfl)
    (ht : eval (.Call (.Attribute o m apos) (e :: es) [] pos) X.env = (do
      let ov ← eval o X.env
      standAt apos.atName
      let (f, first) ← holding [ov] (getMethod ov m pl)
      callWith pos f first (backTo pos (starEach (e :: es) X.env)) (backToKw pos (keywordEach [] X.env))) := by rfl) : IE X (.Call (.Attribute o m apos) (e :: es) [] pos) (cMeth c m d fo g) := by
  obtain ⟨C, f, fd, cd, me, F0, hb⟩ := D.ex
  refine ⟨fun {Zx Z F φ L ρ σ H w L'} hs ss h Q q => PE.wp (pe_meth (E := E0) (dvs := []) wpE cd.cls me F0 (hr.mono hkj) hb .nil pass0 wpA hst hpl ht) ?_⟩
  unfold cMeth at h
  split at h
  · rename_i i L1 e1
    split at h
    · rename_i c' fs e2
      split at h
      · rename_i ec
        subst ec
        split at h
        · cases h
        rename_i e3
        split at h
        · cases h
        rename_i ws L2 e4
        refine ho.run hs ss e1 _ fun F1 φ1 H1 v s1 p1 hs1 r1 => ?_
        cases r1 with
        | ob hj =>
          obtain ⟨nF, C', dx, vs, g1, g2, g3, g4⟩ := hs1.objs _ _ _ e2 hj
          rw [cd.at_] at g1
          cases g1
          refine ⟨_, dx, vs, rfl, g2, lk_none g3 e3, ?_⟩
          refine ha.run hs1 (ss.mono s1 p1) e4 _ fun F2 φ2 H2 us s2 p2 hs2 r2 => ?_
          refine ⟨Z, F2, φ2, L2, .ob i :: ws, w, L', hs2, by rw [List.append_nil]; exact .cons (.ob (pre_get p2 hj)) r2, by rw [List.length_cons]; exact hn _ _ _ _ e4, h, fun Z' F' φ' H' v s3 p3 z hs3 r3 => ?_⟩
          exact q F' φ' H' v (s1.trans (s2.trans s3)) (List.IsPrefix.trans p1 (List.IsPrefix.trans p2 p3)) (hs3.weak z) r3
      · cases h
    · cases h
  · cases h
/-- C(..) -/
def cMake (c : Str) (d : DF) (g : AF) : EF := fun ρ L => match g ρ L with
  | none => none
  | some (ws, L1) => match d (.ob L1.length :: ws) (L1 ++ [.ins c []]) with
    | some (.non, L2) => some (.ob L1.length, L2)
    | _ => none
theorem ie_make {c : Str} {k j : Nat} {ps : List Str} {d : DF} {g : AF} {p : Pos} (D : MakD X.prog X.w X.K X.mg X.base k c ps d) (hr : Room j X.A) (hkj : k + 1 ≤ j) (hg : Gl X c) (ha : IA X (e :: es) g) (hn : ∀ ρ L ws L', g ρ L = some (ws, L') → ws.length + 1 = ps.length)
    (hdb : (c == ("__debug__" : Str)) = false := by decide) (he : starEach (e :: es) X.env = (false, eval e X.env) :: starEach es X.env := by rfl) (hpl : (backTo pos (starEach es X.env)).any (·.1) = false := by rfl) :
    IE X (.Call (.Name c p) (e :: es) [] pos) (cMake c d g) := by
  obtain ⟨C, f, fd, cd, mk, F0, hb⟩ := D.ex
  refine ⟨fun {Zx Z F φ L ρ σ H w L'} hs ss h Q q => PE.wp (pe_make (E := E0) (dvs := []) mk F0 (hr.mono hkj) hg cd.at_ hb .nil pass0 wpA hdb he hpl) ?_⟩
  unfold cMake at h
  split at h
  · cases h
  rename_i ws L1 e1
  split at h
  · rename_i L2 e2
    simp only [Option.some.injEq, Prod.mk.injEq] at h
    obtain ⟨rfl, rfl⟩ := h
    refine ha.run hs ss e1 _ fun F1 φ1 H1 us s1 p1 hs1 r1 x dx hx hdx hne => ?_
    have hsD : Hs X.K X.mg Z F1 φ1 L1 (upd H1 dx (.own x)) := hs1.extra hdx
    have hx2 : upd H1 dx (.own x) x = none := by rw [upd_ne (fun z => hne z.symm)]; exact hx
    have f0 := (hsD.free hx2).1
    have hsN : Hs X.K X.mg Z F1 (φ1 ++ [x]) (L1 ++ [.ins c []]) (upd (upd H1 dx (.own x)) x (.ins C dx [])) := hsD.push hx2 NT.ins ⟨f0, C, dx, [], cd.at_, upd_same, rfl, .nil⟩
    have pf : φ1 <+: φ1 ++ [x] := List.prefix_append _ _
    have hat : (φ1 ++ [x])[L1.length]? = some x := by rw [← hs1.len, List.getElem?_append_right (Nat.le_refl _)]; simp
    refine ⟨Z, F1, φ1 ++ [x], L1 ++ [.ins c []], .ob L1.length :: ws, .non, L2, hsN, by rw [List.append_nil]; exact .cons (.ob hat) (Rs.mono (Sub.refl F1) pf r1), by rw [List.length_cons]; exact hn _ _ _ _ e1, e2, fun Z' F' φ' H' v s3 p3 z hs3 r3 => ?_⟩
    cases r3
    exact ⟨rfl, q F' φ' H' (.ref x) (s1.trans s3) (List.IsPrefix.trans p1 (List.IsPrefix.trans pf p3)) (hs3.weak z) (.ob (pre_get p3 hat))⟩
  · cases h
end
@[simp] theorem e_cFld (c f : Str) (fo : EF) (ρ : Ro) (L : Lg) : cFld c f fo ρ L = (match fo ρ L with
  | some (.ob i, L1) => (match L1[i]? with
    | some (.ins c' fs) => if c' = c then (match fs.lookup f with
      | some w => some (w, L1)
      | none => none) else none
    | _ => none)
  | _ => none) := id rfl
@[simp] theorem e_cSFld (c f : Str) (fo fe : EF) (ρ : Ro) (L : Lg) : cSFld c f fo fe ρ L = (match fe ρ L with
  | none => none
  | some (w, L1) => match fo ρ L1 with
    | some (.ob i, L2) => (match L2[i]? with
      | some (.ins c' fs) => if c' = c ∧ fs.length < 1000 then some (.nx ρ (L2.set i (.ins c (putW f w fs)))) else none
      | _ => none)
    | _ => none) := id rfl
@[simp] theorem e_cMeth (c m : Str) (d : DF) (fo : EF) (g : AF) (ρ : Ro) (L : Lg) : cMeth c m d fo g ρ L = (match fo ρ L with
  | some (.ob i, L1) => (match L1[i]? with
    | some (.ins c' fs) => if c' = c then (match fs.lookup m with
      | some _ => none
      | none => (match g ρ L1 with
        | none => none
        | some (ws, L2) => d (.ob i :: ws) L2)) else none
    | _ => none)
  | _ => none) := id rfl
@[simp] theorem e_cMake (c : Str) (d : DF) (g : AF) (ρ : Ro) (L : Lg) : cMake c d g ρ L = (match g ρ L with
  | none => none
  | some (ws, L1) => match d (.ob L1.length :: ws) (L1 ++ [.ins c []]) with
    | some (.non, L2) => some (.ob L1.length, L2)
    | _ => none) := id rfl
end Lf

set_option maxHeartbeats 4000000
/-! Lf, part H: members of lists, texts joined, tuples of lists, sorted sets of ints, boxes. -/
namespace Lf
open PySem PySem.Spec PyProof.Rows L2
/-! ### x in xs -/
def memW (x : W) (ws : List W) : Option Bool := match x, intsW ws with
  | .int i, some ns => some (decide (i ∈ ns))
  | x, _ => match toD x, toDs ws with
    | some d, some ds => if SeqAt.shaped d = true ∧ SeqAt.shaped (.list ds) = true then some (ds.any fun z => PyData.eqv z d) else none
    | _, _ => none
/-- x in w -/
def inW (neg : Bool) (x w : W) : Option W := match w with
  | .lst ws => (match memW x ws with
    | some k => some (.bl (if neg then !k else k))
    | none => none)
  | .tup ws => (match x, intsW ws with
    | .int i, some ns => some (.bl (if neg then !decide (i ∈ ns) else decide (i ∈ ns)))
    | _, _ => none)
  | _ => none
theorem inV_ints (i : Int) (ns : List Int) : inV (.int i) (ns.map V.int) = decide (i ∈ ns) := by
  unfold inV
  rw [Bool.eq_iff_iff, List.any_eq_true, decide_eq_true_eq]
  constructor
  · rintro ⟨v, h1, h2⟩
    obtain ⟨n, hn, rfl⟩ := List.mem_map.mp h1
    have : (n == i) = true := h2
    rw [beq_iff_eq] at this
    rw [← this]; exact hn
  · intro h
    exact ⟨.int i, List.mem_map.mpr ⟨i, h, rfl⟩, by show (i == i) = true; simp⟩
theorem flat_ints (ns : List Int) : (ns.map V.int).all flatV = true := by
  rw [List.all_eq_true]; intro v hv; obtain ⟨n, _, rfl⟩ := List.mem_map.mp hv; rfl
section
variable {X : Cx} {e a b o : Expr} {es : List Expr} {pos : Pos}
/-- value, then container -/
def cOpC (g : W → W → Option W) (fa : EF) (fo : OF) : EF := fun ρ L => match fa ρ L with
  | none => none
  | some (x, L1) => match fo ρ L1 with
    | none => none
    | some (h, L2) => match cont ρ L2 h with
      | none => none
      | some y => match g x y with
        | none => none
        | some w => some (w, L2)
def Op2C (X : Cx) (r : R2) (g : W → W → Option W) : Prop := ∀ {Z F : Hp} {φ : List Addr} {L : Lg} {H : Hp} {x y w : W} {vx vy : V}, Hs X.K X.mg Z F φ L H → R X.K F φ x vx → Cont X.K F φ H y vy → g x y = some w →
  ∀ Q : VK, (∀ (F' : Hp) (H' : Hp) (v : V), Sub F F' → Hs X.K X.mg Z F' φ L H' → R X.K F' φ w v → Q v H') → r vx vy H Q
theorem twoC {r : R2} {g : W → W → Option W} {fa : EF} {fb : OF} (sg : Op2C X r g) (ha : IE X a fa) (hb : IO X b fb)
    {Zx Z F : Hp} {φ : List Addr} {L : Lg} {ρ : Ro} {σ : L2.St} {H : Hp} {w : W} {L' : Lg} (hs : Hs X.K X.mg Z F φ L H) (ss : Ss X.K Zx Z F φ ρ σ) (h : cOpC g fa fb ρ L = some (w, L'))
    (Q : VK) (q : ∀ (F' : Hp) (φ' : List Addr) (H' : Hp) (v : V), Sub F F' → φ <+: φ' → Hs X.K X.mg Z F' φ' L' H' → R X.K F' φ' w v → Q v H') : tOp r (Wp X a) (Wp X b) σ H Q := by
  unfold cOpC at h
  split at h
  · cases h
  rename_i x L1 e1
  split at h
  · cases h
  rename_i hd L2 e2
  split at h
  · cases h
  rename_i y e3
  split at h
  · cases h
  rename_i w' e4
  simp only [Option.some.injEq, Prod.mk.injEq] at h
  obtain ⟨rfl, rfl⟩ := h
  refine ha.run hs ss e1 _ fun F1 φ1 H1 vx s1 p1 hs1 r1 => ?_
  refine hb.run hs1 (ss.mono s1 p1) e2 _ fun F2 φ2 H2 vy s2 p2 hs2 r2 => ?_
  refine sg hs2 (r1.mono s2 p2) (cont_ok hs2 ((ss.mono s1 p1).mono s2 p2) r2 e3) e4 Q fun F3 H3 v s3 hs3 rv => ?_
  exact q F3 φ2 H3 v ((s1.trans s2).trans s3) (List.IsPrefix.trans p1 p2) hs3 rv
theorem dp_list {K : PySem.W.Frag} {F H : Hp} {φ : List Addr} {ws : List W} {v : V} {ds : List PyData} (s : Sub F H) (c : Cont K F φ H (.lst ws) v) (h : toDs ws = some ds) : Dp K H v (.list ds) := by
  rcases c with c | ⟨a, o, m, rfl, e, h1, h2⟩
  · exact c.dp s (by simp only [toD, h])
  · cases m with
    | lst xs =>
      cases e
      cases o <;> first | exact h2.elim | skip
      have rs : Rs K F φ ws _ := h2
      exact .lst (SqL.of h1) (rs.dp s h)
    | dK xs => cases e
    | dT xs => cases e
theorem op2_in : Op2C X (fun x y H Q => rIn X.K false x y H Q ∨ rInD X.K x y H Q) (inW false) := by
  intro Z F φ L H x y w vx vy hs rx cy h Q q
  unfold inW at h
  split at h
  · rename_i ws
    split at h
    · rename_i k hk
      cases h
      unfold memW at hk
      split at hk
      · rename_i i ns e1
        cases hk
        rw [intsW_eq e1] at cy
        obtain ⟨p, vs, rfl, g1, g2⟩ := cy.seq hs.sub
        cases rx
        have ev := g2.ints
        subst ev
        exact .inl ⟨p, _, rfl, .inl g1, rfl, flat_ints ns, by rw [inV_ints]; exact flat hs (.bl _) q⟩
      · split at hk
        · split at hk
          · rename_i d ds e1 e2 hz
            cases hk
            exact .inr ⟨d, ds, rx.dp hs.sub e1, dp_list hs.sub cy e2, hz.1, hz.2, flat hs (.bl _) q⟩
          · cases hk
        · cases hk
    · cases h
  · rename_i ws
    split at h
    · rename_i i ns e1
      cases h
      rw [intsW_eq e1] at cy
      obtain ⟨p, vs, rfl, g1, g2⟩ := cy.tup hs.sub
      cases rx
      have ev := g2.ints
      subst ev
      exact .inl ⟨p, _, rfl, .inr g1, rfl, flat_ints ns, by rw [inV_ints]; exact flat hs (.bl _) q⟩
    · cases h
  · cases h
theorem op2_notin : Op2C X (fun x y H Q => rIn X.K true x y H Q ∨ rNotInD X.K x y H Q) (inW true) := by
  intro Z F φ L H x y w vx vy hs rx cy h Q q
  unfold inW at h
  split at h
  · rename_i ws
    split at h
    · rename_i k hk
      cases h
      unfold memW at hk
      split at hk
      · rename_i i ns e1
        cases hk
        rw [intsW_eq e1] at cy
        obtain ⟨p, vs, rfl, g1, g2⟩ := cy.seq hs.sub
        cases rx
        have ev := g2.ints
        subst ev
        exact .inl ⟨p, _, rfl, .inl g1, rfl, flat_ints ns, by rw [inV_ints]; exact flat hs (.bl _) q⟩
      · split at hk
        · split at hk
          · rename_i d ds e1 e2 hz
            cases hk
            exact .inr ⟨d, ds, rx.dp hs.sub e1, dp_list hs.sub cy e2, hz.1, hz.2, flat hs (.bl _) q⟩
          · cases hk
        · cases hk
    · cases h
  · rename_i ws
    split at h
    · rename_i i ns e1
      cases h
      rw [intsW_eq e1] at cy
      obtain ⟨p, vs, rfl, g1, g2⟩ := cy.tup hs.sub
      cases rx
      have ev := g2.ints
      subst ev
      exact .inl ⟨p, _, rfl, .inr g1, rfl, flat_ints ns, by rw [inV_ints]; exact flat hs (.bl _) q⟩
    · cases h
  · cases h
theorem ie_in {fa : EF} {fo : OF} (hu : X.A.units + 65 < cLine) (ha : IE X a fa) (hb : IO X b fo) (hm : behindInMarks .In b = false := by rfl) : IE X (.Compare a [.In] [b] pos) (cOpC (inW false) fa fo) :=
  ⟨fun hs ss h Q q => PE.wp (pe_cmpR (orR op_in_seq (op_inD hu)) wpE wpE hm) (twoC op2_in ha hb hs ss h Q q)⟩
theorem ie_notin {fa : EF} {fo : OF} (hu : X.A.units + 65 < cLine) (ha : IE X a fa) (hb : IO X b fo) (hm : behindInMarks .NotIn b = false := by rfl) : IE X (.Compare a [.NotIn] [b] pos) (cOpC (inW true) fa fo) :=
  ⟨fun hs ss h Q q => PE.wp (pe_cmpR (orR op_notIn_seq (op_notInD hu)) wpE wpE hm) (twoC op2_notin ha hb hs ss h Q q)⟩
theorem it_in {fa : EF} {fo : OF} (hu : X.A.units + 65 < cLine) (ha : IE X a fa) (hb : IO X b fo) (hm : behindInMarks .In b = false := by rfl) : IT X (.Compare a [.In] [b] pos) (asT (cOpC (inW false) fa fo)) := by
  refine ⟨fun {Zx Z F φ L ρ σ H w L'} hs ss h Q q => PT.wp (pt_cmpR (orR op_in_seq (op_inD hu)) wpE wpE hm) ?_⟩
  refine twoC op2_in ha hb hs ss (asT_some h) _ fun F' φ' H' v s1 p1 hs1 r1 => ?_
  cases r1
  exact ⟨w, rfl, q F' φ' H' s1 p1 hs1⟩
theorem it_notin {fa : EF} {fo : OF} (hu : X.A.units + 65 < cLine) (ha : IE X a fa) (hb : IO X b fo) (hm : behindInMarks .NotIn b = false := by rfl) : IT X (.Compare a [.NotIn] [b] pos) (asT (cOpC (inW true) fa fo)) := by
  refine ⟨fun {Zx Z F φ L ρ σ H w L'} hs ss h Q q => PT.wp (pt_cmpR (orR op_notIn_seq (op_notInD hu)) wpE wpE hm) ?_⟩
  refine twoC op2_notin ha hb hs ss (asT_some h) _ fun F' φ' H' v s1 p1 hs1 r1 => ?_
  cases r1
  exact ⟨w, rfl, q F' φ' H' s1 p1 hs1⟩
/-! ### texts -/
def strsW : List W → Option (List Str)
  | [] => some []
  | .str s :: r => (match strsW r with
    | some ns => some (s :: ns)
    | none => none)
  | _ => none
theorem strsW_eq : ∀ {ws : List W} {ns : List Str}, strsW ws = some ns → ws = ns.map W.str
  | [], ns, h => by simp only [strsW, Option.some.injEq] at h; subst h; rfl
  | w :: r, ns, h => by
    unfold strsW at h
    split at h
    · cases h; rename_i e; cases e
    · rename_i s r' e
      cases e
      split at h
      · rename_i ns' e2
        simp only [Option.some.injEq] at h
        subst h
        rw [strsW_eq e2]; rfl
      · cases h
    · cases h
theorem strsW_map : ∀ ns : List Str, strsW (ns.map W.str) = some ns
  | [] => rfl
  | n :: r => by rw [List.map_cons]; simp only [strsW, strsW_map r]
theorem Rs.strs {K : PySem.W.Frag} {F : Hp} {φ : List Addr} : ∀ {ns : List Str} {vs : List V}, Rs K F φ (ns.map W.str) vs → vs = ns.map V.str
  | [], _, h => by cases h; rfl
  | n :: ns, _, h => by
    cases h with
    | cons r t =>
      cases r
      rw [Rs.strs t]; rfl
/-- s.join(xs) -/
def cJoin (fs : EF) (fo : OF) : EF := fun ρ L => match fs ρ L with
  | some (.str s, L1) => (match fo ρ L1 with
    | none => none
    | some (h, L2) => match cont ρ L2 h with
      | some (.lst ws) => (match strsW ws with
        | some ys => if (ys.map fun y => y.length).sum + ys.length * s.length ≤ 16777216 then some (.str (Txt.join s ys), L2) else none
        | none => none)
      | _ => none)
  | _ => none
theorem ie_join {fs : EF} {fo : OF} {apos : Pos} (hs0 : IE X o fs) (ho : IO X e fo) (hs1 : starEach [e] X.env = [(false, eval e X.env)] := by rfl) (hbase : attributeBase o "join" X.env (eval o X.env) = eval o X.env := by rfl) (hline : (apos.endLine == pos.line) = true := by rfl) :
    IE X (.Call (.Attribute o "join" apos) [e] [] pos) (cJoin fs fo) := by
  refine ⟨fun {Zx Z F φ L ρ σ H w L'} hs ss h Q q => PE.wp (pe_join wpE wpE hs1 hbase hline) ?_⟩
  unfold cJoin at h
  split at h
  · rename_i s L1 e1
    split at h
    · cases h
    rename_i hd L2 e2
    split at h
    · rename_i ws e3
      split at h
      · rename_i ys e4
        split at h
        · rename_i hz
          simp only [Option.some.injEq, Prod.mk.injEq] at h
          obtain ⟨rfl, rfl⟩ := h
          refine hs0.run hs ss e1 _ fun F1 φ1 H1 v s1 p1 hs1 r1 => ?_
          cases r1
          refine ⟨⟨_, rfl⟩, ?_⟩
          refine ho.run hs1 (ss.mono s1 p1) e2 _ fun F2 φ2 H2 vy s2 p2 hs2 r2 => ?_
          have c := cont_ok hs2 ((ss.mono s1 p1).mono s2 p2) r2 e3
          rw [strsW_eq e4] at c
          obtain ⟨p, vs, rfl, g1, g2⟩ := c.seq hs2.sub
          have ev := g2.strs
          subst ev
          exact ⟨s, p, ys, rfl, rfl, .inl g1, hz, q F2 φ2 H2 _ (s1.trans s2) (List.IsPrefix.trans p1 p2) hs2 (.str _)⟩
        · cases h
      · cases h
    · cases h
  · cases h
/-- tuple(xs) -/
def cTupOf (fo : OF) : EF := fun ρ L => match fo ρ L with
  | none => none
  | some (h, L1) => match cont ρ L1 h with
    | some (.lst ws) => some (.tup ws, L1)
    | _ => none
theorem ie_tupof {fo : OF} {p : Pos} (hg : Gl X "tuple") (hm : X.mg "tuple" = none) (ho : IO X a fo) (na : starEach [a] X.env = (false, eval a X.env) :: starEach [] X.env := by rfl) : IE X (.Call (.Name "tuple" p) [a] [] pos) (cTupOf fo) := by
  refine ⟨fun {Zx Z F φ L ρ σ H w L'} hs ss h Q q => PE.wp (pe_tupleOf hg hm wpE na) ?_⟩
  unfold cTupOf at h
  split at h
  · cases h
  rename_i hd L1 e1
  split at h
  · rename_i ws e2
    simp only [Option.some.injEq, Prod.mk.injEq] at h
    obtain ⟨rfl, rfl⟩ := h
    refine ho.run hs ss e1 _ fun F1 φ1 H1 v s1 p1 hs1 r1 => ?_
    obtain ⟨p, vs, rfl, g1, g2⟩ := (cont_ok hs1 (ss.mono s1 p1) r1 e2).seq hs1.sub
    refine .inl ⟨p, vs, rfl, g1, fun t ht => ?_⟩
    obtain ⟨h1, h2⟩ := hs1.fresh_frozen (o := .tup vs) ht
    exact q _ φ1 _ _ (s1.trans h2) p1 h1 (.tup upd_same (g2.mono h2 (List.prefix_refl φ1)))
  · cases h
end
end Lf

set_option maxHeartbeats 4000000
/-! Lf, part I: set(a list of ints). -/
namespace Lf
open PySem PySem.Spec PyProof.Rows L2
def eS (w : World) : Obj := { cls := .type "set", dict := none, data := .set #[] 0 (.fresh 0 0 (!w.params.followText "set-order")) }
section
variable {P : Program} {w : World} {A : Around} {E : Value → Shared → Prop} {s : Shared}
/-- set(a list of ints) -/
theorem set_listI {l : Addr} {its : Array Value} (ns : List Int) {Q : Value → Shared → Prop} (hh : A.handled = none) (il : s.heap.IsList l its) (hit : IntsAre its.toList ns) (hb : ns.length + 1 < scanBound)
    (k : ∀ (h' : Heap) (tk c : Nat), SetR w h' s.heap.objs.size (fun j => decide (j ∈ ns)) c → c ≤ ns.length → (∀ b o, s.heap.get? b = some o → h'.get? b = some o) → Q (.ref s.heap.objs.size) { s with heap := h', toks := tk }) :
    wpAny (model P w) A (call (.type "set") [.ref l]) Q E s := by
  have sz : its.size = ns.length := by rw [← Array.length_toList]; exact hit.length
  obtain ⟨mc, mt, m1⟩ := F.called_set.mro
  have m2 := F.called_set.made
  have m3 := F.called_set.sub
  have m4 := F.called_set.notType
  have m5 := F.called_set.canCreate
  have m6 := F.typeCall_set_1 (.ref l)
  refine wpAny_call (codeAny_of_tree ?_)
  show wpAny _ _ (callAny (.type "set") _) _ _ _
  refine wpAny_pure ⟨Code.quiet_builtin _ (by decide +kernel), codeAny_builtin F.entry_type_call ?_⟩
  rw [Around.under_plain (weight_type_call_type "set" [.ref l] []) rfl]
  repeat (any_goals (first | assumption | wp_step))
  have new : (s.heap.push (eS w)).get? s.heap.objs.size = some (eS w) := Heap.get?_push_size _ rfl
  refine codeAny_mono (code_set_led1 (.ref l) (E := E) (Q₁ := fun u t => u = .ref s.heap.objs.size ∧ t = { s with heap := s.heap.push (eS w) }) ⟨rfl, rfl⟩) fun r t hr => ?_
  cases r with
  | error e => exact hr
  | ok fl =>
    cases fl with
    | ret u =>
      obtain ⟨rfl, rfl⟩ := hr
      have ty : Shared.TypeIs { s with heap := s.heap.push (eS w) } (.ref s.heap.objs.size) "set" := ⟨_, new, rfl⟩
      have i1 := F.called_set.init.lookup
      have i2 := F.called_set.init.bind (.ref s.heap.objs.size)
      repeat (any_goals (first | assumption | wp_step))
      refine codeAny_mono (codeAny_call_builtin (R := wants (fun r t => r = .none ∧ ∃ h' tk c, t = { s with heap := h', toks := tk } ∧ SetR w h' s.heap.objs.size (fun j => decide (j ∈ ns)) c ∧ c ≤ ns.length ∧
          (∀ b o, s.heap.get? b = some o → h'.get? b = some o)) E) F.called_set.init.plain F.entry_set_init (check_set_init_1 ty ?_)) fun r2 t2 hr2 => ?_
      · obtain ⟨ol, g1, g2, nl, g3⟩ := il
        obtain ⟨oc, od, odt, osl⟩ := ol
        simp only at g2 g3
        subst g2; subst g3
        have g4 : (s.heap.push (eS w)).get? l = some ⟨.type "list", od, .seq its nl, osl⟩ := Heap.get?_push_of_some _ g1
        have j1 := F.sub_list_set
        have j2 := F.sub_list_frozenset
        have j3 : (Value.type "list" == Value.type "dict") = false := by decide
        have j4 : (s.heap.push (eS w)).IsList l its := ⟨_, g4, rfl, nl, rfl⟩
        have g4' := g4
        unfold eS at g4'
        unfold Builtin.«set.__init__» noKeywords Builtin.Frozenset.updateFrom
        generalize hPI : pyIter = PI
        wp_walk
        subst hPI
        refine wpAny_pyIter_list j4 (wpAny_bind (wpAny_runValue ?_))
        have lt : l < s.heap.objs.size := Heap.lt_size g1
        have h3 : A.in1.in1.in1.handled = none := by simp [hh]
        have z1 : (s.heap.push (eS w)).objs.size = s.heap.objs.size + 1 := Heap.size_push ..
        have n1 : l ≠ (s.heap.push (eS w)).objs.size := by rw [z1]; exact Nat.ne_of_lt (Nat.lt_succ_of_lt lt)
        have n2 : s.heap.objs.size ∉ [(s.heap.push (eS w)).objs.size, l] := by
          rw [z1]; simp only [List.mem_cons, List.not_mem_nil, or_false, not_or]; exact ⟨Nat.ne_of_lt (Nat.lt_succ_self _), Nat.ne_of_gt lt⟩
        have vl : ∀ (i : Nat) (v : Value), its[i]? = some v → ∃ k t, ns[i]? = some k ∧ v = .int k t := fun i v hv => by
          have hi : i < ns.length := by rw [← sz]; exact (Array.getElem?_eq_some_iff.mp hv).1
          obtain ⟨t, e⟩ := IntsAre.int_at hit i v (by rw [Array.getElem?_toList]; exact hv)
          refine ⟨ns[i], t, List.getElem?_eq_getElem hi, ?_⟩
          rw [e, List.getD_eq_getElem?_getD, List.getElem?_eq_getElem hi] <;> rfl
        refine set_update_ints ((Walks.list h3 _ l n1 its).toS) s.heap.objs.size n2 ns sz hb vl (its.size - 0) 0 _ (by omega) (Nat.zero_le _)
          ⟨⟨_, Heap.get?_push_size _ rfl, rfl, rfl⟩, (j4.push _)⟩ ⟨0, Nat.le_refl 0, setR_new_at (Heap.get?_push_of_some _ new)⟩ ?_
        intro t c mv hc hS
        obtain ⟨h', g2, d', tk', os'⟩ := t
        obtain rfl : g2 = s.gens := mv.gens
        obtain rfl : d' = s.drawn := mv.drawn
        obtain rfl : os' = s.os := mv.os
        show wpAny _ _ _ _ _ _
        refine wpAny_pure ?_
        show wpAny _ _ (ret Value.none) _ _ _
        rw [sz] at hc
        refine wpAny_pure ⟨rfl, h', tk', c, rfl, hS, hc, fun b o e => ?_⟩
        have b0 : b < s.heap.objs.size := Heap.lt_size e
        refine mv.heap b o ?_ (Heap.get?_push_of_some _ (Heap.get?_push_of_some _ e))
        rw [z1]; simp only [List.mem_cons, List.not_mem_nil, or_false, not_or]; exact ⟨Nat.ne_of_lt b0, Nat.ne_of_lt (Nat.lt_succ_of_lt b0)⟩
      · cases r2 with
        | error e => exact hr2
        | ok fl2 =>
          cases fl2 with
          | ret r =>
            obtain ⟨rfl, h', tk, c', rfl, a1, a2, a3⟩ := hr2
            repeat (any_goals (first | assumption | wp_step))
            exact k _ _ _ a1 a2 a3
          | _ => exact hr2.elim
    | _ => exact hr.elim
end
end Lf

set_option maxHeartbeats 4000000
/-! Lf, part J: sorted(set(a list of ints)), boxes. -/
namespace Lf
open PySem PySem.Spec PyProof.Rows L2
/-! ### sorted(set(ints)) -/
def insI (i : Int) : List Int → List Int
  | [] => [i]
  | j :: r => if i < j then i :: j :: r else if i = j then j :: r else j :: insI i r
def setI (ns : List Int) : List Int := ns.foldr insI []
theorem mem_insI {i k : Int} : ∀ {l : List Int}, k ∈ insI i l ↔ k = i ∨ k ∈ l
  | [] => by simp [insI]
  | j :: r => by
    unfold insI
    split
    · simp
    · split
      · rename_i h; subst h; simp
      · rw [List.mem_cons, mem_insI (l := r), List.mem_cons]
        constructor
        · rintro (h | h | h) <;> simp [h]
        · rintro (h | h | h) <;> simp [h]
theorem pw_insI {i : Int} : ∀ {l : List Int}, l.Pairwise (· < ·) → (insI i l).Pairwise (· < ·)
  | [], _ => by simp [insI]
  | j :: r, h => by
    obtain ⟨h1, h2⟩ := List.pairwise_cons.mp h
    unfold insI
    split
    · rename_i hlt
      refine List.pairwise_cons.mpr ⟨fun x hx => ?_, h⟩
      rcases List.mem_cons.mp hx with rfl | hx
      · exact hlt
      · exact Int.lt_trans hlt (h1 x hx)
    · split
      · exact h
      · rename_i n1 n2
        refine List.pairwise_cons.mpr ⟨fun x hx => ?_, pw_insI h2⟩
        rcases mem_insI.mp hx with rfl | hx
        · omega
        · exact h1 x hx
theorem pw_setI : ∀ ns : List Int, (setI ns).Pairwise (· < ·)
  | [] => .nil
  | n :: r => pw_insI (pw_setI r)
theorem mem_setI {k : Int} : ∀ {ns : List Int}, k ∈ setI ns ↔ k ∈ ns
  | [] => by simp [setI]
  | n :: r => by
    show k ∈ insI n (setI r) ↔ _
    rw [mem_insI, mem_setI (ns := r), List.mem_cons]
theorem asc_uniq : ∀ {l m : List Int}, l.Pairwise (· < ·) → m.Pairwise (· < ·) → (∀ k, k ∈ l ↔ k ∈ m) → l = m
  | [], [], _, _, _ => rfl
  | [], y :: m, _, _, h => absurd ((h y).mpr List.mem_cons_self) (by simp)
  | x :: l, [], _, _, h => absurd ((h x).mp List.mem_cons_self) (by simp)
  | x :: l, y :: m, hl, hm, h => by
    obtain ⟨l1, l2⟩ := List.pairwise_cons.mp hl
    obtain ⟨m1, m2⟩ := List.pairwise_cons.mp hm
    have e : x = y := by
      rcases List.mem_cons.mp ((h x).mp List.mem_cons_self) with e | e
      · exact e
      · rcases List.mem_cons.mp ((h y).mpr List.mem_cons_self) with e' | e'
        · exact e'.symm
        · have := m1 x e; have := l1 y e'; omega
    subst e
    rw [asc_uniq l2 m2 fun k => ?_]
    constructor
    · intro hk
      rcases List.mem_cons.mp ((h k).mp (List.mem_cons_of_mem _ hk)) with e | e
      · have := l1 k hk; omega
      · exact e
    · intro hk
      rcases List.mem_cons.mp ((h k).mpr (List.mem_cons_of_mem _ hk)) with e | e
      · have := m1 k hk; omega
      · exact e
theorem setI_self {l : List Int} (h : l.Pairwise (· < ·)) : setI l = l := asc_uniq (pw_setI l) h fun _ => mem_setI
section
variable {X : Cx} {e a b o : Expr} {es : List Expr} {pos : Pos}
def rSetI (K : PySem.W.Frag) (w : World) : List V → Hp → VK → Prop := fun xs H Q => ∃ (l : Addr) (ns : List Int), xs = [V.ref l] ∧ SqL K H l (ns.map V.int) ∧ ns.length < 64 ∧
  ∀ (p : Addr) (n : Nat), H p = none → n < 64 → Q (.ref p) (upd H p (SetO w p (fun k => decide (k ∈ ns)) n))
theorem cr_setI (hc : X.calm = true) : CallR X (.type "set") (rSetI X.K X.w) := by
  intro pins s σ H xs us Q I r h
  obtain ⟨l, ns, rfl, hl, hf, q⟩ := h
  rw [Vals.ref1 r]
  obtain ⟨its, rv, pl, hz⟩ := I.list hl
  have hn : H s.heap.objs.size = none := I.hok.fresh (Nat.le_refl _)
  refine set_listI ns (I.ok.hd hc) pl.isList (by simpa using rv.ints) (by unfold scanBound; omega) fun h' tk c hS hc hk => ?_
  exact ⟨.ref s.heap.objs.size, upd H s.heap.objs.size (SetO X.w s.heap.objs.size (fun k => decide (k ∈ ns)) c), I.laid (t' := tk) hk (Nat.le_refl _) (setO_new hS), rfl, q _ _ hn (by omega)⟩
def nSetI (f : OF) : NF := fun ρ L => match f ρ L with
  | none => none
  | some (h, L1) => match cont ρ L1 h with
    | some (.lst ws) => (match intsW ws with
      | some ns => if ns.length < 64 then some (.lst ((setI ns).map W.int), L1) else none
      | none => none)
    | _ => none
theorem in_seti {f : OF} {p p2 pos2 : Pos} (hc : X.calm = true) (hg : Gl X "sorted") (hm : X.mg "sorted" = none) (hg2 : Gl X "set") (hm2 : X.mg "set" = none) (ha : IO X a f)
    (he : starEach [.Call (.Name "set" p2) [a] [] pos2] X.env = (false, eval (.Call (.Name "set" p2) [a] [] pos2) X.env) :: starEach [] X.env := by rfl)
    (he2 : starEach [a] X.env = (false, eval a X.env) :: starEach [] X.env := by rfl) (hpl : (backTo pos (starEach [] X.env)).any (·.1) = false := by rfl) (hpl2 : (backTo pos2 (starEach [] X.env)).any (·.1) = false := by rfl) :
    IN X (.Call (.Name "sorted" p) [.Call (.Name "set" p2) [a] [] pos2] [] pos) (nSetI f) := by
  refine ⟨fun {Zx Z F φ L ρ σ H m L'} hs ss h Q q => PE.wp (pe_callB (cr_sortedSet hc) hg hm (by decide +kernel) (pa_cons (pe_callTy (cr_setI hc) hg2 hm2 (by decide +kernel) (pa_cons wpE pa_nil he2) (he := he2) (hpl := hpl2)) pa_nil he) (he := he) (hpl := hpl)) ?_⟩
  unfold nSetI at h
  split at h
  · cases h
  rename_i hd L1 e1
  split at h
  · rename_i ws e2
    split at h
    · rename_i ns e3
      split at h
      · rename_i hz
        simp only [Option.some.injEq, Prod.mk.injEq] at h
        obtain ⟨rfl, rfl⟩ := h
        refine ha.run hs ss e1 _ fun F1 φ1 H1 v s1 p1 hs1 r1 => ?_
        have c := cont_ok hs1 (ss.mono s1 p1) r1 e2
        rw [intsW_eq e3] at c
        obtain ⟨p, vs, rfl, g1, g2⟩ := c.seq hs1.sub
        have ev := g2.ints
        subst ev
        refine ⟨p, ns, rfl, g1, hz, fun st n hst hn => ?_⟩
        have hs2 : Hs X.K X.mg Z F1 φ1 L1 (upd H1 st (SetO X.w st (fun k => decide (k ∈ ns)) n)) := hs1.extra hst
        refine ⟨st, _, n, rfl, upd_same, hn, fun ms t pw mem _ ht => ?_⟩
        have em : ms = setI ns := asc_uniq pw (pw_setI ns) fun k => by rw [mem, decide_eq_true_eq, mem_setI]
        subst em
        exact q F1 φ1 _ t _ s1 p1 (hs2.free ht).2.1 (hs2.fresh ht) (Rs.of_ints _)
      · cases h
    · cases h
  · cases h
end
end Lf

set_option maxHeartbeats 4000000
/-! Lf, part K: raise (never reached), texts, lists at a box, classes asked for, an own ==. -/
namespace Lf
open PySem PySem.Spec PyProof.Rows L2
section
variable {X : Cx} {tg e a b c o : Expr} {es : List Expr} {pos : Pos}
/-- a raise that no run reaches -/
def cRaise : SF := fun _ _ => none
theorem is_raise {x y : Option Expr} : IS X (.Raise x y pos) cRaise := ⟨fun _ _ h => by cases h⟩
/-! ### numbers and texts -/
theorem callOr {f : Value} {r r' : List V → Hp → VK → Prop} (h : CallR X f r) (h' : CallR X f r') : CallR X f (fun xs H Q => r xs H Q ∨ r' xs H Q) := by
  intro pins s σ H xs us Q I rs q
  rcases q with q | q
  · exact h pins s σ H xs us Q I rs q
  · exact h' pins s σ H xs us Q I rs q
def intSW : List W → Option W
  | [.str s] => (match PySem.intText? s with
    | some n => if s.length ≤ 640 then some (.int n) else none
    | none => none)
  | _ => none
theorem ie_intS {f : AF} {p : Pos} (hg : Gl X "int") (hm : X.mg "int" = none) (ha : IA X [a] f) (he : starEach [a] X.env = (false, eval a X.env) :: starEach [] X.env := by rfl) : IE X (.Call (.Name "int" p) [a] [] pos) (cN intSW f) := by
  refine ie_bltT call_int_str (fun {Z F φ L H ws w vs} hs rs h Q q => ?_) hg hm (by decide +kernel) ha (he := he)
  unfold intSW at h
  split at h
  · split at h
    · split at h
      · rename_i s n e1 hz
        cases h
        cases rs with
        | cons r1 r2 => cases r1; cases r2; exact ⟨_, n, rfl, e1, hz, flat hs (.int _) q⟩
      · cases h
    · cases h
  · cases h
def strW : List W → Option W
  | [.int i] => if i.natAbs < 18446744073709551616 then some (.str (toString i)) else none
  | _ => none
theorem ie_strI {f : AF} {p : Pos} (hg : Gl X "str") (hm : X.mg "str" = none) (ha : IA X [a] f) (he : starEach [a] X.env = (false, eval a X.env) :: starEach [] X.env := by rfl) : IE X (.Call (.Name "str" p) [a] [] pos) (cN strW f) := by
  refine ie_bltT call_str_int (fun {Z F φ L H ws w vs} hs rs h Q q => ?_) hg hm (by decide +kernel) ha (he := he)
  unfold strW at h
  split at h
  · split at h
    · rename_i i hz
      cases h
      cases rs with
      | cons r1 r2 =>
        cases r1; cases r2
        refine ⟨_, rfl, ?_, flat hs (.str _) q⟩
        by_cases z : i.natAbs = 0
        · rw [z]; decide
        · have := (Nat.log2_lt z (k := 64)).mpr hz
          omega
    · cases h
  · cases h
/-- c in s, c one sign -/
def inSW (neg : Bool) (x y : W) : Option W := match x, y with
  | .str a, .str z => (match a.cps.toList with
    | [c] => some (.bl (if neg then !decide (c ∈ z.cps.toList) else decide (c ∈ z.cps.toList)))
    | _ => none)
  | _, _ => none
theorem one_sign {a : Str} {c : Nat} (h : a.cps.toList = [c]) : a = ⟨#[c]⟩ := by
  cases a with
  | mk cps =>
    have : cps = #[c] := by rw [← Array.toArray_toList (xs := cps), h]
    rw [this]
theorem op2_inS : Op2 X (fun x y H Q => ∃ (c : Nat) (z : Str), x = .str ⟨#[c]⟩ ∧ y = .str z ∧ Q (.bl (decide (c ∈ z.cps.toList))) H) (inSW false) := by
  intro Z F φ L H x y w vx vy hs rx ry h Q q
  unfold inSW at h
  split at h
  · split at h
    · rename_i c e1
      cases h
      have e2 := one_sign e1
      subst e2
      cases rx; cases ry
      exact ⟨c, _, rfl, rfl, flat hs (.bl _) q⟩
    · cases h
  · cases h
theorem op2_ninS : Op2 X (fun x y H Q => ∃ (c : Nat) (z : Str), x = .str ⟨#[c]⟩ ∧ y = .str z ∧ Q (.bl (!decide (c ∈ z.cps.toList))) H) (inSW true) := by
  intro Z F φ L H x y w vx vy hs rx ry h Q q
  unfold inSW at h
  split at h
  · split at h
    · rename_i c e1
      cases h
      have e2 := one_sign e1
      subst e2
      cases rx; cases ry
      exact ⟨c, _, rfl, rfl, flat hs (.bl _) q⟩
    · cases h
  · cases h
theorem it_inS {fa fb : EF} (ha : IE X a fa) (hb : IE X b fb) (hm : behindInMarks .In b = false := by rfl) : IT X (.Compare a [.In] [b] pos) (asT (cOp (inSW false) fa fb)) := it_cmp op_in_sign op2_inS ha hb hm
theorem it_notinS {fa fb : EF} (ha : IE X a fa) (hb : IE X b fb) (hm : behindInMarks .NotIn b = false := by rfl) : IT X (.Compare a [.NotIn] [b] pos) (asT (cOp (inSW true) fa fb)) := it_cmp op_notIn_sign op2_ninS ha hb hm
/-- for c in s -/
def signsW (s : Str) : List W := s.cps.toList.map fun c => .str ⟨#[c]⟩
theorem itok_str {K : PySem.W.Frag} {mg : Str → Option Value} {F : Hp} {φ : List Addr} (s : Str) : ItOk K mg F φ (Its s) (signsW s) := by
  intro Z F1 φ1 L1 H1 i sb p hs
  refine ⟨fun x hx => ?_, fun hl => by
    show s.cps.size ≤ i
    unfold signsW at hl
    simpa using hl⟩
  unfold signsW at hx
  rw [List.getElem?_map] at hx
  cases q : s.cps.toList[i]? with
  | none => rw [q] at hx; cases hx
  | some c =>
    rw [q] at hx
    cases hx
    have q' : s.cps[i]? = some c := by rw [← Array.getElem?_toList]; exact q
    refine ⟨(Array.getElem?_eq_some_iff.mp q').1, fun v H2 y => ?_⟩
    obtain ⟨rfl, c', h1, rfl⟩ := y
    rw [q'] at h1; cases h1
    exact ⟨F1, Sub.refl F1, hs, .str _⟩
def sStr (f : EF) : AF := fun ρ L => match f ρ L with
  | some (.str s, L') => some (signsW s, L')
  | _ => none
theorem ii_str {f : EF} (h : IE X e f) : II X tg e (sStr f) := by
  refine ⟨fun {Zx Z F φ L ρ σ H xs L'} hs ss h' Q q => PI.wp (pi_str wpE) ?_⟩
  unfold sStr at h'
  split at h'
  · rename_i s L2 e1
    simp only [Option.some.injEq, Prod.mk.injEq] at h'
    obtain ⟨rfl, rfl⟩ := h'
    refine h.run hs ss e1 _ fun F1 φ1 H1 v s1 p1 hs1 r1 => ?_
    cases r1
    exact ⟨s, rfl, q F1 φ1 H1 _ s1 p1 hs1 (itok_str s)⟩
  · cases h'
/-- s.m(t), a value -/
def cS1 (g : Str → Str → W) (fs ft : EF) : EF := fun ρ L => match fs ρ L with
  | some (.str s, L1) => (match ft ρ L1 with
    | some (.str t, L2) => some (g s t, L2)
    | _ => none)
  | _ => none
theorem ie_s1 {id : String} {name : Str} {apos : Pos} {v : Str → Str → V} {g : Str → Str → W} {fs ft : EF} (slot : Slot "str" name id) (ty : typeOf (.builtin id) = pure (.type "method_descriptor")) (rule : MtR X id (fun x xs H Q => ∃ a b, x = .str a ∧ xs = [.str b] ∧ Q (v a b) H))
    (rel : ∀ {F : Hp} {φ : List Addr} (s t : Str), R X.K F φ (g s t) (v s t)) (h1 : IE X o fs) (h2 : IE X e ft) (hs0 : starEach [e] X.env = [(false, eval e X.env)] := by rfl) (hbase : attributeBase o name X.env (eval o X.env) = eval o X.env := by rfl) (hline : (apos.endLine == pos.line) = true := by rfl) :
    IE X (.Call (.Attribute o name apos) [e] [] pos) (cS1 g fs ft) := by
  refine ⟨fun {Zx Z F φ L ρ σ H w L'} hs ss h Q q => PE.wp (pe_m1 slot ty rule wpE wpE hs0 hbase hline) ?_⟩
  unfold cS1 at h
  split at h
  · rename_i s L1 e1
    split at h
    · rename_i t L2 e2
      simp only [Option.some.injEq, Prod.mk.injEq] at h
      obtain ⟨rfl, rfl⟩ := h
      refine h1.run hs ss e1 _ fun F1 φ1 H1 x s1 p1 hs1 r1 => ?_
      cases r1
      refine ⟨⟨_, rfl⟩, ?_⟩
      refine h2.run hs1 (ss.mono s1 p1) e2 _ fun F2 φ2 H2 y s2 p2 hs2 r2 => ?_
      cases r2
      exact ⟨_, _, rfl, rfl, q F2 φ2 H2 _ (s1.trans s2) (List.IsPrefix.trans p1 p2) hs2 (rel _ _)⟩
    · cases h
  · cases h
theorem ie_startswith {fs ft : EF} {apos : Pos} (h1 : IE X o fs) (h2 : IE X e ft) (hs0 : starEach [e] X.env = [(false, eval e X.env)] := by rfl) (hbase : attributeBase o "startswith" X.env (eval o X.env) = eval o X.env := by rfl) (hline : (apos.endLine == pos.line) = true := by rfl) :
    IE X (.Call (.Attribute o "startswith" apos) [e] [] pos) (cS1 (fun s t => .bl (Txt.startswith s t)) fs ft) :=
  ie_s1 F.slot_str_startswith F.type_str_startswith mt_startswith (fun _ _ => .bl _) h1 h2 hs0 hbase hline
/-- s.split(t) -/
def nSplit (fs ft : EF) : NF := fun ρ L => match fs ρ L with
  | some (.str s, L1) => (match ft ρ L1 with
    | some (.str t, L2) => if (t.length == 0) = false ∧ s.length ≤ 1000000 then some (.lst ((Txt.split s t).map W.str), L2) else none
    | _ => none)
  | _ => none
theorem Rs.of_strs {K : PySem.W.Frag} {F : Hp} {φ : List Addr} : ∀ (ns : List Str), Rs K F φ (ns.map W.str) (ns.map V.str)
  | [] => .nil
  | n :: ns => .cons (.str n) (Rs.of_strs ns)
theorem in_split {fs ft : EF} {apos : Pos} (h1 : IE X o fs) (h2 : IE X e ft) (hs0 : starEach [e] X.env = [(false, eval e X.env)] := by rfl) (hbase : attributeBase o "split" X.env (eval o X.env) = eval o X.env := by rfl) (hline : (apos.endLine == pos.line) = true := by rfl) :
    IN X (.Call (.Attribute o "split" apos) [e] [] pos) (nSplit fs ft) := by
  refine ⟨fun {Zx Z F φ L ρ σ H m L'} hs ss h Q q => PE.wp (pe_split wpE wpE hs0 hbase hline) ?_⟩
  unfold nSplit at h
  split at h
  · rename_i s L1 e1
    split at h
    · rename_i t L2 e2
      split at h
      · rename_i hz
        simp only [Option.some.injEq, Prod.mk.injEq] at h
        obtain ⟨rfl, rfl⟩ := h
        refine h1.run hs ss e1 _ fun F1 φ1 H1 x s1 p1 hs1 r1 => ?_
        cases r1
        refine ⟨⟨_, rfl⟩, ?_⟩
        refine h2.run hs1 (ss.mono s1 p1) e2 _ fun F2 φ2 H2 y s2 p2 hs2 r2 => ?_
        cases r2
        refine ⟨_, _, rfl, rfl, hz.1, by rw [sizeLine_eq]; omega, fun p hp => ?_⟩
        have z0 : Z p = none := (hs2.free hp).2.1
        exact q F2 φ2 _ p _ (s1.trans s2) (List.IsPrefix.trans p1 p2) z0 (hs2.fresh hp) (Rs.of_strs _)
      · cases h
    · cases h
  · cases h
/-! ### xs[::-1] as a new list -/
def nRev (fo : OF) : NF := fun ρ L => match fo ρ L with
  | none => none
  | some (h, L1) => match cont ρ L1 h with
    | some (.lst ws) => some (.lst ws.reverse, L1)
    | _ => none
theorem in_rev {fo : OF} {k : Nat} {p1 p2 p3 : Pos} (ha : IO X a fo) : IN X (.Subscript a (.Slice none none (some (.UnaryOp .USub (.Constant (.int 1) k p1) p2)) p3) pos) (nRev fo) := by
  refine ⟨fun {Zx Z F φ L ρ σ H m L'} hs ss h Q q => PE.wp (pe_revL wpE) ?_⟩
  unfold nRev at h
  split at h
  · cases h
  rename_i hd L1 e1
  split at h
  · rename_i ws e2
    simp only [Option.some.injEq, Prod.mk.injEq] at h
    obtain ⟨rfl, rfl⟩ := h
    refine ha.run hs ss e1 _ fun F1 φ1 H1 v s1 p1 hs1 r1 => ?_
    obtain ⟨a, vs, rfl, g1, g2⟩ := (cont_ok hs1 (ss.mono s1 p1) r1 e2).seq hs1.sub
    refine ⟨a, vs, rfl, g1, fun p hp => ?_⟩
    exact q F1 φ1 _ p _ s1 p1 (hs1.free hp).2.1 (hs1.fresh hp) g2.reverse
  · cases h
/-! ### a box: lists and dicts that others hold too -/
/-- xs.append(e), xs at a box -/
def cAppB (fo : EF) (f : EF) : SF := fun ρ L => match fo ρ L with
  | some (.ob j, L0) => (match L0[j]? with
    | some (.box (.lst _)) => (match f ρ L0 with
      | none => none
      | some (w, L1) => match L1[j]? with
        | some (.box (.lst ws)) => if ws.length < 16777216 then some (.nx ρ (L1.set j (.box (.lst (ws ++ [w]))))) else none
        | _ => none)
    | _ => none)
  | _ => none
theorem is_appB {fo f : EF} {apos cpos : Pos} (ho : IE X o fo) (he : IE X e f) (hs' : swapsWith (.Call (.Attribute o "append" apos) [e] [] cpos) none pos.line X.env = pure false := by rfl)
    (hb : attributeBase o "append" X.env (eval o X.env) = eval o X.env := by rfl)
    (hfew : ((backTo cpos (starEach (e :: []) X.env)).all (fun x => !x.1) && (backToKw cpos (keywordEach [] X.env)).all (fun x => x.1.isSome)
      && decide ((e :: []).length + ([] : List Keyword).length + (if ([] : List Keyword).isEmpty then 0 else 1) < 30)) = true := by rfl)
    (hline : (apos.endLine == cpos.line) = true := by rfl) (hst : starEach (e :: []) X.env = (false, eval e X.env) :: starEach [] X.env := by rfl) (hplain : (backTo cpos (starEach [] X.env)).any (·.1) = false := by rfl) :
    IS X (.Expr (.Call (.Attribute o "append" apos) [e] [] cpos) pos) (cAppB fo f) := by
  refine ⟨fun {Zx Z F φ L ρ σ H o} hs ss h D q => PS.wp (ps_expr (pe_bm PySem.F.plainAttrs_list PySem.F.slot_list_append PySem.F.type_list_append mt_append wpE (pa_cons wpE pa_nil hst) hb hfew hline hst hplain) hs') ?_⟩
  unfold cAppB at h
  split at h
  · rename_i j L0 e0
    split at h
    · rename_i ws0 e1
      split at h
      · cases h
      rename_i w L1 e2
      split at h
      · rename_i ws e3
        split at h
        · rename_i hz
          simp only [Option.some.injEq] at h
          subst h
          refine ho.run hs ss e0 _ fun F1 φ1 H1 v s1 p1 hs1 r1 => ?_
          cases r1 with
          | ob hj =>
            obtain ⟨_, o1, k1, k2⟩ := hs1.objs _ _ _ e1 hj
            cases o1 <;> first | exact k2.elim | skip
            refine ⟨.inl ⟨rfl, _, SqL.of k1⟩, ?_⟩
            refine he.run hs1 (ss.mono s1 p1) e2 _ fun F2 φ2 H2 v2 s2 p2 hs2 r2 => ?_
            have hj2 := pre_get p2 hj
            obtain ⟨nF, o2, g1, g2⟩ := hs2.objs _ _ _ e3 hj2
            cases o2 <;> first | exact g2.elim | skip
            rename_i vs
            have rv : Rs X.K F2 φ2 ws vs := g2
            refine ⟨_, vs, v2, rfl, rfl, g1, by rw [← rv.length, sizeLine_eq]; exact hz, ?_⟩
            refine q Z F2 φ2 σ _ (s1.trans s2) (List.IsPrefix.trans p1 p2) (hs2.setOb (List.getElem?_eq_some_iff.mp e3).1 hj2 nF NT.lst ?_) (ss.mono (s1.trans s2) (List.IsPrefix.trans p1 p2))
            exact ⟨nF, _, upd_same, Rs.append rv (.one r2)⟩
        · cases h
      · cases h
    · cases h
  · cases h
/-- xs.insert(i, e), xs of the name's own -/
def cIns (i : Nat) (g : AF) : SF := fun ρ L => match g ρ L with
  | some ([.int k, w], L1) => (match ρ[i]? with
    | some (.ow (.lst ws)) => if ws.length < 16777216 ∧ 0 ≤ k ∧ k < 9223372036854775808 then some (.nx (ρ.set i (.ow (.lst (ws.take k.toNat ++ [w] ++ ws.drop k.toNat)))) L1) else none
    | _ => none)
  | _ => none
theorem is_ins (i : Nat) {x : Str} {px apos cpos : Pos} {g : AF} (he : IA X (e :: es) g) (hN : X.N[i]? = some x := by rfl) (hv : Vis X.env.scope x := by first | exact Or.inl rfl | exact Or.inr (Or.inl rfl) | exact Or.inr (Or.inr rfl)) (hd : (x == ("__debug__" : Str)) = false := by decide)
    (hcd : (x == ("__classdict__" : Str)) = false := by decide) (hs' : swapsWith (.Call (.Attribute (.Name x px) "insert" apos) (e :: es) [] cpos) none pos.line X.env = pure false := by rfl)
    (hb : attributeBase (.Name x px) "insert" X.env (eval (.Name x px) X.env) = eval (.Name x px) X.env := by rfl)
    (hfew : ((backTo cpos (starEach (e :: es) X.env)).all (fun x => !x.1) && (backToKw cpos (keywordEach [] X.env)).all (fun x => x.1.isSome)
      && decide ((e :: es).length + ([] : List Keyword).length + (if ([] : List Keyword).isEmpty then 0 else 1) < 30)) = true := by rfl)
    (hline : (apos.endLine == cpos.line) = true := by rfl) (hst : starEach (e :: es) X.env = (false, eval e X.env) :: starEach es X.env := by rfl) (hplain : (backTo cpos (starEach es X.env)).any (·.1) = false := by rfl) :
    IS X (.Expr (.Call (.Attribute (.Name x px) "insert" apos) (e :: es) [] cpos) pos) (cIns i g) := by
  refine ⟨fun {Zx Z F φ L ρ σ H o} hs ss h D q => PS.wp (ps_expr (pe_bm PySem.F.plainAttrs_list PySem.F.slot_list_insert PySem.F.type_list_insert mt_insert (pe_var hN hv hd hcd) wpA hb hfew hline hst hplain) hs') ?_⟩
  unfold cIns at h
  split at h
  · rename_i k w L1 e1
    split at h
    · rename_i ws e2
      split at h
      · rename_i hz
        simp only [Option.some.injEq] at h
        subst h
        obtain ⟨p, ho, h1, h2, h3, h4⟩ := ss.ow i _ e2
        have hH := (hs.ext p ho h2).1
        cases ho <;> first | exact h4.elim | skip
        rename_i vs
        refine ⟨_, h1, .inl ⟨rfl, _, SqL.of hH⟩, ?_⟩
        refine he.run hs ss e1 _ fun F1 φ1 H1 us s1 p1 hs1 r1 => ?_
        cases r1 with
        | cons ra rb =>
          cases ra
          cases rb with
          | cons rb rc =>
            cases rc
            have hH1 := (hs1.ext p _ h2).1
            have rv : Rs X.K F1 φ1 ws vs := Rs.mono s1 p1 h4
            refine ⟨p, vs, k, _, rfl, rfl, hH1, by rw [← rv.length, sizeLine_eq]; exact hz.1, hz.2.1, by have := hz.2.2; omega, ?_⟩
            have m2 : MOk X.K F1 φ1 (.lst (ws.take k.toNat ++ [w] ++ ws.drop k.toNat)) (.lst (vs.take k.toNat ++ [_] ++ vs.drop k.toNat)) := Rs.append (Rs.append (rv.take _) (.one rb)) (rv.drop _)
            exact q _ F1 φ1 σ _ s1 p1 (hs1.turn h2) ((ss.mono s1 p1).turn e2 h1 m2)
      · cases h
    · cases h
  · cases h
end
end Lf

set_option maxHeartbeats 4000000
/-! Lf, part L: an own ==, isinstance of an own class, constants of the module, the head's hook with one more Bool. -/
namespace Lf
open PySem PySem.Spec PyProof.Rows L2
open C8 (InsC)
/-! ### a == b by the class's own method -/
structure EqD (P : Program) (w : World) (K : PySem.W.Frag) (mg : Str → Option Value) (base : Heap) (k : Nat) (c : Str) (ps : List Str) (d : DF) : Prop where
  ex : ∃ (C f : Addr) (fd : FuncData), ClsD K mg c C ∧ InsC K C ∧ PySem.W.findIn K (.ref C) "__eq__" = some (some (.ref f)) ∧ PySem.W.isFn K (.ref f) = true ∧ PySem.W.notFirst K C (.type "str") = true ∧ PySem.W.notFirst K C (.type "tuple") = true ∧
    FnOk P w K mg base CX0 k f fd ps (spI K mg ps.length d) ∧ Binds K fd ps []
section
variable {X : Cx} {e a b c o : Expr} {es : List Expr} {pos : Pos}
def rOwnEq (K : PySem.W.Frag) (C : Addr) (sp : Sp) : R2 := fun x y H Q => ∃ (l dx : Addr) (fs : List (Str × V)) (t : Value), x = .ref l ∧ H l = some (.ins C dx fs) ∧ TyX K H y t ∧ PySem.W.notFirst K C t = true ∧ sp [x, y] H (fun r H' => ∃ k, r = .bl k ∧ Q (.bl k) H') E0
theorem op_own {n : Nat} {C f : Addr} {fd : FuncData} {ps : List Str} {sp : Sp} (F : FnOk X.prog X.w X.K X.mg X.base CX0 n f fd ps sp) (h1 : PySem.W.findIn X.K (.ref C) "__eq__" = some (some (.ref f))) (h2 : PySem.W.isFn X.K (.ref f) = true) (hb : Binds X.K fd ps []) (hr : Room n X.A) :
    OpR X (compareOp .Eq) (rOwnEq X.K C sp) := by
  intro pins s σ H x y v u Q I rx ry h
  obtain ⟨l, dx, fs, t, rfl, hl, ty, nf, hs⟩ := h
  obtain rfl : v = Value.ref l := rx
  obtain ⟨_, J0, _⟩ := ins_get I.hok hl
  obtain ⟨od, J, _⟩ := J0.look
  obtain ⟨m, fr⟩ := I.fr
  obtain ⟨P, kx, hp, _⟩ := kit_of I ry ty
  show wpAny (model X.prog X.w) X.A (richCompare .Eq (.ref l) u) (EP X pins σ Q) X.xe s
  refine PySem.W.cmp_K (op := .Eq) (tb := t) hr.units0 fr I.ok.mod.kin J (kx.ty _ _ I.kIn hp) nf h1 h2 ?_
  have len2 := F.len _ _ _ _ hs
  have vv : Vals [V.ref l, y] [Value.ref l, u] := .cons rfl (.cons ry .nil)
  have bb : BindsTo s fd ⟨[.ref l, u], []⟩ (ps.zip [.ref l, u]) := by
    have := hb s [.ref l, u] I.kIn (by simpa using len2)
    simpa using this
  refine wpAny_call (codeAny_mono (F.run X.A X.stack s H ⟨[.ref l, u], []⟩ [.ref l, u] [.ref l, y] _ E0 hr I.env0 bb vv hs) fun r s' hq => ?_)
  cases r with
  | error er => exact pass0 pins σ H s er s' I hq
  | ok fl =>
    cases fl with
    | ret w =>
      obtain ⟨z, H', I', rz, k, ez, q⟩ := I.after hq
      subst ez
      cases rz
      exact ⟨.bl k, H', I', rfl, q⟩
    | next => exact False.elim hq
    | brk => exact False.elim hq
    | cont => exact False.elim hq
def okArg (c : Str) (L : Lg) : W → Bool
  | .str _ => true
  | .tup _ => true
  | .ob j => (match L[j]? with
    | some (.ins c' _) => decide (c' = c)
    | _ => false)
  | _ => false
def cEqO (c : Str) (d : DF) (fa fb : EF) : EF := fun ρ L => match fa ρ L with
  | some (.ob i, L1) => (match fb ρ L1 with
    | none => none
    | some (y, L2) => match L2[i]? with
      | some (.ins c' _) => if c' = c ∧ okArg c L2 y = true then (match d [.ob i, y] L2 with
        | some (.bl k, L3) => some (.bl k, L3)
        | _ => none) else none
      | _ => none)
  | _ => none
theorem eqo {k j : Nat} {c : Str} {ps : List Str} {d : DF} {fa fb : EF} {C f : Addr} {fd : FuncData} (cd : ClsD X.K X.mg c C) (ic : InsC X.K C) (n1 : PySem.W.notFirst X.K C (.type "str") = true) (n2 : PySem.W.notFirst X.K C (.type "tuple") = true) (h2 : ps.length = 2)
    (ha : IE X a fa) (hb : IE X b fb)
    {Zx Z F : Hp} {φ : List Addr} {L : Lg} {ρ : Ro} {σ : L2.St} {H : Hp} {w : W} {L' : Lg} (hs : Hs X.K X.mg Z F φ L H) (ss : Ss X.K Zx Z F φ ρ σ) (h : cEqO c d fa fb ρ L = some (w, L'))
    (Q : VK) (q : ∀ (F' : Hp) (φ' : List Addr) (H' : Hp) (v : V), Sub F F' → φ <+: φ' → Hs X.K X.mg Z F' φ' L' H' → R X.K F' φ' w v → Q v H') : tOp (rOwnEq X.K C (spI X.K X.mg ps.length d)) (Wp X a) (Wp X b) σ H Q := by
  unfold cEqO at h
  split at h
  · rename_i i L1 e1
    split at h
    · cases h
    rename_i y L2 e2
    split at h
    · rename_i c' fs e3
      split at h
      · rename_i hz
        obtain ⟨rfl, hz⟩ := hz
        split at h
        · rename_i k0 L3 e4
          simp only [Option.some.injEq, Prod.mk.injEq] at h
          obtain ⟨rfl, rfl⟩ := h
          refine ha.run hs ss e1 _ fun F1 φ1 H1 v s1 p1 hs1 r1 => ?_
          refine hb.run hs1 (ss.mono s1 p1) e2 _ fun F2 φ2 H2 v2 s2 p2 hs2 r2 => ?_
          cases r1 with
          | ob hj =>
            have hj2 := pre_get p2 hj
            obtain ⟨nF, C', dx, vs, g1, g2, g3, g4⟩ := hs2.objs _ _ _ e3 hj2
            rw [cd.at_] at g1
            cases g1
            have ty : ∃ t, TyX X.K H2 v2 t ∧ PySem.W.notFirst X.K C t = true := by
              cases r2 with
              | str x => exact ⟨_, .base (.str x), n1⟩
              | tup t1 t2 => exact ⟨_, .base (.tup (hs2.sub _ _ t1)), n2⟩
              | ob hk =>
                simp only [okArg] at hz
                split at hz
                · rename_i c2 fs2 e5
                  have ec : c2 = _ := of_decide_eq_true hz
                  subst ec
                  obtain ⟨_, C2, dx2, vs2, k1, k2, _, _⟩ := hs2.objs _ _ _ e5 hk
                  rw [cd.at_] at k1
                  cases k1
                  exact ⟨_, .base (.ins k2 ic.cl ic.ha ic.hn ic.htk ic.hm), by unfold PySem.W.notFirst; simp⟩
                · cases hz
              | _ => cases hz
            obtain ⟨t, ty, nf⟩ := ty
            refine ⟨_, dx, vs, t, rfl, g2, ty, nf, ?_⟩
            refine ⟨Z, F2, φ2, L2, [.ob i, y], .bl k0, L3, hs2, .cons (.ob hj2) (.cons r2 .nil), h2.symm, e4, fun Z' F' φ' H' v3 s3 p3 z hs3 r3 => ?_⟩
            cases r3
            exact ⟨k0, rfl, q F' φ' H' _ (s1.trans (s2.trans s3)) (List.IsPrefix.trans p1 (List.IsPrefix.trans p2 p3)) (hs3.weak z) (.bl k0)⟩
        · cases h
      · cases h
    · cases h
  · cases h
theorem ie_eqo {k j : Nat} {c : Str} {ps : List Str} {d : DF} {fa fb : EF} (D : EqD X.prog X.w X.K X.mg X.base k c ps d) (hr : Room j X.A) (hkj : k ≤ j) (h2 : ps.length = 2) (ha : IE X a fa) (hb : IE X b fb) : IE X (.Compare a [.Eq] [b] pos) (cEqO c d fa fb) := by
  obtain ⟨C, f, fd, cd, ic, g1, g2, n1, n2, F0, bs⟩ := D.ex
  exact ⟨fun hs ss h Q q => PE.wp (pe_cmpR (op_own F0 g1 g2 bs (hr.mono hkj)) wpE wpE (nomark _)) (eqo (k := k) (j := j) (f := f) (fd := fd) cd ic n1 n2 h2 ha hb hs ss h Q q)⟩
theorem it_eqo {k j : Nat} {c : Str} {ps : List Str} {d : DF} {fa fb : EF} (D : EqD X.prog X.w X.K X.mg X.base k c ps d) (hr : Room j X.A) (hkj : k ≤ j) (h2 : ps.length = 2) (ha : IE X a fa) (hb : IE X b fb) : IT X (.Compare a [.Eq] [b] pos) (asT (cEqO c d fa fb)) := by
  obtain ⟨C, f, fd, cd, ic, g1, g2, n1, n2, F0, bs⟩ := D.ex
  refine ⟨fun {Zx Z F φ L ρ σ H w L'} hs ss h Q q => PT.wp (pt_cmpR (op_own F0 g1 g2 bs (hr.mono hkj)) wpE wpE (nomark _)) ?_⟩
  refine eqo (k := k) (j := j) (f := f) (fd := fd) cd ic n1 n2 h2 ha hb hs ss (asT_some h) _ fun F' φ' H' v s1 p1 hs1 r1 => ?_
  cases r1
  exact ⟨w, rfl, q F' φ' H' s1 p1 hs1⟩
/-! ### isinstance(x, C) -/
structure IsCD (K : PySem.W.Frag) (mg : Str → Option Value) (c : Str) : Prop where
  ex : ∃ C, ClsD K mg c C ∧ InsC K C ∧ PySem.W.kitOne K (.type "str") (.ref C) = some false ∧ PySem.W.kitOne K (.type "tuple") (.ref C) = some false
def cIsC (c : Str) (fa : EF) : EF := fun ρ L => match fa ρ L with
  | some (.ob j, L1) => (match L1[j]? with
    | some (.ins c' _) => if c' = c then some (.bl true, L1) else none
    | _ => none)
  | some (.str _, L1) => some (.bl false, L1)
  | some (.tup _, L1) => some (.bl false, L1)
  | _ => none
theorem ie_isc {c : Str} {fa : EF} {p p2 : Pos} (D : IsCD X.K X.mg c) (hg : Gl X "isinstance") (hm : X.mg "isinstance" = none) (hgc : Gl X c) (ha : IE X a fa) (he : starEach [a, .Name c p2] X.env = (false, eval a X.env) :: starEach [.Name c p2] X.env := by rfl) (he2 : starEach [.Name c p2] X.env = (false, eval (.Name c p2) X.env) :: starEach [] X.env := by rfl) (hdc : (c == ("__debug__" : Str)) = false := by decide)
    (hpl : (backTo pos (starEach [.Name c p2] X.env)).any (·.1) = false := by rfl) (hn : c ≠ "__name__" := by decide) : IE X (.Call (.Name "isinstance" p) [a, .Name c p2] [] pos) (cIsC c fa) := by
  obtain ⟨C, cd, ic, k1, k2⟩ := D.ex
  refine ⟨fun {Zx Z F φ L ρ σ H w L'} hs ss h Q q => PE.wp (pe_callB call_isi hg hm (by decide +kernel) (pa_cons wpE (pa_cons (pe_glob (v := .ref C) hgc cd.at_ rfl (hd := hdc)) pa_nil he2) he) (he := he) (hpl := hpl)) ?_⟩
  unfold cIsC at h
  have key : ∀ {x : W} {L1 : Lg} {k : Bool}, fa ρ L = some (x, L1) → w = .bl k → L' = L1 → (∀ {F1 : Hp} {φ1 : List Addr} {H1 : Hp} {v : V}, Hs X.K X.mg Z F1 φ1 L1 H1 → R X.K F1 φ1 x v → ∃ t, TyX X.K H1 v t ∧ PySem.W.kitOne X.K t (.ref C) = some k) → tCons (Wp X a) (tCons (tC (.ref C)) tNil) σ H (fun vs H' => rIsi X.K vs H' Q) := by
    intro x L1 k e1 ew eL ty
    subst ew; subst eL
    refine ha.run hs ss e1 _ fun F1 φ1 H1 v s1 p1 hs1 r1 => ?_
    obtain ⟨t, t1, t2⟩ := ty hs1 r1
    exact ⟨v, .ref C, t, .ref C, k, rfl, .own C, t1, t2, q F1 φ1 H1 _ s1 p1 hs1 (.bl k)⟩
  split at h
  · rename_i j L1 e1
    split at h
    · rename_i c' fs e2
      split at h
      · rename_i ec
        subst ec
        simp only [Option.some.injEq, Prod.mk.injEq] at h
        refine key (k := true) e1 h.1.symm h.2.symm fun {F1 φ1 H1 v} hs1 r1 => ?_
        cases r1 with
        | ob hj =>
          obtain ⟨_, C', dx, vs, g1, g2, _, _⟩ := hs1.objs _ _ _ e2 hj
          rw [cd.at_] at g1
          cases g1
          exact ⟨_, .base (.ins g2 ic.cl ic.ha ic.hn ic.htk ic.hm), ic.me⟩
      · cases h
    · cases h
  · rename_i x L1 e1
    simp only [Option.some.injEq, Prod.mk.injEq] at h
    refine key (k := false) e1 h.1.symm h.2.symm fun {F1 φ1 H1 v} hs1 r1 => ?_
    cases r1
    exact ⟨_, .base (.str _), k1⟩
  · rename_i x L1 e1
    simp only [Option.some.injEq, Prod.mk.injEq] at h
    refine key (k := false) e1 h.1.symm h.2.symm fun {F1 φ1 H1 v} hs1 r1 => ?_
    cases r1 with
    | tup t1 t2 => exact ⟨_, .base (.tup (hs1.sub _ _ t1)), k2⟩
  · cases h
end
/-! ### constants of the module -/
/-- a written value -/
inductive Cv where
  | int (i : Int) | str (s : Str) | tup (xs : List Cv)
mutual
def Cv.w : Cv → W
  | .int i => .int i
  | .str s => .str s
  | .tup xs => .kt (Cv.ws xs)
def Cv.ws : List Cv → List W
  | [] => []
  | x :: xs => x.w :: Cv.ws xs
end
mutual
def cvB (K : PySem.W.Frag) (x : Cv) (v : Value) : Bool := match x with
  | .int i => (match v with
    | .int j _ => decide (i = j)
    | _ => false)
  | .str s => (match v with
    | .str t _ => decide (s = t)
    | _ => false)
  | .tup xs => (match v with
    | .ref a => (match K.lookup a with
      | some ⟨.type c, _, .seq its _, _⟩ => decide (c = "tuple") && (decide (its.size ≤ 1000) && cvBs K xs its.toList)
      | _ => false)
    | _ => false)
def cvBs (K : PySem.W.Frag) (xs : List Cv) (vs : List Value) : Bool := match xs with
  | [] => vs.isEmpty
  | x :: xs => (match vs with
    | v :: vs => cvB K x v && cvBs K xs vs
    | [] => false)
end
mutual
theorem cvB_ok {K : PySem.W.Frag} : ∀ (x : Cv) {u : Value}, cvB K x u = true → ∃ v, RelV v u ∧ ∀ F φ, R K F φ x.w v
  | .int i, u, h => by
    unfold cvB at h
    split at h
    · rename_i j t
      have e : i = j := of_decide_eq_true h
      subst e
      exact ⟨.int i, ⟨t, rfl⟩, fun _ _ => .int i⟩
    · cases h
  | .str i, u, h => by
    unfold cvB at h
    split at h
    · rename_i j t
      have e : i = j := of_decide_eq_true h
      subst e
      exact ⟨.str i, ⟨t, rfl⟩, fun _ _ => .str i⟩
    · cases h
  | .tup xs, u, h => by
    unfold cvB at h
    split at h
    · rename_i a
      split at h
      · rename_i c od its n sl e1
        simp only [Bool.and_eq_true, decide_eq_true_eq] at h
        obtain ⟨h1, h2, h3⟩ := h
        subst h1
        obtain ⟨vs, g1, g2⟩ := cvBs_ok xs h3
        exact ⟨.ref a, rfl, fun F φ => .kt ⟨_, its, n, e1, rfl, rfl, by rw [sizeLine_eq]; omega, g1⟩ (g2 F φ)⟩
      · cases h
    · cases h
theorem cvBs_ok {K : PySem.W.Frag} : ∀ (xs : List Cv) {us : List Value}, cvBs K xs us = true → ∃ vs, Vals vs us ∧ ∀ F φ, Rs K F φ (Cv.ws xs) vs
  | [], us, h => by
    unfold cvBs at h
    cases us with
    | nil => exact ⟨[], .nil, fun _ _ => .nil⟩
    | cons _ _ => cases h
  | x :: xs, us, h => by
    unfold cvBs at h
    split at h
    · rename_i v vs
      simp only [Bool.and_eq_true] at h
      obtain ⟨v, g1, g2⟩ := cvB_ok x h.1
      obtain ⟨vs, g3, g4⟩ := cvBs_ok xs h.2
      exact ⟨v :: vs, .cons g1 g3, fun F φ => .cons (g2 F φ) (g4 F φ)⟩
    · cases h
end
/-- the module's name x stands for it -/
def conB (K : PySem.W.Frag) (x : Str) (c : Cv) : Bool := match PySem.W.nsIn K mainGlobals x with
  | some (some v) => cvB K c v
  | _ => false
structure ConD (K : PySem.W.Frag) (mg : Str → Option Value) (x : Str) (c : Cv) : Prop where
  ex : ∃ u v, mg x = some u ∧ RelV v u ∧ ∀ F φ, R K F φ c.w v
theorem conB_ok {K : PySem.W.Frag} {h : Heap} {mg : Str → Option Value} (X : K.In h) (G : h.Ns mainGlobals mg) {x : Str} {c : Cv} (e : conB K x c = true) : ConD K mg x c := by
  unfold conB at e
  split at e
  · rename_i u e1
    obtain ⟨v, h1, h2⟩ := cvB_ok c e
    exact ⟨u, v, PySem.W.mg_of X G e1, h1, h2⟩
  · cases e
theorem ie_con {X : Cx} {x : Str} {c : Cv} {pos : Pos} (D : ConD X.K X.mg x c) (hg : Gl X x) (hdb : (x == ("__debug__" : Str)) = false := by decide) : IE X (.Name x pos) (cK c.w) := by
  obtain ⟨u, v, h1, h2, h3⟩ := D.ex
  exact ie_k (pe_glob (v := v) hg h1 h2 (hd := hdb)) h3
/-! ### the head, with one more Bool -/
abbrev AlE : Type := He.AlD × Bool
def obsE (n : Nat) (fa : List He.Fa) (fn : List He.DefD) (ex : PySem.W.Frag → Bool) (g : Addr → Option Obj) : AlE := (He.obsDG n fa fn g, ex (He.frG g (He.asD g n)))
def hookE (n : Nat) (fa : List He.Fa) (fn : List He.DefD) (ex : PySem.W.Frag → Bool) : PySem.W.Hook where
  α := AlE
  obs := fun s => obsE n fa fn ex s.heap.get?
  val := fun _ => (He.valD fn, true)
  says := fun _ h => ∃ K : PySem.W.Frag, K.In h ∧ (He.SaysD fa fn K ∧ ex K = true)
  of := fun _ _ e => ⟨_, He.frG_in, congrArg Prod.fst e, congrArg Prod.snd e⟩
  keeps := fun _ _ _ ⟨K, hK, c⟩ k => ⟨K, PySem.W.Frag.In.keeps hK k, c⟩
theorem obsE_eq {n : Nat} {fa : List He.Fa} {fn : List He.DefD} {ex : PySem.W.Frag → Bool} {g : Addr → Option Obj} {s : Shared} (h : ∀ a, g a = s.heap.get? a) : obsE n fa fn ex g = (hookE n fa fn ex).obs s := by
  have e : g = s.heap.get? := funext h
  rw [e]; rfl
theorem u65 {A : Around} {k : Nat} (r : Room k A) : A.units + 65 < cLine := by have := r.un; omega
theorem len_add1 {g : AF} {n : Nat} (h : ∀ (ρ : Ro) (L : Lg) (ws : List W) (L' : Lg), g ρ L = some (ws, L') → ws.length = n) : ∀ (ρ : Ro) (L : Lg) (ws : List W) (L' : Lg), g ρ L = some (ws, L') → ws.length + 1 = n + 1 := fun ρ L ws L' e => by rw [h ρ L ws L' e]
/-! classes, by the Bool -/
def insB (K : PySem.W.Frag) (C : Addr) : Bool := decide (PySem.W.findIn K (.ref C) "__class__" = some (some (.builtin "object.__class__"))) && (decide (PySem.W.specialIn K (.builtin "object.__class__") "__get__" = some (some (.builtin "getset_descriptor.__get__"))) &&
  (decide (PySem.W.takesIn K (.builtin "object.__class__") = some true) && (decide (PySem.W.mroIn K C (.type "object") = some true) && decide (PySem.W.kitOne K (.ref C) (.ref C) = some true))))
theorem insB_ok {K : PySem.W.Frag} {C : Addr} (c : Cls K C) (h : insB K C = true) : InsC K C := by
  unfold insB at h
  simp only [Bool.and_eq_true, decide_eq_true_eq] at h
  exact ⟨c, h.1, h.2.1, h.2.2.1, h.2.2.2.1, h.2.2.2.2⟩
end Lf

set_option maxHeartbeats 4000000
/-! Lf, part M: the combinators on slots and things, as equations. -/
namespace Lf
open PySem PySem.Spec PyProof.Rows L2
@[simp] theorem e_cOpC (g : W → W → Option W) (fa : EF) (fo : OF) (ρ : Ro) (L : Lg) : cOpC g fa fo ρ L = (match fa ρ L with
  | none => none
  | some (x, L1) => match fo ρ L1 with
    | none => none
    | some (h, L2) => match cont ρ L2 h with
      | none => none
      | some y => match g x y with
        | none => none
        | some w => some (w, L2)) := id rfl
@[simp] theorem e_cJoin (fs : EF) (fo : OF) (ρ : Ro) (L : Lg) : cJoin fs fo ρ L = (match fs ρ L with
  | some (.str s, L1) => (match fo ρ L1 with
    | none => none
    | some (h, L2) => match cont ρ L2 h with
      | some (.lst ws) => (match strsW ws with
        | some ys => if (ys.map fun y => y.length).sum + ys.length * s.length ≤ 16777216 then some (.str (Txt.join s ys), L2) else none
        | none => none)
      | _ => none)
  | _ => none) := id rfl
@[simp] theorem e_cTupOf (fo : OF) (ρ : Ro) (L : Lg) : cTupOf fo ρ L = (match fo ρ L with
  | none => none
  | some (h, L1) => match cont ρ L1 h with
    | some (.lst ws) => some (.tup ws, L1)
    | _ => none) := id rfl
@[simp] theorem e_nSetI (f : OF) (ρ : Ro) (L : Lg) : nSetI f ρ L = (match f ρ L with
  | none => none
  | some (h, L1) => match cont ρ L1 h with
    | some (.lst ws) => (match intsW ws with
      | some ns => if ns.length < 64 then some (.lst ((setI ns).map W.int), L1) else none
      | none => none)
    | _ => none) := id rfl
@[simp] theorem e_cRaise  (z0 : Ro) (z1 : Lg) : cRaise  z0 z1 = (none) := id rfl
@[simp] theorem e_sStr (f : EF) (ρ : Ro) (L : Lg) : sStr f ρ L = (match f ρ L with
  | some (.str s, L') => some (signsW s, L')
  | _ => none) := id rfl
@[simp] theorem e_cS1 (g : Str → Str → W) (fs ft : EF) (ρ : Ro) (L : Lg) : cS1 g fs ft ρ L = (match fs ρ L with
  | some (.str s, L1) => (match ft ρ L1 with
    | some (.str t, L2) => some (g s t, L2)
    | _ => none)
  | _ => none) := id rfl
@[simp] theorem e_nSplit (fs ft : EF) (ρ : Ro) (L : Lg) : nSplit fs ft ρ L = (match fs ρ L with
  | some (.str s, L1) => (match ft ρ L1 with
    | some (.str t, L2) => if (t.length == 0) = false ∧ s.length ≤ 1000000 then some (.lst ((Txt.split s t).map W.str), L2) else none
    | _ => none)
  | _ => none) := id rfl
@[simp] theorem e_nRev (fo : OF) (ρ : Ro) (L : Lg) : nRev fo ρ L = (match fo ρ L with
  | none => none
  | some (h, L1) => match cont ρ L1 h with
    | some (.lst ws) => some (.lst ws.reverse, L1)
    | _ => none) := id rfl
@[simp] theorem e_cAppB (fo : EF) (f : EF) (ρ : Ro) (L : Lg) : cAppB fo f ρ L = (match fo ρ L with
  | some (.ob j, L0) => (match L0[j]? with
    | some (.box (.lst _)) => (match f ρ L0 with
      | none => none
      | some (w, L1) => match L1[j]? with
        | some (.box (.lst ws)) => if ws.length < 16777216 then some (.nx ρ (L1.set j (.box (.lst (ws ++ [w]))))) else none
        | _ => none)
    | _ => none)
  | _ => none) := id rfl
@[simp] theorem e_cIns (i : Nat) (g : AF) (ρ : Ro) (L : Lg) : cIns i g ρ L = (match g ρ L with
  | some ([.int k, w], L1) => (match ρ[i]? with
    | some (.ow (.lst ws)) => if ws.length < 16777216 ∧ 0 ≤ k ∧ k < 9223372036854775808 then some (.nx (ρ.set i (.ow (.lst (ws.take k.toNat ++ [w] ++ ws.drop k.toNat)))) L1) else none
    | _ => none)
  | _ => none) := id rfl
@[simp] theorem e_cEqO (c : Str) (d : DF) (fa fb : EF) (ρ : Ro) (L : Lg) : cEqO c d fa fb ρ L = (match fa ρ L with
  | some (.ob i, L1) => (match fb ρ L1 with
    | none => none
    | some (y, L2) => match L2[i]? with
      | some (.ins c' _) => if c' = c ∧ okArg c L2 y = true then (match d [.ob i, y] L2 with
        | some (.bl k, L3) => some (.bl k, L3)
        | _ => none) else none
      | _ => none)
  | _ => none) := id rfl
@[simp] theorem e_cIsC (c : Str) (fa : EF) (ρ : Ro) (L : Lg) : cIsC c fa ρ L = (match fa ρ L with
  | some (.ob j, L1) => (match L1[j]? with
    | some (.ins c' _) => if c' = c then some (.bl true, L1) else none
    | _ => none)
  | some (.str _, L1) => some (.bl false, L1)
  | some (.tup _, L1) => some (.bl false, L1)
  | _ => none) := id rfl
@[simp] theorem strW_i (i : Int) : strW [.int i] = if i.natAbs < 18446744073709551616 then some (.str (toString i)) else none := id rfl
@[simp] theorem intSW_s (s : Str) : intSW [.str s] = (match PySem.intText? s with
  | some n => if s.length ≤ 640 then some (.int n) else none
  | none => none) := id rfl
@[simp] theorem inSW_s (neg : Bool) (a z : Str) : inSW neg (.str a) (.str z) = (match a.cps.toList with
  | [c] => some (.bl (if neg then !decide (c ∈ z.cps.toList) else decide (c ∈ z.cps.toList)))
  | _ => none) := id rfl
@[simp] theorem inW_il (neg : Bool) (i : Int) (ns : List Int) : inW neg (.int i) (.lst (ns.map W.int)) = some (.bl (if neg then !decide (i ∈ ns) else decide (i ∈ ns))) := by
  simp only [inW, memW, intsW_map]
@[simp] theorem inW_it (neg : Bool) (i : Int) (ns : List Int) : inW neg (.int i) (.tup (ns.map W.int)) = some (.bl (if neg then !decide (i ∈ ns) else decide (i ∈ ns))) := by
  simp only [inW, intsW_map]
@[simp] theorem okArg_s (c : Str) (L : Lg) (s : Str) : okArg c L (.str s) = true := id rfl
@[simp] theorem okArg_t (c : Str) (L : Lg) (s : List W) : okArg c L (.tup s) = true := id rfl
@[simp] theorem okArg_o (c : Str) (L : Lg) (j : Nat) : okArg c L (.ob j) = (match L[j]? with
  | some (.ins c' _) => decide (c' = c)
  | _ => false) := id rfl
@[simp] theorem isiW_boolb (b : Bool) : isiW "bool" [.bl b, .ty "bool"] = some (.bl true) := by
  simp only [isiW, tyName, if_pos]; rfl
@[simp] theorem eqW_b (a b : Bool) : eqW (.bl a) (.bl b) = some (.bl (decide (a = b))) := id rfl
@[simp] theorem neW_b (a b : Bool) : neW (.bl a) (.bl b) = some (.bl (!decide (a = b))) := id rfl
@[simp] theorem eqW_s (a b : Str) : eqW (.str a) (.str b) = some (.bl (decide (a = b))) := id rfl
@[simp] theorem neW_s (a b : Str) : neW (.str a) (.str b) = some (.bl (!decide (a = b))) := id rfl
@[simp] theorem shlW_i (i j : Int) : shlW (.int i) (.int j) = if 0 ≤ j ∧ j ≤ 1000000 ∧ i.natAbs < 18446744073709551616 then some (.int (i * 2 ^ j.toNat)) else none := id rfl
@[simp] theorem cont_ob (ρ : Ro) (L : Lg) (j : Nat) : cont ρ L (.val (.ob j)) = (match L[j]? with
  | some (.box m) => some m.fz
  | _ => none) := id rfl
@[simp] theorem truW_str (s : Str) : truW (.str s) = if s.length ≤ 16777216 then some ((s.length : Int) != 0) else none := id rfl
/-- tuples of ints compared -/
theorem toDs_ints : ∀ ns : List Int, toDs (ns.map W.int) = some (ns.map PyData.int)
  | [] => rfl
  | n :: r => by rw [List.map_cons]; simp only [toDs, toD, toDs_ints r]; rfl
theorem eqvAll_ints : ∀ ns ms : List Int, PyData.eqvAll (ns.map PyData.int) (ms.map PyData.int) = decide (ns = ms)
  | [], [] => by simp [PyData.eqvAll]
  | [], _ :: _ => by simp [PyData.eqvAll]
  | _ :: _, [] => by simp [PyData.eqvAll]
  | n :: r, m :: t => by
    simp only [List.map_cons, PyData.eqvAll, PyData.eqv, eqvAll_ints r t]
    rw [Bool.eq_iff_iff]
    simp
theorem canLay_ints : ∀ ns : List Int, PyData.canLayAll0 (ns.map PyData.int) = true
  | [] => rfl
  | n :: r => by simp [PyData.canLayAll0, PyData.canLay0, canLay_ints r]
theorem depthAll_ints : ∀ ns : List Int, PyData.depthAll (ns.map PyData.int) = 0
  | [] => by simp [PyData.depthAll]
  | n :: r => by simp [PyData.depthAll, PyData.depth, depthAll_ints r]
theorem shaped_tints (ns : List Int) : SeqAt.shaped (.tuple (ns.map PyData.int)) = true := by
  unfold SeqAt.shaped
  rw [Bool.and_eq_true, decide_eq_true_eq]
  exact ⟨by simp [PyData.canLay0, canLay_ints], by simp [PyData.depth, depthAll_ints]⟩
theorem shaped_lints (ns : List Int) : SeqAt.shaped (.list (ns.map PyData.int)) = true := by
  unfold SeqAt.shaped
  rw [Bool.and_eq_true, decide_eq_true_eq]
  exact ⟨by simp [PyData.canLay0, canLay_ints], by simp [PyData.depth, depthAll_ints]⟩
theorem eqB_tints (ns ms : List Int) : eqB (.tup (ns.map W.int)) (.tup (ms.map W.int)) = some (decide (ns = ms)) := by
  show eqD _ _ = _
  unfold eqD
  simp only [toD, toDs_ints, shaped_tints, and_self, if_true, PyData.eqv, eqvAll_ints]
@[simp] theorem eqW_tints (ns ms : List Int) : eqW (.tup (ns.map W.int)) (.tup (ms.map W.int)) = some (.bl (decide (ns = ms))) := by unfold eqW; rw [eqB_tints]
@[simp] theorem neW_tints (ns ms : List Int) : neW (.tup (ns.map W.int)) (.tup (ms.map W.int)) = some (.bl (!decide (ns = ms))) := by unfold neW; rw [eqB_tints]
/-- a pair of lists of ints compared -/
theorem eqB_plints (a b c d : List Int) : eqB (.tup [.lst (a.map W.int), .lst (b.map W.int)]) (.tup [.lst (c.map W.int), .lst (d.map W.int)]) = some (decide (a = c ∧ b = d)) := by
  show eqD _ _ = _
  unfold eqD
  have sh : ∀ x y : List Int, SeqAt.shaped (.tuple [.list (x.map PyData.int), .list (y.map PyData.int)]) = true := fun x y => by
    unfold SeqAt.shaped
    rw [Bool.and_eq_true, decide_eq_true_eq]
    exact ⟨by simp [PyData.canLay0, PyData.canLayAll0, canLay_ints], by simp [PyData.depth, PyData.depthAll, depthAll_ints]⟩
  simp only [toD, toDs, toDs_ints, sh, and_self, if_true, PyData.eqv, PyData.eqvAll, eqvAll_ints, Bool.and_true, Option.some.injEq]
  rw [Bool.eq_iff_iff]; simp
theorem eqW_plints (a b c d : List Int) : eqW (.tup [.lst (a.map W.int), .lst (b.map W.int)]) (.tup [.lst (c.map W.int), .lst (d.map W.int)]) = some (.bl (decide (a = c ∧ b = d))) := by unfold eqW; rw [eqB_plints]
theorem lc_filter {α : Type} (f : α → W) (p : α → Bool) (h : α → W) {g : GF} {tt : TF} {te : EF} {ρ : Ro} {L : Lg} : ∀ {xs : List α}, (∀ x ∈ xs, ∃ ρ1, g (f x) ρ = some ρ1 ∧ tt ρ1 L = some (p x, L) ∧ (p x = true → te ρ1 L = some (h x, L))) → lcLoop g tt te ρ (xs.map f) L = some ((xs.filter p).map h, L)
  | [], _ => rfl
  | x :: xs, H => by
    obtain ⟨ρ1, h1, h2, h3⟩ := H x List.mem_cons_self
    have ih := lc_filter f p h (xs := xs) fun y hy => H y (List.mem_cons_of_mem _ hy)
    rw [List.map_cons]
    cases e : p x with
    | true =>
      rw [e] at h2
      simp only [lcLoop, h1, h2, h3 e, ih, List.filter_cons, e, if_true, List.map_cons]
    | false =>
      rw [e] at h2
      simp only [lcLoop, h1, h2, ih, List.filter_cons, e, Bool.false_eq_true, if_false]
theorem seq_none {f g : SF} {ρ : Ro} {L : Lg} (h : f ρ L = none) : cSeq f g ρ L = none := by rw [e_cSeq, h]
end Lf

set_option maxHeartbeats 4000000
/-! Lf, part N: texts as lists of signs. -/
namespace Lf
open PySem PySem.Spec PyProof.Rows L2
def mk (l : List Nat) : Str := ⟨l.toArray⟩
@[simp] theorem mk_len (l : List Nat) : (mk l).length = l.length := by unfold mk Str.length; simp
@[simp] theorem mk_cps (l : List Nat) : (mk l).cps.toList = l := by unfold mk; simp
theorem mk_app (a b : List Nat) : mk a ++ mk b = mk (a ++ b) := by
  show Str.append (mk a) (mk b) = _
  unfold mk Str.append
  simp
theorem mk_inj {a b : List Nat} (h : mk a = mk b) : a = b := by rw [← mk_cps a, h, mk_cps]
theorem mk_of (s : Str) : mk s.cps.toList = s := by cases s with | mk c => unfold mk; simp
@[simp] theorem mk_eq {a b : List Nat} : (mk a = mk b) ↔ a = b := ⟨mk_inj, fun h => by rw [h]⟩
theorem mk_one (c : Nat) : mk [c] = ⟨#[c]⟩ := rfl
theorem signs_mk (l : List Nat) : signsW (mk l) = l.map fun c => W.str (mk [c]) := by unfold signsW; rw [mk_cps]; rfl
theorem cutS_tail (c : Nat) (l : List Nat) : cutS (mk (c :: l)) (some 1) none = mk l := by
  unfold cutS
  rw [mk_len, mk_cps]
  have h1 : HT.sIx (c :: l).length 0 (some 1) = 1 := by
    have := HT.sIx_nat (c :: l).length 0 1
    simp at this ⊢
    rw [this]
  rw [h1, HT.sIx_none]
  simp [mk]
theorem starts_one (c : Nat) (l : List Nat) : Txt.startswith (mk (c :: l)) (mk [c]) = true := by
  unfold Txt.startswith
  rw [Bool.and_eq_true, decide_eq_true_eq]
  refine ⟨by rw [mk_len, mk_len]; simp, ?_⟩
  unfold Builtin.Str.subAt
  rw [mk_len, beq_iff_eq]
  apply Array.toList_inj.mp
  simp [mk]
@[simp] theorem slW_s (s : Str) (l u : Option Int) : slW (.str s) l u = if s.length ≤ 16777216 then some (.str (cutS s l u)) else none := id rfl
/-- one separator: two parts -/
theorem cut_uniq {x : Nat} : ∀ {a b c d : List Nat}, a ++ x :: b = c ++ x :: d → x ∉ a → x ∉ c → a = c ∧ b = d
  | [], b, [], d, h, _, _ => by simp at h; exact ⟨rfl, h⟩
  | [], b, y :: c, d, h, _, h2 => by
    simp at h
    exact absurd (by rw [h.1]; exact List.mem_cons_self) h2
  | y :: a, b, [], d, h, h1, _ => by
    simp at h
    exact absurd (by rw [h.1]; exact List.mem_cons_self) h1
  | y :: a, b, z :: c, d, h, h1, h2 => by
    simp only [List.cons_append, List.cons.injEq] at h
    obtain ⟨e1, e2⟩ := cut_uniq h.2 (fun m => h1 (List.mem_cons_of_mem _ m)) fun m => h2 (List.mem_cons_of_mem _ m)
    exact ⟨by rw [h.1, e1], e2⟩
theorem split_two {x : Nat} {a b : List Nat} (ha : x ∉ a) (hb : x ∉ b) : Txt.split (mk (a ++ x :: b)) (mk [x]) = [mk a, mk b] := by
  have l1 := split_len (mk (a ++ x :: b)) x
  rw [mk_cps, cnt_append, cnt_cons, cnt_none x a ha, cnt_none x b hb, if_pos rfl] at l1
  have f := StrLaws.split_free (mk (a ++ x :: b)) x
  have j := StrLaws.join_split (mk (a ++ x :: b)) (mk [x])
  rw [mk_one] at j ⊢
  generalize Txt.split (mk (a ++ x :: b)) ⟨#[x]⟩ = ps at l1 f j
  match ps, l1 with
  | [p, q], _ =>
    have fp := f p (by simp)
    have j' : p ++ mk [x] ++ q = mk (a ++ x :: b) := j
    rw [← mk_of p, ← mk_of q, mk_app, mk_app] at j'
    have j2 := mk_inj j'
    simp only [List.append_assoc, List.singleton_append] at j2
    obtain ⟨e1, e2⟩ := cut_uniq j2 fp ha
    rw [← mk_of p, ← mk_of q, e1, e2]
  | [], h => exact absurd h (by simp; try omega)
  | [_], h => exact absurd h (by simp; try omega)
  | _ :: _ :: _ :: _, h => exact absurd h (by simp; try omega)
/-- signs joined -/
theorem join_mk (l : List Nat) : Txt.join (mk []) (l.map fun c => mk [c]) = mk l := by
  have := PyProof.Rows.join_ones l
  unfold Txt.join
  rw [StrLaws.glued_eq_join]
  exact this
theorem sum_ones (l : List Nat) : ((l.map fun c => mk [c]).map fun y => y.length).sum = l.length := by
  induction l with
  | nil => rfl
  | cons c r ih =>
    simp only [List.map_cons, List.sum_cons, ih, mk_len, List.length_cons, List.length_nil]
    omega
theorem atI_end {α : Type} (xs : List α) (x : α) : atI (xs ++ [x]) (-1) = some x := by
  unfold atI ixN
  simp
  rw [if_pos (by omega)]
  show (xs ++ [x])[(-1 + ((xs.length : Int) + 1)).toNat]? = some x
  rw [show (-1 + ((xs.length : Int) + 1)).toNat = xs.length by omega]
  simp
end Lf

set_option maxHeartbeats 4000000
/-! Lf, part O: enumerate of a list, of a text. -/
namespace L2
open PySem PySem.Spec PyProof.Rows
/-- enumerate(a text): each sign in a new pair -/
def ItS (x : Str) : It := ⟨fun i _ => i < x.cps.size, fun i H v H' => ∃ T c, v = .ref T ∧ H T = none ∧ H' = upd H T (.tup [.int (i : Nat), .str ⟨#[c]⟩]) ∧ x.cps[i]? = some c, fun i _ => x.cps.size ≤ i⟩
def EnS (e it : Addr) (ty : String) (x : Str) (t : Tok) (i : Nat) (h : Heap) : Prop := (∃ old, IsEnum h e it ((i : Nat) : Int) old) ∧ h.IsStrIter it ty x t i ∧ e ≠ it ∧ i ≤ x.cps.size
theorem turn_enS {P : Program} {w : World} {K : PySem.W.Frag} {elts : List Expr} {kk : Nat} {tp : Pos} (e it : Addr) (x : Str) (t : Tok) (ty : String) (hty : ty = "str_ascii_iterator" ∨ ty = "str_iterator") :
    Turn P w K (.Tuple elts kk tp) (ItS x) [e, it] e (EnS e it ty x t) where
  mem := by simp
  obj := fun i h st b hb => by
    obtain ⟨⟨old, g⟩, ⟨o, g1, g2, g3⟩, _⟩ := st
    rcases (show b = e ∨ b = it by simpa using hb) with rfl | rfl
    · exact ⟨_, g, fun v q => nomatch q⟩
    · exact ⟨o, g1, fun v q => by rw [g3] at q; cases q⟩
  keep := fun i h h' st k => by
    obtain ⟨⟨old, g⟩, ⟨o, g1, r⟩, n, l⟩ := st
    exact ⟨⟨old, k e (by simp) _ g⟩, ⟨o, k it (by simp) o g1, r⟩, n, l⟩
  item := by
    intro X hP hw hK hc i pins s σ H E I hf st go
    subst hP hw hK
    obtain ⟨⟨old, g⟩, gi, hne, _⟩ := st
    have go' : i < x.cps.size := go
    have h1 : X.A.in1.handled = none := by have := I.ok.hd hc; simp [this]
    have D : Draws X.prog X.w X.A.in1 it [it] x.cps.size (fun i v => ∃ c u, x.cps[i]? = some c ∧ v = .str ⟨#[c]⟩ u) (fun i h => h.IsStrIter it ty x t i) := by
      rcases hty with z | z
      · rw [z]; exact Draws.strAscii h1 it x t
      · rw [z]; exact Draws.strWide h1 it x t
    have le : e < s.heap.objs.size := Heap.lt_size g
    have li : it < s.heap.objs.size := by obtain ⟨_, q, _⟩ := gi; exact Heap.lt_size q
    refine wpAny_pyNext_enum_itemD D g gi go' hne (by simp [hne]) fun v h' tk pv ho gi' hT hsz hk => ?_
    obtain ⟨c, u, hcx, rfl⟩ := pv
    refine ⟨_, rfl, wpAny_letOwnedTupleGo_enum (s := { s with heap := h', toks := tk + 1 }) ho fun h2 g' sb => ?_⟩
    have T2 : h2.get? s.heap.objs.size = some { cls := .type "tuple", data := .seq #[.int i tk, .str ⟨#[c]⟩ u] } := (sb.2 _ (Nat.ne_of_gt le)).trans hT
    have new : ObjOk X.prog X.w (upd H s.heap.objs.size (.tup [.int (i : Nat), .str ⟨#[c]⟩])) h2 s.heap.objs.size (.tup [.int (i : Nat), .str ⟨#[c]⟩]) :=
      ⟨by show 2 ≤ sizeLine; decide, [.int i tk, .str ⟨#[c]⟩ u], .cons ⟨_, rfl⟩ (.cons ⟨_, rfl⟩ .nil), ⟨_, T2, rfl, _, rfl⟩⟩
    have J : Inv X pins σ (upd H s.heap.objs.size (.tup [.int (i : Nat), .str ⟨#[c]⟩])) { s with heap := h2, toks := tk + 1 } :=
      I.turnedNew (ch := [e, it]) (fun b ob hb q => (sb.2 b (fun z => hb (by simp [z]))).trans (hk b ob (fun z => hb (by simp [z])) (fun z => hb (by simp [z])) q)) hf (Nat.le_refl _) new
    refine ⟨.ref s.heap.objs.size, _, J, rfl, ⟨_, c, rfl, I.hok.fresh (Nat.le_refl _), rfl, hcx⟩, ⟨⟨.str ⟨#[c]⟩ u, ?_⟩, ?_, hne, go'⟩, fun b hb => ?_⟩
    · rw [show ((i + 1 : Nat) : Int) = (i : Int) + 1 by omega]; exact g'
    · obtain ⟨o, q, r⟩ := gi'
      exact ⟨o, (sb.2 it (Ne.symm hne)).trans q, r⟩
    · have lb : b < s.heap.objs.size := by
        rcases (show b = e ∨ b = it by simpa using hb) with rfl | rfl
        · exact le
        · exact li
      rw [upd_ne (Nat.ne_of_lt lb)]
      exact (hf b hb).1
  done := by
    intro X hP hw hK hc i pins s σ H E I hf st go
    subst hP hw hK
    obtain ⟨⟨old, g⟩, gi, hne, hle⟩ := st
    have go' : x.cps.size ≤ i := go
    have ei : i = x.cps.size := Nat.le_antisymm hle go'
    have h1 : X.A.in1.handled = none := by have := I.ok.hd hc; simp [this]
    have D : Draws X.prog X.w X.A.in1 it [it] x.cps.size (fun i v => ∃ c u, x.cps[i]? = some c ∧ v = .str ⟨#[c]⟩ u) (fun i h => h.IsStrIter it ty x t i) := by
      rcases hty with z | z
      · rw [z]; exact Draws.strAscii h1 it x t
      · rw [z]; exact Draws.strWide h1 it x t
    obtain ⟨f0, f1, f2, f3, f4, f5⟩ := hf it (by simp)
    exact wpAny_pyNext_enum_endD D g (ei ▸ gi) fun h' eb => ⟨rfl, I.turned (t' := s.toks) (fun b o hb q => eb b o hb q) f0 f1 f3 f4 f5⟩
  self := fun A i s Q E st h => by
    obtain ⟨⟨_, g⟩, _⟩ := st
    exact wpAny_pyIter_enum g h
def iEnS (ta : TA) : TI := fun σ H R => ta σ H fun vs H1 => ∃ x, vs = [.str x] ∧ R (ItS x) H1
theorem pi_enS {X : Cx} {e : Expr} {ta : TA} {p pos tp : Pos} {elts : List Expr} {kk : Nat} (hg : Gl X "enumerate") (hm : X.mg "enumerate" = none) (ha : PA X [e] ta) (hs : starEach [e] X.env = [(false, eval e X.env)] := by rfl) :
    PI X (.Tuple elts kk tp) (.Call (.Name "enumerate" p) [e] [] pos) (iEnS ta) := by
  refine ⟨fun pins s σ H R I h => ?_⟩
  refine Call_ (ld_blt I hg hm boot_enumerate (PyProof.Rows.callWith_type1 (thn (ha.run pos pins s σ H _ I h) fun us s1 ⟨vs, H1, I1, r1, q1⟩ => ?_) hs rfl))
  obtain ⟨x, rfl, q⟩ := q1
  cases r1 with
  | cons r rr =>
    cases rr
    obtain ⟨t, rfl⟩ := r
    have two : strIterType x = "str_ascii_iterator" ∨ strIterType x = "str_iterator" := by
      unfold strIterType
      split
      · exact .inl rfl
      · exact .inr rfl
    refine call_enumerate_str fun h' g gi hz hk => wpAny_pyIter_enum g ?_
    have J : Inv X pins σ H1 { s1 with heap := h' } := I1.kept (t' := s1.toks) hk
    refine ⟨s1.heap.objs.size + 1, [s1.heap.objs.size + 1, s1.heap.objs.size], _, _, H1, rfl, J, turn_enS (s1.heap.objs.size + 1) s1.heap.objs.size x t _ two, ⟨⟨.none, g⟩, gi, Nat.succ_ne_self _, Nat.zero_le _⟩, fun b hb => ?_, q⟩
    have le : s1.heap.objs.size ≤ b := by
      rcases (show b = s1.heap.objs.size + 1 ∨ b = s1.heap.objs.size by simpa using hb) with rfl | rfl
      · exact Nat.le_add_right _ _
      · exact Nat.le_refl _
    exact I1.fpOk le (I1.hok.fresh le)
end L2
namespace Lf
open PySem PySem.Spec PyProof.Rows L2
section
variable {X : Cx} {e : Expr} {pos : Pos}
def pairsW (xs : List W) : List W := xs.mapIdx fun i x => .tup [.int (i : Nat), x]
theorem pairsW_at {xs : List W} {i : Nat} {y : W} (h : (pairsW xs)[i]? = some y) : ∃ x, xs[i]? = some x ∧ y = .tup [.int (i : Nat), x] := by
  unfold pairsW at h
  rw [List.getElem?_mapIdx] at h
  cases q : xs[i]? with
  | none => rw [q] at h; cases h
  | some x => rw [q] at h; cases h; exact ⟨x, rfl, rfl⟩
theorem itok_en {K : PySem.W.Frag} {mg : Str → Option Value} {F : Hp} {φ : List Addr} {a : Addr} {xs : List W} {vs : List V} (h : F a = some (.lst vs)) (r : Rs K F φ xs vs) : ItOk K mg F φ (Ite K a) (pairsW xs) := by
  intro Z F1 φ1 L1 H1 i s p hs
  have hq : SqL K H1 a vs := SqL.of (hs.sub _ _ (s _ _ h))
  refine ⟨fun y hy => ?_, fun hl => ⟨vs, hq, by rw [← r.length]; unfold pairsW at hl; simpa using hl⟩⟩
  obtain ⟨x, hx, rfl⟩ := pairsW_at hy
  obtain ⟨v, h1, h2⟩ := r.get hx
  refine ⟨⟨vs, v, hq, h1⟩, fun u H2 z => ?_⟩
  obtain ⟨T, v', rfl, hT, rfl, hv⟩ := z
  have := hv vs hq
  rw [h1] at this; cases this
  obtain ⟨k1, k2⟩ := hs.fresh_frozen (o := .tup [.int (i : Nat), v]) hT
  exact ⟨_, k2, k1, .tup upd_same (.cons (.int _) (.cons ((h2.mono s p).mono k2 (List.prefix_refl φ1)) .nil))⟩
theorem itok_enS {K : PySem.W.Frag} {mg : Str → Option Value} {F : Hp} {φ : List Addr} (s : Str) : ItOk K mg F φ (ItS s) (pairsW (signsW s)) := by
  intro Z F1 φ1 L1 H1 i sb p hs
  refine ⟨fun y hy => ?_, fun hl => by
    show s.cps.size ≤ i
    unfold pairsW signsW at hl
    simpa using hl⟩
  obtain ⟨x, hx, rfl⟩ := pairsW_at hy
  unfold signsW at hx
  rw [List.getElem?_map] at hx
  cases q : s.cps.toList[i]? with
  | none => rw [q] at hx; cases hx
  | some c =>
    rw [q] at hx
    cases hx
    have q' : s.cps[i]? = some c := by rw [← Array.getElem?_toList]; exact q
    refine ⟨(Array.getElem?_eq_some_iff.mp q').1, fun v H2 z => ?_⟩
    obtain ⟨T, c', rfl, hT, rfl, hc⟩ := z
    rw [q'] at hc; cases hc
    obtain ⟨k1, k2⟩ := hs.fresh_frozen (o := .tup [.int (i : Nat), .str ⟨#[c]⟩]) hT
    exact ⟨_, k2, k1, .tup upd_same (.cons (.int _) (.cons (.str _) .nil))⟩
def sEn (f : EF) : AF := fun ρ L => match f ρ L with
  | some (.lst xs, L') => some (pairsW xs, L')
  | _ => none
def sEnS (f : EF) : AF := fun ρ L => match f ρ L with
  | some (.str s, L') => some (pairsW (signsW s), L')
  | _ => none
theorem ii_enum {f : EF} {elts : List Expr} {kk : Nat} {tp p : Pos} (hg : Gl X "enumerate") (hm : X.mg "enumerate" = none) (h : IE X e f) (hs0 : starEach [e] X.env = (false, eval e X.env) :: starEach [] X.env := by rfl) (hs9 : starEach [e] X.env = [(false, eval e X.env)] := by rfl) : II X (.Tuple elts kk tp) (.Call (.Name "enumerate" p) [e] [] pos) (sEn f) := by
  refine ⟨fun {Zx Z F φ L ρ σ H xs L'} hs ss h' Q q => PI.wp (pi_enum hg hm (pa_cons wpE pa_nil hs0) hs9) ?_⟩
  unfold sEn at h'
  split at h'
  · rename_i ys L2 e1
    simp only [Option.some.injEq, Prod.mk.injEq] at h'
    obtain ⟨rfl, rfl⟩ := h'
    refine h.run hs ss e1 _ fun F1 φ1 H1 v s1 p1 hs1 r1 => ?_
    cases r1 with
    | lst g1 g2 => exact ⟨_, _, rfl, SqL.of (hs1.sub _ _ g1), q F1 φ1 H1 _ s1 p1 hs1 (itok_en g1 g2)⟩
  · cases h'
theorem ii_enumS {f : EF} {elts : List Expr} {kk : Nat} {tp p : Pos} (hg : Gl X "enumerate") (hm : X.mg "enumerate" = none) (h : IE X e f) (hs0 : starEach [e] X.env = (false, eval e X.env) :: starEach [] X.env := by rfl) (hs9 : starEach [e] X.env = [(false, eval e X.env)] := by rfl) : II X (.Tuple elts kk tp) (.Call (.Name "enumerate" p) [e] [] pos) (sEnS f) := by
  refine ⟨fun {Zx Z F φ L ρ σ H xs L'} hs ss h' Q q => PI.wp (pi_enS hg hm (pa_cons wpE pa_nil hs0) hs9) ?_⟩
  unfold sEnS at h'
  split at h'
  · rename_i s L2 e1
    simp only [Option.some.injEq, Prod.mk.injEq] at h'
    obtain ⟨rfl, rfl⟩ := h'
    refine h.run hs ss e1 _ fun F1 φ1 H1 v s1 p1 hs1 r1 => ?_
    cases r1
    exact ⟨s, rfl, q F1 φ1 H1 _ s1 p1 hs1 (itok_enS s)⟩
  · cases h'
end
end Lf

set_option maxHeartbeats 4000000
/-! Lf, part P: boxes made of a name's own thing, boxes frozen, dicts in boxes changed. -/
namespace Lf
open PySem PySem.Spec PyProof.Rows L2
section
variable {K : PySem.W.Frag} {mg : Str → Option Value} {Zx Z F : Hp} {φ : List Addr} {L : Lg} {H : Hp} {ρ : Ro} {σ : L2.St}
/-- a slot's own thing becomes a box -/
theorem Ss.boxed {i : Nat} {m : M} (hs : Hs K mg Z F φ L H) (h : Ss K Zx Z F φ ρ σ) (e : ρ[i]? = some (.ow m)) :
    ∃ Z' p, Hs K mg Z' F (φ ++ [p]) (L ++ [.box m]) H ∧ Ss K Zx Z' F (φ ++ [p]) (ρ.set i (.va (.ob L.length))) σ := by
  have hi : i < ρ.length := (List.getElem?_eq_some_iff.mp e).1
  obtain ⟨p, o, h1, h2, h3, h4⟩ := h.ow i m e
  let Z' : Hp := fun b => if b = p then none else Z b
  have zp : Z' p = none := by show (if p = p then none else Z p) = none; rw [if_pos rfl]
  have zn : ∀ b, b ≠ p → Z' b = Z b := fun b q => by show (if b = p then none else Z b) = Z b; rw [if_neg q]
  have hz : Z = upd Z' p o := by
    funext b
    by_cases q : b = p
    · subst q; rw [upd_same]; exact h2
    · rw [upd_ne q, zn b q]
  have hs' : Hs K mg (upd Z' p o) F φ L H := by rw [← hz]; exact hs
  have pf : φ <+: φ ++ [p] := List.prefix_append _ _
  refine ⟨Z', p, hs'.box zp h4, ?_⟩
  have at' : (φ ++ [p])[L.length]? = some p := by rw [← hs.len, List.getElem?_append_right (Nat.le_refl _)]; simp
  refine ⟨by simp [h.len], fun j w' e' => ?_, fun j m2 e' => ?_, fun j k m1 m2 a e1 e2 e3 e4 => ?_, fun a u e' => ?_⟩
  · by_cases q : i = j
    · subst q; rw [List.getElem?_set_self hi] at e'; cases e'
      exact ⟨_, h1, .ob at'⟩
    · rw [List.getElem?_set_ne q] at e'
      obtain ⟨v, g1, g2⟩ := h.va j w' e'
      exact ⟨v, g1, g2.mono (Sub.refl F) pf⟩
  · by_cases q : i = j
    · subst q; rw [List.getElem?_set_self hi] at e'; cases e'
    · rw [List.getElem?_set_ne q] at e'
      obtain ⟨b, u', g1, g2, g3, g4⟩ := h.ow j m2 e'
      have : b ≠ p := fun z => by subst z; exact q (h.sep i j m m2 _ e e' h1 g1)
      exact ⟨b, u', g1, by rw [zn b this]; exact g2, g3, g4.mono (Sub.refl F) pf⟩
  · by_cases q : i = j
    · subst q; rw [List.getElem?_set_self hi] at e1; cases e1
    · by_cases q' : i = k
      · subst q'; rw [List.getElem?_set_self hi] at e2; cases e2
      · rw [List.getElem?_set_ne q] at e1
        rw [List.getElem?_set_ne q'] at e2
        exact h.sep j k m1 m2 a e1 e2 e3 e4
  · rw [zn a (fun z => by subst z; rw [h3] at e'; cases e')]; exact h.out a u e'
/-- a box is frozen -/
theorem Hs.frzB {j : Nat} {a : Addr} {m : M} (h : Hs K mg Z F φ L H) (hL : L[j]? = some (.box m)) (ha : φ[j]? = some a) : ∃ F', Sub F F' ∧ Hs K mg Z F' φ (L.set j .dead) H ∧ R K F' φ m.fz (.ref a) := by
  obtain ⟨nF, o, hH, mk⟩ := h.objs _ _ _ hL ha
  have am : a ∈ φ := List.mem_of_getElem? ha
  have sb : Sub F (upd F a o) := Sub.new nF
  refine ⟨upd F a o, sb, ⟨fun b u e => ?_, fun b u e => ?_, by rw [List.length_set]; exact h.len, h.nd, h.has, fun i u b e1 e2 => ?_⟩, (mk.mono sb (List.prefix_refl φ)).fz upd_same⟩
  · by_cases q : b = a
    · subst q; rw [upd_same] at e; cases e; exact hH
    · rw [upd_ne q] at e; exact h.sub b u e
  · obtain ⟨g1, g2, g3, g4⟩ := h.ext b u e
    have q : b ≠ a := fun q => g3 (q ▸ am)
    exact ⟨g1, by rw [upd_ne q]; exact g2, g3, g4⟩
  · by_cases q : j = i
    · subst q
      rw [List.getElem?_set_self (List.getElem?_eq_some_iff.mp hL).1] at e1
      cases e1
      exact True.intro
    · rw [List.getElem?_set_ne q] at e1
      have qb : b ≠ a := fun z => by
        subst z
        exact q ((List.getElem?_inj (List.getElem?_eq_some_iff.mp ha).1 h.nd).mp (ha.trans e2.symm))
      exact (h.objs i u b e1 e2).mono sb (List.prefix_refl φ) (fun z => by rw [upd_ne qb]; exact z) fun u e => e
/-- the same object, better known -/
theorem Ss.reva {i : Nat} {w : W} {v : V} (h : Ss K Zx Z F φ ρ σ) (hi : ∃ w0, ρ[i]? = some (.va w0)) (hv : σ[i]? = some (some v)) (r : R K F φ w v) : Ss K Zx Z F φ (ρ.set i (.va w)) σ := by
  obtain ⟨w0, e0⟩ := hi
  have hl : i < ρ.length := (List.getElem?_eq_some_iff.mp e0).1
  refine ⟨by simp [h.len], fun j w' e' => ?_, fun j m2 e' => ?_, fun j k m1 m2 a e1 e2 e3 e4 => ?_, h.out⟩
  · by_cases q : i = j
    · subst q; rw [List.getElem?_set_self hl] at e'; cases e'
      exact ⟨v, hv, r⟩
    · rw [List.getElem?_set_ne q] at e'
      exact h.va j w' e'
  · by_cases q : i = j
    · subst q; rw [List.getElem?_set_self hl] at e'; cases e'
    · rw [List.getElem?_set_ne q] at e'
      exact h.ow j m2 e'
  · by_cases q : i = j
    · subst q; rw [List.getElem?_set_self hl] at e1; cases e1
    · by_cases q' : i = k
      · subst q'; rw [List.getElem?_set_self hl] at e2; cases e2
      · rw [List.getElem?_set_ne q] at e1
        rw [List.getElem?_set_ne q'] at e2
        exact h.sep j k m1 m2 a e1 e2 e3 e4
end
section
variable {X : Cx} {st : Stmt} {tg e a b c o : Expr} {es : List Expr} {pos : Pos}
/-- ghosts ahead of a statement -/
def cBx (i : Nat) (f : SF) : SF := fun ρ L => match ρ[i]? with
  | some (.ow m) => f (ρ.set i (.va (.ob L.length))) (L ++ [.box m])
  | _ => f ρ L
theorem IS.bx {f : SF} (i : Nat) (h : IS X st f) : IS X st (cBx i f) := by
  refine ⟨fun {Zx Z F φ L ρ σ H o} hs ss h' D q => ?_⟩
  unfold cBx at h'
  split at h'
  · rename_i m e1
    obtain ⟨Z', p, hs1, ss1⟩ := ss.boxed hs e1
    exact h.run hs1 ss1 h' D (q.step (Sub.refl F) (List.prefix_append _ _))
  · exact h.run hs ss h' D q
def cFrB (i : Nat) (f : SF) : SF := fun ρ L => match ρ[i]? with
  | some (.va (.ob j)) => (match L[j]? with
    | some (.box m) => f (ρ.set i (.va m.fz)) (L.set j .dead)
    | _ => f ρ L)
  | _ => f ρ L
theorem IS.frB {f : SF} (i : Nat) (h : IS X st f) : IS X st (cFrB i f) := by
  refine ⟨fun {Zx Z F φ L ρ σ H o} hs ss h' D q => ?_⟩
  unfold cFrB at h'
  split at h'
  · rename_i j e1
    split at h'
    · rename_i m e2
      obtain ⟨v, h1, h2⟩ := ss.va i _ e1
      cases h2 with
      | ob hj =>
        obtain ⟨F', s1, hs1, r1⟩ := hs.frzB e2 hj
        exact h.run hs1 ((ss.mono s1 (List.prefix_refl φ)).reva ⟨_, e1⟩ h1 r1) h' D (q.step s1 (List.prefix_refl φ))
    · exact h.run hs ss h' D q
  · exact h.run hs ss h' D q
/-- d[k] = v, d in a box -/
def cPutB (i : Nat) (fk fv : EF) : SF := fun ρ L => match fv ρ L with
  | none => none
  | some (w, L1) => match fk ρ L1 with
    | none => none
    | some (k, L2) => match ρ[i]? with
      | some (.va (.ob j)) => (match L2[j]? with
        | some (.box (.lst _)) => none
        | some (.box m) => (match putM m k w with
          | some m' => some (.nx ρ (L2.set j (.box m')))
          | none => none)
        | _ => none)
      | _ => none
theorem is_putB (i : Nat) {x : Str} {px pos' : Pos} {fk fv : EF} (hu : X.A.units + 1 < cLine) (hk : IE X b fk) (hv' : IE X c fv) (hN : X.N[i]? = some x := by rfl) (hv : Vis X.env.scope x := by first | exact Or.inl rfl | exact Or.inr (Or.inl rfl) | exact Or.inr (Or.inr rfl)) (hd : (x == ("__debug__" : Str)) = false := by decide)
    (hcd : (x == ("__classdict__" : Str)) = false := by decide) (hs' : swapsWith c (some (.Subscript (.Name x px) b pos')) pos.line X.env = pure false := by rfl) :
    IS X (.Assign [.Subscript (.Name x px) b pos'] c pos) (cPutB i fk fv) := by
  refine ⟨fun {Zx Z F φ L ρ σ H o} hs ss h D q => PS.wp (ps_dput hu (pe_var hN hv hd hcd) wpE wpE hs') ?_⟩
  unfold cPutB at h
  split at h
  · cases h
  rename_i w L1 e1
  split at h
  · cases h
  rename_i k L2 e2
  split at h
  · rename_i j e3
    split at h
    · cases h
    · rename_i m nl e4
      split at h
      · rename_i m' e5
        simp only [Option.some.injEq] at h
        subst h
        obtain ⟨v, h1, h2⟩ := ss.va i _ e3
        cases h2 with
        | ob hj =>
          refine hv'.run hs ss e1 _ fun F1 φ1 H1 vw s1 p1 hs1 r1 => ?_
          refine ⟨_, h1, ?_⟩
          refine hk.run hs1 (ss.mono s1 p1) e2 _ fun F2 φ2 H2 vk s2 p2 hs2 r2 => ?_
          have hj2 := pre_get p2 (pre_get p1 hj)
          obtain ⟨nF, o2, g1, g2⟩ := hs2.objs _ _ _ e4 hj2
          obtain ⟨o', k1, k2⟩ := putM_rel hs2.sub g1 g2 r2 (r1.mono s2 p2) (fun xs z => nl xs z) e5
          refine ⟨_, _, rfl, k1, ?_⟩
          refine q Z F2 φ2 σ _ (s1.trans s2) (List.IsPrefix.trans p1 p2) (hs2.setOb (List.getElem?_eq_some_iff.mp e4).1 hj2 nF k2.nt ?_) (ss.mono (s1.trans s2) (List.IsPrefix.trans p1 p2))
          exact ⟨nF, _, upd_same, k2⟩
      · cases h
    · cases h
  · cases h
end
@[simp] theorem e_sEn (f : EF) (ρ : Ro) (L : Lg) : sEn f ρ L = (match f ρ L with
  | some (.lst xs, L') => some (pairsW xs, L')
  | _ => none) := id rfl
@[simp] theorem e_sEnS (f : EF) (ρ : Ro) (L : Lg) : sEnS f ρ L = (match f ρ L with
  | some (.str s, L') => some (pairsW (signsW s), L')
  | _ => none) := id rfl
@[simp] theorem e_cBx (i : Nat) (f : SF) (ρ : Ro) (L : Lg) : cBx i f ρ L = (match ρ[i]? with
  | some (.ow m) => f (ρ.set i (.va (.ob L.length))) (L ++ [.box m])
  | _ => f ρ L) := id rfl
@[simp] theorem e_cFrB (i : Nat) (f : SF) (ρ : Ro) (L : Lg) : cFrB i f ρ L = (match ρ[i]? with
  | some (.va (.ob j)) => (match L[j]? with
    | some (.box m) => f (ρ.set i (.va m.fz)) (L.set j .dead)
    | _ => f ρ L)
  | _ => f ρ L) := id rfl
@[simp] theorem e_cPutB (i : Nat) (fk fv : EF) (ρ : Ro) (L : Lg) : cPutB i fk fv ρ L = (match fv ρ L with
  | none => none
  | some (w, L1) => match fk ρ L1 with
    | none => none
    | some (k, L2) => match ρ[i]? with
      | some (.va (.ob j)) => (match L2[j]? with
        | some (.box (.lst _)) => none
        | some (.box m) => (match putM m k w with
          | some m' => some (.nx ρ (L2.set j (.box m')))
          | none => none)
        | _ => none)
      | _ => none) := id rfl
end Lf

set_option maxHeartbeats 4000000
/-! Lf, part Q: dicts by cells as lists of pairs; loops with an invariant, loops that end early. -/
namespace Lf
open PySem PySem.Spec PyProof.Rows L2
section
variable {α : Type} (e : α → W)
def cD (kvs : List (Cell × α)) : List (List Key × W) := kvs.map fun p => (tkC p.1, e p.2)
def lkC (kvs : List (Cell × α)) (c : Cell) : Option α := (kvs.find? fun kv => decide (kv.1 = c)).map (·.2)
def putC (kvs : List (Cell × α)) (c : Cell) (v : α) : List (Cell × α) := if c ∈ kvs.map Prod.fst then kvs.map (fun kv => if kv.1 = c then (kv.1, v) else kv) else kvs ++ [(c, v)]
@[simp] theorem cD_len (kvs : List (Cell × α)) : (cD e kvs).length = kvs.length := by unfold cD; simp
theorem look_cD (c : Cell) : ∀ kvs : List (Cell × α), lookD (cD e kvs) (tkC c) = (lkC kvs c).map e
  | [] => rfl
  | p :: r => by
    have ih := look_cD c r
    unfold lookD lkC cD at *
    rw [List.map_cons, List.find?_cons, List.find?_cons]
    by_cases h : p.1 = c
    · simp [h]
    · have : ¬ tkC p.1 = tkC c := fun z => h (tkC_inj z)
      simp only [h, this, decide_false]
      exact ih
theorem any_cD (c : Cell) (kvs : List (Cell × α)) : ((cD e kvs).any fun kv => decide (kv.1 = tkC c)) = decide (c ∈ kvs.map Prod.fst) := by
  rw [Bool.eq_iff_iff, List.any_eq_true, decide_eq_true_eq]
  constructor
  · rintro ⟨kv, h1, h2⟩
    obtain ⟨p, hp, rfl⟩ := List.mem_map.mp h1
    rw [← tkC_inj (of_decide_eq_true h2)]
    exact List.mem_map.mpr ⟨p, hp, rfl⟩
  · intro h
    obtain ⟨p, hp, rfl⟩ := List.mem_map.mp h
    exact ⟨(tkC p.1, e p.2), List.mem_map.mpr ⟨p, hp, rfl⟩, by simp⟩
theorem put_cD (c : Cell) (v : α) (kvs : List (Cell × α)) : putD (cD e kvs) (tkC c) (e v) = cD e (putC kvs c v) := by
  unfold putD putC
  rw [any_cD]
  by_cases h : c ∈ kvs.map Prod.fst
  · simp only [h, decide_true, if_true]
    unfold cD
    rw [List.map_map, List.map_map]
    apply List.map_congr_left
    intro p _
    show (if tkC p.1 = tkC c then (tkC p.1, e v) else (tkC p.1, e p.2)) = (tkC (if p.1 = c then (p.1, v) else p).1, e (if p.1 = c then (p.1, v) else p).2)
    by_cases q : p.1 = c
    · rw [if_pos (by rw [q]), if_pos q]
    · rw [if_neg (fun z => q (tkC_inj z)), if_neg q]
  · simp only [h, decide_false, if_false, Bool.false_eq_true]
    unfold cD
    rw [List.map_append]; rfl
theorem lk_put (c d : Cell) (v : α) (kvs : List (Cell × α)) : lkC (putC kvs c v) d = if d = c then some v else lkC kvs d := by
  unfold putC
  split
  · rename_i h
    induction kvs with
    | nil => simp at h
    | cons p r ih =>
      unfold lkC at *
      rw [List.map_cons, List.find?_cons, List.find?_cons]
      by_cases q : p.1 = c
      · rw [if_pos q]
        by_cases z : d = c
        · subst z; simp [q]
        · have z1 : ¬ p.1 = d := fun y => z (by rw [← y, q])
          simp only [z1, decide_false, if_neg z]
          by_cases m : c ∈ r.map Prod.fst
          · rw [ih m, if_neg z]
          · have : r.map (fun kv => if kv.1 = c then (kv.1, v) else kv) = r := by
              conv => rhs; rw [← List.map_id r]
              apply List.map_congr_left
              intro x hx
              rw [if_neg (fun y => m (List.mem_map.mpr ⟨x, hx, y⟩))]; rfl
            rw [this]
      · rw [if_neg q]
        have m : c ∈ r.map Prod.fst := by
          rcases List.mem_cons.mp h with y | y
          · exact absurd y.symm q
          · exact y
        by_cases z1 : p.1 = d
        · subst z1; simp [q]
        · simp only [z1, decide_false]
          exact ih m
  · rename_i h
    unfold lkC
    rw [List.find?_append]
    by_cases z : d = c
    · subst z
      have : kvs.find? (fun kv => decide (kv.1 = d)) = none := List.find?_eq_none.mpr fun x hx y => h (List.mem_map.mpr ⟨x, hx, of_decide_eq_true y⟩)
      simp [this]
    · have : ¬ c = d := fun y => z y.symm
      cases q : kvs.find? (fun kv => decide (kv.1 = d)) with
      | none => simp [this, z]
      | some x => simp [z]
theorem keys_put (c : Cell) (v : α) (kvs : List (Cell × α)) : (putC kvs c v).map Prod.fst = if c ∈ kvs.map Prod.fst then kvs.map Prod.fst else kvs.map Prod.fst ++ [c] := by
  unfold putC
  split
  · rw [List.map_map]
    apply List.map_congr_left
    intro p _
    show (if p.1 = c then (p.1, v) else p).1 = p.1
    split <;> rfl
  · rw [List.map_append]; rfl
theorem len_put (c : Cell) (v : α) (kvs : List (Cell × α)) : (putC kvs c v).length ≤ kvs.length + 1 := by
  have := congrArg List.length (keys_put c v kvs)
  rw [List.length_map] at this
  rw [this]
  split <;> simp
theorem lk_mem {c : Cell} {v : α} {kvs : List (Cell × α)} (h : lkC kvs c = some v) : c ∈ kvs.map Prod.fst := by
  unfold lkC at h
  cases q : kvs.find? (fun kv => decide (kv.1 = c)) with
  | none => rw [q] at h; cases h
  | some x =>
    have := List.find?_some q
    exact List.mem_map.mpr ⟨x, List.mem_of_find?_eq_some q, of_decide_eq_true this⟩
theorem mem_lk {c : Cell} {kvs : List (Cell × α)} (h : c ∈ kvs.map Prod.fst) : ∃ v, lkC kvs c = some v := by
  unfold lkC
  cases q : kvs.find? (fun kv => decide (kv.1 = c)) with
  | none =>
    obtain ⟨x, hx, e⟩ := List.mem_map.mp h
    exact absurd (List.find?_eq_none.mp q x hx) (by simp [e])
  | some x => exact ⟨x.2, rfl⟩
theorem keys_cD (kvs : List (Cell × α)) : keysD (.dT (cD e kvs)) = some ((kvs.map Prod.fst).map cW) := by
  show some ((cD e kvs).map fun kv => W.tup (kv.1.map keyW)) = _
  unfold cD
  rw [List.map_map, List.map_map]
  rfl
theorem get_cD (kvs : List (Cell × α)) (a b : Int) : getW (.dT (cD e kvs)) (.tup [.int a, .int b]) = some ((lkC kvs (a, b)).map e) := by
  show (match asTKey (.tup [.int a, .int b]) with | some k => some (lookD (cD e kvs) k) | none => none) = _
  rw [asTKey_c]
  show some (lookD (cD e kvs) (tkC (a, b))) = _
  rw [look_cD]
end
/-! ### loops -/
theorem for_inv {β : Type} (f : β → W) {g : GF} {body : SF} {L : Lg} (I : List β → Ro → Prop) : ∀ (xs done : List β) (ρ : Ro), I done ρ →
    (∀ (d : List β) (x : β) (r : List β) (ρ : Ro), done ++ xs = d ++ x :: r → I d ρ → ∃ ρ1 ρ2, g (f x) ρ = some ρ1 ∧ body ρ1 L = some (.nx ρ2 L) ∧ I (d ++ [x]) ρ2) →
    ∃ ρ', forLoop g body (xs.map f) ρ L = some (.nx ρ' L) ∧ I (done ++ xs) ρ'
  | [], done, ρ, h, _ => ⟨ρ, rfl, by rw [List.append_nil]; exact h⟩
  | x :: xs, done, ρ, h, st => by
    obtain ⟨ρ1, ρ2, h1, h2, h3⟩ := st done x xs ρ rfl h
    obtain ⟨ρ', e1, e2⟩ := for_inv f I xs (done ++ [x]) ρ2 h3 fun d y r ρ e => st d y r ρ (by rw [← e]; simp)
    refine ⟨ρ', ?_, by simpa using e2⟩
    rw [List.map_cons, for_nx h1 h2]
    exact e1
/-- a loop that ends with w at the first x that has P -/
theorem for_ret {β : Type} (f : β → W) {g : GF} {body : SF} {L : Lg} {w : W} (I : Ro → Prop) (P : β → Bool) : ∀ (xs : List β) (ρ : Ro), I ρ →
    (∀ x ∈ xs, ∀ ρ, I ρ → ∃ ρ1, g (f x) ρ = some ρ1 ∧ ((P x = false ∧ ∃ ρ2, body ρ1 L = some (.nx ρ2 L) ∧ I ρ2) ∨ (P x = true ∧ body ρ1 L = some (.rt w L)))) →
    (xs.any P = false ∧ ∃ ρ', forLoop g body (xs.map f) ρ L = some (.nx ρ' L) ∧ I ρ') ∨ (xs.any P = true ∧ forLoop g body (xs.map f) ρ L = some (.rt w L))
  | [], ρ, h, _ => .inl ⟨rfl, ρ, rfl, h⟩
  | x :: xs, ρ, h, st => by
    obtain ⟨ρ1, h1, h2⟩ := st x List.mem_cons_self ρ h
    rcases h2 with ⟨p, ρ2, h2, h3⟩ | ⟨p, h2⟩
    · rcases for_ret f I P xs ρ2 h3 fun y hy => st y (List.mem_cons_of_mem _ hy) with ⟨a, ρ', b, c⟩ | ⟨a, b⟩
      · exact .inl ⟨by rw [List.any_cons, p, a]; rfl, ρ', by rw [List.map_cons, for_nx h1 h2]; exact b, c⟩
      · exact .inr ⟨by rw [List.any_cons, p, a]; rfl, by rw [List.map_cons, for_nx h1 h2]; exact b⟩
    · exact .inr ⟨by rw [List.any_cons, p]; rfl, by rw [List.map_cons, for_rt h1 h2]⟩
end Lf

set_option maxHeartbeats 4000000
/-! Lf, part R: all(..), del of a key that is a tuple, dict comprehensions with such keys. -/
namespace Lf
open PySem PySem.Spec PyProof.Rows L2
/-! ### all([..]) -/
def blsW : List W → Option (List Bool)
  | [] => some []
  | .bl b :: r => match blsW r with
    | some bs => some (b :: bs)
    | none => none
  | _ :: _ => none
theorem blsW_map : ∀ bs : List Bool, blsW (bs.map W.bl) = some bs
  | [] => rfl
  | b :: r => by rw [List.map_cons]; simp only [blsW, blsW_map r]
theorem blsW_eq : ∀ {ws : List W} {bs : List Bool}, blsW ws = some bs → ws = bs.map W.bl
  | [], bs, h => by simp only [blsW, Option.some.injEq] at h; subst h; rfl
  | w :: r, bs, h => by
    cases w <;> simp only [blsW] at h <;> first | (cases h; done) | skip
    split at h
    · rename_i bs' e
      cases h
      rw [List.map_cons, ← blsW_eq e]
    · cases h
theorem Rs.bls {K : PySem.W.Frag} {F : Hp} {φ : List Addr} : ∀ {bs : List Bool} {vs : List V}, Rs K F φ (bs.map W.bl) vs → vs = bs.map V.bl
  | [], _, .nil => rfl
  | b :: bs, _, .cons r t => by cases r; rw [Rs.bls t]; rfl
def allW : W → Option W
  | .lst ws => match blsW ws with
    | some bs => some (.bl (bs.all id))
    | none => none
  | _ => none
@[simp] theorem allW_bls (bs : List Bool) : allW (.lst (bs.map W.bl)) = some (.bl (bs.all id)) := by simp only [allW, blsW_map]
section
variable {X : Cx} {a : Expr} {pos : Pos}
theorem ie_all {f : OF} {p : Pos} (hc : X.calm = true) (hg : Gl X "all") (hm : X.mg "all" = none) (ha : IO X a f) (he : starEach [a] X.env = (false, eval a X.env) :: starEach [] X.env := by rfl) : IE X (.Call (.Name "all" p) [a] [] pos) (cC allW f) := by
  refine ie_bltC (cr_all hc) (fun {Z F φ L H w0 w v0} hs c h Q q => ?_) hg hm (by decide +kernel) ha (he := he)
  unfold allW at h
  split at h
  · rename_i ws
    split at h
    · rename_i bs e
      cases h
      obtain ⟨l, vs, rfl, g1, g2⟩ := c.seq hs.sub
      rw [blsW_eq e] at g2
      rw [g2.bls] at g1
      exact ⟨l, bs, rfl, g1, flat hs (.bl _) q⟩
    · cases h
  · cases h
end
/-! ### del d[k], k a tuple -/
section
variable {κ : Type} [DecidableEq κ] {prog : Program} {w : World} {knd : HeapKind prog w κ}
theorem meetsDelT {dst kad : Addr} {k : κ} :
    MeetsIn prog w (Builtin.«dict.__delitem__» ⟨[.ref dst, .ref kad], []⟩) (fun A R s => ∃ ents pr, knd.room A.in1 ∧ knd.is s.heap k kad ∧ s.heap.DictOfH knd dst ents ∧ ents.length ≤ sizeLine ∧ atKey ents k = some pr ∧
      ∀ h' tk, h'.DictOfH knd dst (DT.dropH ents k) → Heap.SameBut dst s.heap h' → R (.ok (.ret .none)) { s with heap := h', toks := tk }) :=
  .of_wp fun A R s ⟨ents, pr, room, isk, dict, sz, there, fin⟩ => by
    unfold Builtin.«dict.__delitem__»
    refine wpAny_bind ?_
    unfold Builtin.Dict.dictSlotArgs
    refine wpAny_bind (wpAny_notOrdered_dict dict.typeIs ?_)
    show wpAny _ _ (pure (Value.ref dst, Value.ref kad)) _ _ s
    refine wpAny_pure ?_
    show wpAny _ _ (Builtin.Dict.takeOut dst (.ref kad) >>= _) _ _ s
    refine wpAny_bind (DT.takeH room isk dict sz (fun z => by rw [z] at there; cases there) fun p e _ _ h' d' sb => ?_)
    exact wpAny_bind (wpAny_letGo (wpAny_pure ⟨.none, rfl, fin h' _ d' sb⟩))
end
def tDelT (to ti : TE) : TS := fun D σ H => to σ H fun x H1 => ti σ H1 fun y H2 => ∃ (p b : Addr) (kvs : List (List Key × V)) (k : List Key), x = .ref p ∧ y = .ref b ∧ H2 p = some (.dT kvs) ∧ H2 b = some (.tup (k.map kV)) ∧ (valV kvs k).isSome = true ∧ D.nx σ (upd H2 p (.dT (dropK kvs k)))
section
variable {X : Cx} {o i : Expr} {pos tpos : Pos} {to ti : TE}
theorem ps_delT (hu : X.A.units + 1 < cLine) (ho : PE X o to) (hi : PE X i ti) : PS X (.Delete [.Subscript o i tpos] pos) (tDelT to ti) := by
  refine ⟨fun pins s σ H D I h => wpAny_Delete (wpAny_deleteEach_cons (wpAny_delete_Subscript (thn (ho.run pins s σ H _ I h) fun uo s1 ⟨x, H1, I1, rx, k1⟩ => thn (hi.run pins s1 σ H1 _ I1 k1) fun ui s2 ⟨y, H2, I2, ry, k2⟩ => ?_)))⟩
  obtain ⟨p, b, kvs, k, rfl, rfl, hp, hb, there, nx⟩ := k2
  cases (show uo = Value.ref p from rx)
  cases (show ui = Value.ref b from ry)
  obtain ⟨z, hd, ents, rel, dd⟩ := dt_of I2.hok hp
  have hz : ents.length ≤ sizeLine := by rw [← Paired.length rel]; exact z
  obtain ⟨pr, hpr⟩ : ∃ pr, atKey ents k = some pr := by
    have r := rel.val k
    cases ek : atKey ents k with
    | some pr => exact ⟨pr, rfl⟩
    | none =>
      rw [ek] at r
      cases ev : valV kvs k with
      | none => rw [ev] at there; cases there
      | some v0 => rw [ev] at r; exact (show False from r).elim
  refine wpAny_delItem_slot dd.typeIs (by decide) PySem.F.slot_dict_delitem (call_meetsIn PySem.F.slot_dict_delitem dd.typeIs PySem.F.entry_dict_delitem (PySem.F.args_dict_delitem_2 _ _) (meetsDelT (knd := tupleKind (mixKind X.prog X.w)) (k := k))
    ⟨ents, pr, tupleKind_room_in1 hu, key_of I2.hok hb, dd, hz, hpr, fun h' tk d' sb => ?_⟩)
  obtain ⟨ob, es, ep, hq, q2, q3, q4, _, q5⟩ := d'
  have I3 : Inv X pins σ (upd H2 p (.dT (dropK kvs k))) { s2 with heap := h', toks := tk } :=
    d_write I2 (by rw [hp]; exact True.intro) sb ⟨ob, hq⟩ ⟨Nat.le_trans (dropK_le kvs k) z, hd, _, (L2.DX.KT_drop k rel).keeps (fun c ys ec => (by rw [upd_ne (ne_of ec hp (fun z => nomatch z))]; exact ec)), ob, es, ep, hq, q2, q3, q4, q5⟩
  exact wpAny_deleteEach_nil ⟨σ, _, I3, nx⟩
end
/-- the dict without a key -/
def dropW (kvs : List (List Key × W)) (k : List Key) : List (List Key × W) := kvs.filter fun p => decide (p.1 ≠ k)
theorem drop_rel {K : PySem.W.Frag} {F : Hp} {φ : List Addr} (k : List Key) : ∀ {kvs : List (List Key × W)} {vs : List (List Key × V)}, kvs.map Prod.fst = vs.map Prod.fst → Rs K F φ (kvs.map Prod.snd) (vs.map Prod.snd) →
    (dropW kvs k).map Prod.fst = (dropK vs k).map Prod.fst ∧ Rs K F φ ((dropW kvs k).map Prod.snd) ((dropK vs k).map Prod.snd)
  | [], [], _, _ => ⟨rfl, .nil⟩
  | [], _ :: _, e, _ => by cases e
  | _ :: _, [], e, _ => by cases e
  | p :: kvs, r :: vs, e, rel => by
    simp only [List.map_cons, List.cons.injEq] at e
    rw [List.map_cons, List.map_cons] at rel
    cases rel with
    | cons r1 r2 =>
      obtain ⟨i1, i2⟩ := drop_rel k e.2 r2
      by_cases q : p.1 = k
      · have q2 : r.1 = k := e.1.symm.trans q
        have z1 : dropW (p :: kvs) k = dropW kvs k := List.filter_cons_of_neg (by simp [q])
        have z2 : dropK (r :: vs) k = dropK vs k := List.filter_cons_of_neg (by simp [q2])
        rw [z1, z2]
        exact ⟨i1, i2⟩
      · have q2 : ¬ r.1 = k := fun z => q (e.1.trans z)
        have z1 : dropW (p :: kvs) k = p :: dropW kvs k := List.filter_cons_of_pos (by simp [q])
        have z2 : dropK (r :: vs) k = r :: dropK vs k := List.filter_cons_of_pos (by simp [q2])
        rw [z1, z2]
        exact ⟨by simp only [List.map_cons, e.1, i1], .cons r1 i2⟩
theorem val_some {K : PySem.W.Frag} {F : Hp} {φ : List Addr} {kvs : List (List Key × W)} {vs : List (List Key × V)} {k : List Key} (e : kvs.map Prod.fst = vs.map Prod.fst) (h : (kvs.any fun p => decide (p.1 = k)) = true) : (valV vs k).isSome = true := by
  have h : k ∈ vs.map Prod.fst := by
    rw [← e]
    obtain ⟨p, hp, z⟩ := List.any_eq_true.mp h
    exact List.mem_map.mpr ⟨p, hp, of_decide_eq_true z⟩
  obtain ⟨p, hp, rfl⟩ := List.mem_map.mp h
  unfold valV
  cases q : vs.find? (fun z => decide (z.1 = p.1)) with
  | none => exact absurd (List.find?_eq_none.mp q p hp) (by simp)
  | some z => simp [q]
/-- del d[k], d in a box at the slot i -/
def cDelB (i : Nat) (fk : EF) : SF := fun ρ L => match fk ρ L with
  | none => none
  | some (k, L1) => match ρ[i]? with
    | some (.va (.ob j)) => (match L1[j]? with
      | some (.box (.dT kvs)) => (match asTKey k with
        | some k => if (kvs.any fun p => decide (p.1 = k)) = true then some (.nx ρ (L1.set j (.box (.dT (dropW kvs k))))) else none
        | none => none)
      | _ => none)
    | _ => none
section
variable {X : Cx} {b : Expr} {pos : Pos}
theorem is_delB (i : Nat) {x : Str} {px tpos : Pos} {fk : EF} (hu : X.A.units + 1 < cLine) (hk : IE X b fk) (hN : X.N[i]? = some x := by rfl) (hv : Vis X.env.scope x := by first | exact Or.inl rfl | exact Or.inr (Or.inl rfl) | exact Or.inr (Or.inr rfl)) (hd : (x == ("__debug__" : Str)) = false := by decide)
    (hcd : (x == ("__classdict__" : Str)) = false := by decide) : IS X (.Delete [.Subscript (.Name x px) b tpos] pos) (cDelB i fk) := by
  refine ⟨fun {Zx Z F φ L ρ σ H o} hs ss h D q => PS.wp (ps_delT hu (pe_var hN hv hd hcd) wpE) ?_⟩
  unfold cDelB at h
  split at h
  · cases h
  rename_i kw L1 e1
  split at h
  · rename_i j e2
    split at h
    · rename_i kvs e3
      split at h
      · rename_i k e4
        split at h
        · rename_i hmem
          simp only [Option.some.injEq] at h
          subst h
          obtain ⟨v, h1, h2⟩ := ss.va i _ e2
          cases h2 with
          | ob hj =>
            refine ⟨_, h1, ?_⟩
            refine hk.run hs ss e1 _ fun F1 φ1 H1 vk s1 p1 hs1 r1 => ?_
            have hj1 := pre_get p1 hj
            obtain ⟨nF, o2, g1, g2⟩ := hs1.objs _ _ _ e3 hj1
            cases o2 <;> first | exact g2.elim | skip
            rename_i vs
            obtain ⟨g3, g4⟩ := g2
            obtain ⟨kb, rfl, hkb⟩ := asTKey_rel r1 e4
            obtain ⟨d1, d2⟩ := drop_rel k g3 g4
            refine ⟨_, kb, vs, k, rfl, rfl, g1, hs1.sub _ _ hkb, val_some (K := X.K) (F := F1) (φ := φ1) g3 hmem, ?_⟩
            refine q Z F1 φ1 σ _ s1 p1 (hs1.setOb (List.getElem?_eq_some_iff.mp e3).1 hj1 nF (by intro _ z; cases z) ?_) (ss.mono s1 p1)
            exact ⟨nF, _, upd_same, d1, d2⟩
        · cases h
      · cases h
    · cases h
  · cases h
end
end Lf

set_option maxHeartbeats 4000000
/-! Lf, part F: {k: v for x in xs}, keys tuples. -/
namespace Lf
open PySem PySem.Spec PyProof.Rows L2
section
variable {X : Cx}
/-- what one turn of such a comprehension does to the new dict at D -/
def tTurnT (g : TG) (tt : TT) (tk tv : TE) (vs : List Nat) (σ : L2.St) (D : Addr) (Nx : Hp → Prop) : V → Hp → Prop := fun x H' => g x (wipe σ vs) H' fun σ2 H2 => wipe σ2 vs = wipe σ vs ∧ tt σ2 H2 fun c H3 =>
  if c = true then tk σ2 H3 fun y H4 => tv σ2 H4 fun z H5 => ∃ (kvs : List (List Key × V)) (k : List Key) (kb : Addr), y = .ref kb ∧ H5 kb = some (.tup (k.map kV)) ∧ H5 D = some (.dT kvs) ∧ kvs.length < sizeLine ∧ Nx (upd H5 D (.dT (putK kvs k z))) else Nx H3
def tDcT (wi : TI) (g : TG) (tt : TT) (tk tv : TE) (vs : List Nat) : TE := fun σ H Q => wi σ H fun J H1 => ∀ D, H1 D = none → ∃ W : Nat → Nat → Hp → Prop, (∃ m, W 0 m (upd H1 D (.dT []))) ∧ ∀ i m H, W i m H →
  (J.stop i H ∧ Q (.ref D) H) ∨ (J.go i H ∧ ∃ Nx : Hp → Prop, (∀ H', Nx H' → ∃ m', m' < m ∧ W (i + 1) m' H') ∧ ∀ x H', J.yld i H x H' → tTurnT g tt tk tv vs σ D Nx x H')
/-- the new dict takes a pair -/
theorem put_newT {Y : Cx} {pins : List (Addr × Obj)} {σ : L2.St} {H : Hp} {s : Shared} {E : Value → Shared → Prop} {D kb : Addr} {kvs : List (List Key × V)} {k : List Key} {v : V} {r : Value} {Q : Unit → Shared → Prop} (hu : Y.A.units + 1 < cLine) (I : Inv Y pins σ H s) (hD : H D = some (.dT kvs)) (hb : H kb = some (.tup (k.map kV)))
    (hz : kvs.length < sizeLine) (rv : RelV v r) (fin : ∀ s', Inv Y pins σ (upd H D (.dT (putK kvs k v))) s' → Q () s') : wpAny (model Y.prog Y.w) Y.A (dictSet D (.ref kb) r) Q E s := by
  obtain ⟨z, hd, ents, rel, dd⟩ := dt_of I.hok hD
  have he : ents.length ≤ sizeLine := by rw [← Paired.length rel]; exact z
  refine wpAny_dictSet_heap (hsz := he) (show (tupleKind (mixKind Y.prog Y.w)).room Y.A from (by omega : Y.A.units < cLine)) (key_of I.hok hb) dd fun h' d' sb => fin _ ?_
  obtain ⟨ob, es, ep, hq, q2, q3, q4, _, q5⟩ := d'
  refine d_write I (by rw [hD]; exact True.intro) sb ⟨ob, hq⟩ ⟨Nat.le_trans (length_putK kvs k v) hz, hd, _, (rel.put k hb rv).keeps fun c ys ec => ?_, ob, es, ep, hq, q2, q3, q4, q5⟩
  rw [upd_ne (ne_of ec hD (fun z => nomatch z))]
  exact ec
theorem dcT_core {pins : List (Addr × Obj)} {s : Shared} {σ : L2.St} {H : Hp} {Q : VK} {ke ve tg iter : Expr} {ifs : List Expr} {sc : Scope} {own : List (Str × Nat)} {pos pos' : Pos} {use : Option (Value → Sem Unit)} {Qf : Value → Shared → Prop} {wi : TI} {g : TG} {tt : TT} {tk tv : TE}
    (hu : X.A.units + 1 < cLine) (hc : X.calm = true) (hN : X.N.Nodup) (I : Inv X pins σ H s) (hi : PI X tg iter wi) (blk : BlkOk X.N X.env.scope sc own)
    (hg : ∀ (s : Shared) (H : Hp) (C : Addr) (cl : List (Str × Addr)) (fs : List Addr), PG (X.blk s H sc (compEnvC sc cl C X.env) fs) tg g)
    (ht : ∀ (s : Shared) (H : Hp) (C : Addr) (cl : List (Str × Addr)) (fs : List Addr), PTs (X.blk s H sc (compEnvC sc cl C X.env) fs) ifs tt)
    (hk : ∀ (s : Shared) (H : Hp) (C : Addr) (cl : List (Str × Addr)) (fs : List Addr), PE (X.blk s H sc (compEnvC sc cl C X.env) fs) ke tk)
    (hv : ∀ (s : Shared) (H : Hp) (C : Addr) (cl : List (Str × Addr)) (fs : List Addr), PE (X.blk s H sc (compEnvC sc cl C X.env) fs) ve tv) (fold : ∀ x, foldedSetIterable iter X.env x = pure x)
    (h : tDcT wi g tt tk tv (own.map (·.2)) σ H Q)
    (fin : ∀ D C s' m H', Inv X pins σ H' s' → Q (.ref D) H' → s'.heap.Ns C m → FpOk X pins H' C → compPost (model X.prog X.w) X.A X.xe use Qf (.ref D) C (.ok .next) s') :
    wpAny (model X.prog X.w) X.A (comprehension (.DictComp ke ve [⟨tg, iter, ifs, 0⟩] sc pos) sc X.env pos' newDict false (eval iter X.env) use) Qf X.xe s := by
  refine wpAny_comprehension_free (use := use) rfl fold (closure_ok fun y hy e => (blk.free y hy e).elim (fun z => I.ok.has _ (.inl z)) fun z => I.ok.has _ (.inr z)) blk.kind (fun y hy e => by rw [blk.uniq y hy, e])
    (thn (hi.run pins s σ H _ I h) fun xv s1 hx => thn hx fun itv sB got => ?_)
  obtain ⟨it, fs, tn, J, H2, rfl, I2, T, tB, fr2, q⟩ := got
  refine wpAny_newObj_type (newEnv_comp ?_)
  generalize eD : sB.heap.objs.size = D
  obtain ⟨W, ⟨m0, w0⟩, turn⟩ := q D (I2.hok.fresh (Nat.le_of_eq eD))
  generalize eC : ({ sB with heap := sB.heap.push { cls := .type "dict", data := .dict #[] } } : Shared) = sC
  have hh3 : sC.heap = sB.heap.push { cls := .type "dict", data := .dict #[] } := by rw [← eC]
  have I3 : Inv X pins σ (upd H2 D (.dT [])) sC := by
    rw [← eC]
    exact I2.laid (t' := sB.toks) (fun b o e => Heap.get?_push_of_some _ e) (Nat.le_of_eq eD) (by rw [← eD]; exact dt_empty sB.heap I2.big)
  have fr3 : ∀ b ∈ fs, FpOk X pins (upd H2 D (.dT [])) b ∧ b < sC.heap.objs.size := fun b hb => by
    obtain ⟨o, e, _⟩ := T.obj _ _ tB b hb
    have lt := Heap.lt_size e
    exact ⟨⟨by rw [upd_ne (by rw [← eD]; exact Nat.ne_of_lt lt)]; exact (fr2 b hb).1, (fr2 b hb).2⟩, by rw [hh3, Heap.size_push]; exact Nat.lt_succ_of_lt lt⟩
  have tC : tn 0 sC.heap := T.keep _ _ _ tB fun b _ o e => by rw [hh3]; exact Heap.get?_push_of_some _ e
  have I4 := block_start I3 blk hN fr3
  obtain ⟨ce, hce⟩ : ∃ ce, compEnvC sc (cellsFrom (sC.heap.objs.size + 1) sc.names (cloFrom X.env.cells sc.names [])) sC.heap.objs.size X.env = ce := ⟨_, rfl⟩
  obtain ⟨H3, hH3⟩ : ∃ H3, upd H2 D (.dT []) = H3 := ⟨_, rfl⟩
  have pg := hg sC H3 sC.heap.objs.size (cellsFrom (sC.heap.objs.size + 1) sc.names (cloFrom X.env.cells sc.names [])) fs
  have pt := ht sC H3 sC.heap.objs.size (cellsFrom (sC.heap.objs.size + 1) sc.names (cloFrom X.env.cells sc.names [])) fs
  have pk := hk sC H3 sC.heap.objs.size (cellsFrom (sC.heap.objs.size + 1) sc.names (cloFrom X.env.cells sc.names [])) fs
  have pv := hv sC H3 sC.heap.objs.size (cellsFrom (sC.heap.objs.size + 1) sc.names (cloFrom X.env.cells sc.names [])) fs
  have cL : ce.locals = sC.heap.objs.size := by rw [← hce]; rfl
  obtain ⟨sD, eD4⟩ : ∃ sD : Shared, ({ sC with heap := pushCells (sC.heap.push { cls := .type "dict", data := .dict #[] }) sc.names } : Shared) = sD := ⟨_, rfl⟩
  rw [hH3] at I3 I4 w0 fr3
  rw [hce] at I4 pg pt pk pv
  rw [eD4] at I4
  have tD : tn 0 sD.heap := T.keep _ _ _ tC fun b _ o e => by rw [← eD4]; exact pushCells_keeps _ _ _ _ (Heap.get?_push_of_some _ e)
  have own1 : ∀ {σ' : L2.St} {H' : Hp} {s' : Shared}, Inv (X.blk sC H3 sc ce fs) [] σ' H' s' → (∀ b ∈ fs, H' b = none) → ∀ b ∈ fs, FpOk (X.blk sC H3 sc ce fs) [] H' b := fun {σ' H' s'} I' hn b hb =>
    let z := I'.ok.exf b hb
    ⟨hn b hb, z.1, I'.ok.exfs b hb, .inl hb, fun x c e => z.2 x c e, fun p hp => nomatch (show p ∈ ([] : List (Addr × Obj)) from hp)⟩
  have hu' : (X.blk sC H3 sc ce fs).A.units + 1 < cLine := hu
  show codeAny _ _ (.compStart (.DictComp ke ve [⟨tg, iter, ifs, 0⟩] sc pos) 0 (.ref it) (.ref D) (compEnvC sc (cellsFrom (sC.heap.objs.size + 1) sc.names (cloFrom X.env.cells sc.names [])) sC.heap.objs.size X.env)) (compPost (model X.prog X.w) X.A X.xe use Qf (.ref D) sC.heap.objs.size) { sC with heap := pushCells (sC.heap.push { cls := .type "dict", data := .dict #[] }) sc.names }
  rw [hce, eD4]
  refine (fun loop => codeAny_compStart_dict loop (T.self X.A 0 _ _ _ tD loop)) ?_
  refine compLoop_anyD (fun n s' => ∃ i H', Inv (X.blk sC H3 sc ce fs) [] (wipe σ (own.map (·.2))) H' s' ∧ tn i s'.heap ∧ (∀ b ∈ fs, H' b = none) ∧ W i n H') ?_ m0 ⟨0, H3, I4, tD, fun b hb => (fr3 b hb).1.1, w0⟩
  rintro n sE ⟨i, hE, iE, tE, nE, wE⟩
  rcases turn i n hE wE with ⟨stop, qq⟩ | ⟨go, Nx, less, step⟩
  · refine thnF (T.done (X.blk sC H3 sc ce fs) rfl rfl rfl hc i [] sE _ hE (fun _ _ => False) iE (own1 iE nE) tE stop) fun r sF ⟨hr, I6⟩ => ?_
    subst hr
    have iG : Inv X pins σ hE sF := I3.call' (ch := fs) I6.os I6.base I6.hok I6.bare fun b hb => ⟨(fr3 b hb).1.2.2.2.1, (fr3 b hb).1.2.1, (fr3 b hb).1.2.2.2.2.1, (fr3 b hb).1.2.2.2.2.2⟩
    have nC : hE sC.heap.objs.size = none := by rw [← cL]; exact I6.free
    obtain ⟨m, hn, _⟩ := I6.loc
    exact fin D _ sF m hE iG qq (by rw [← cL]; exact hn) (I3.fpOk (Nat.le_refl _) nC)
  · refine thnF (T.item (X.blk sC H3 sc ce fs) rfl rfl rfl hc i [] sE _ hE (fun _ _ => False) iE (own1 iE nE) tE go) fun r sF ⟨u, hr, h6⟩ => ?_
    subst hr
    refine thnF h6 fun _ sG ⟨x, hG, iG, rG, yG, tG, nG⟩ => ?_
    refine thnF (pg.run _ sG _ hG x u _ (iG.pinned (own1 iG nG) (T.obj _ _ tG)) rG (step x hG yG)) fun _ sH ⟨σ8, H8, I8, hw8, q8⟩ => ?_
    refine thnF (pt.run _ sH σ8 H8 _ I8 q8) fun c sI ⟨H9, I9, q9⟩ => ?_
    have again : ∀ {s' : Shared} {H' : Hp}, Inv (X.blk sC H3 sc ce fs) ([] ++ pinsAt fs sG.heap) σ8 H' s' → Nx H' → ∃ m, m < n ∧ ∃ i H', Inv (X.blk sC H3 sc ce fs) [] (wipe σ (own.map (·.2))) H' s' ∧ tn i s'.heap ∧ (∀ b ∈ fs, H' b = none) ∧ W i m H' := fun {s' H'} I' nx => by
      obtain ⟨m', hm, w'⟩ := less H' nx
      have held : ∀ b ∈ fs, ∀ o, sG.heap.get? b = some o → s'.heap.get? b = some o ∧ H' b = none := fun b hb o e =>
        let z := I'.pin (b, o) (by refine List.mem_append_right _ (List.mem_append_right _ ?_); exact mem_pinsAt hb e)
        ⟨z.1, z.2.1⟩
      refine ⟨m', hm, i + 1, H', (I'.unpinned (pins := [])).weak (by rw [← hw8, wipe_length]) (fun j v e => ?_), T.keep _ _ _ tG fun b hb o e => (held b hb o e).1, fun b hb => ?_, w'⟩
      · rw [← hw8] at e
        exact (L2.wipe_some e).1
      · obtain ⟨o, e, _⟩ := T.obj _ _ tG b hb
        exact (held b hb o e).2
    cases c with
    | false =>
      rw [if_neg (by decide)] at q9
      rw [if_neg (by decide)]
      exact again I9 q9
    | true =>
      rw [if_pos rfl] at q9
      rw [if_pos rfl]
      refine thnF (pk.run _ sI σ8 H9 _ I9 q9) fun z sJ ⟨yk, H10, I10, r10, q10⟩ => ?_
      refine thnF (pv.run _ sJ σ8 H10 _ I10 q10) fun z2 sK ⟨yv, H11, I11, r11, kvs, k, kb, ek, hkb, hD11, hz11, nx⟩ => ?_
      subst ek
      cases (show z = Value.ref kb from r10)
      exact put_newT (Y := X.blk sC H3 sc ce fs) hu' I11 hD11 hkb hz11 r11 fun sL I12 => again I12 nx
theorem pe_dcT {ke ve tg iter : Expr} {ifs : List Expr} {sc : Scope} {own : List (Str × Nat)} {pos : Pos} {wi : TI} {g : TG} {tt : TT} {tk tv : TE} (hu : X.A.units + 1 < cLine) (hc : X.calm = true) (hN : X.N.Nodup) (hi : PI X tg iter wi) (blk : BlkOk X.N X.env.scope sc own)
    (hg : ∀ (s : Shared) (H : Hp) (C : Addr) (cl : List (Str × Addr)) (fp : List Addr), PG (X.blk s H sc (compEnvC sc cl C X.env) fp) tg g)
    (ht : ∀ (s : Shared) (H : Hp) (C : Addr) (cl : List (Str × Addr)) (fp : List Addr), PTs (X.blk s H sc (compEnvC sc cl C X.env) fp) ifs tt)
    (hk : ∀ (s : Shared) (H : Hp) (C : Addr) (cl : List (Str × Addr)) (fp : List Addr), PE (X.blk s H sc (compEnvC sc cl C X.env) fp) ke tk)
    (hv : ∀ (s : Shared) (H : Hp) (C : Addr) (cl : List (Str × Addr)) (fp : List Addr), PE (X.blk s H sc (compEnvC sc cl C X.env) fp) ve tv) (fold : ∀ x, foldedSetIterable iter X.env x = pure x) :
    PE X (.DictComp ke ve [⟨tg, iter, ifs, 0⟩] sc pos) (tDcT wi g tt tk tv (own.map (·.2))) := by
  refine ⟨fun pins s σ H Q I h => ?_⟩
  rw [arm_eval_DictComp]
  refine dcT_core hu hc hN I hi blk hg ht hk hv fold h fun D C s' m H' I' qq hn fr => ⟨m, hn, fun h'' sb => ?_⟩
  obtain ⟨f0, f1, f2, f3, f4, f5⟩ := fr
  exact ⟨.ref D, H', I'.turned (t' := s'.toks) (fun b o hb e => (sb.2 b hb).trans e) f0 f1 f3 f4 f5, rfl, qq⟩
theorem ps_setDcT {i : Nat} {y : Str} {py : Pos} {ke ve tg iter : Expr} {ifs : List Expr} {sc : Scope} {own : List (Str × Nat)} {pos spos : Pos} {wi : TI} {g : TG} {tt : TT} {tk tv : TE} (hu : X.A.units + 1 < cLine) (hc : X.calm = true) (hN : X.N.Nodup) (hy : X.N[i]? = some y) (hyl : X.env.scope.names.lookup y = some .local)
    (hsw : swapsWith (.DictComp ke ve [⟨tg, iter, ifs, 0⟩] sc pos) (some (.Name y py)) spos.line X.env = pure true) (hi : PI X tg iter wi) (blk : BlkOk X.N X.env.scope sc own)
    (hg : ∀ (s : Shared) (H : Hp) (C : Addr) (cl : List (Str × Addr)) (fp : List Addr), PG (X.blk s H sc (compEnvC sc cl C X.env) fp) tg g)
    (ht : ∀ (s : Shared) (H : Hp) (C : Addr) (cl : List (Str × Addr)) (fp : List Addr), PTs (X.blk s H sc (compEnvC sc cl C X.env) fp) ifs tt)
    (hk : ∀ (s : Shared) (H : Hp) (C : Addr) (cl : List (Str × Addr)) (fp : List Addr), PE (X.blk s H sc (compEnvC sc cl C X.env) fp) ke tk)
    (hv : ∀ (s : Shared) (H : Hp) (C : Addr) (cl : List (Str × Addr)) (fp : List Addr), PE (X.blk s H sc (compEnvC sc cl C X.env) fp) ve tv) (fold : ∀ x, foldedSetIterable iter X.env x = pure x) :
    PS X (.Assign [.Name y py] (.DictComp ke ve [⟨tg, iter, ifs, 0⟩] sc pos) spos) (tAsg (tDcT wi g tt tk tv (own.map (·.2))) (gName i)) := by
  refine ⟨fun pins s σ H D I h => ?_⟩
  rw [exec_Assign_Name_used _ _ _ _ hsw]
  refine wpAny_bind (wpAny_standAt (wpAny_bind ?_))
  show wpAny _ X.A (do let _ ← comprehension (.DictComp ke ve [⟨tg, iter, ifs, 0⟩] sc pos) sc X.env (firstIterPos [⟨tg, iter, ifs, 0⟩] pos) newDict false (eval iter X.env) (some (assign (.Name y py) X.env))) _ _ s
  have h0 : tDcT wi g tt tk tv (own.map (·.2)) σ H (fun x H1 => gName i x σ H1 D.nx) := h
  refine wpAny_bind (thn (dcT_core (Qf := fun _ s' => SP X pins D .next s') hu hc hN I hi blk hg ht hk hv fold h0 fun B C s' m H' I' qq hn fr => ?_) fun _ s' z => wpAny_pure (wpAny_pure z))
  show wpAny _ _ (assign (.Name y py) X.env (.ref B)) _ _ _
  refine wpAny_assign_Name (store_ok2 (v := V.ref B) I' hN hy (.inl hyl) rfl (fun s2 I2 ⟨a, sb, ha⟩ => ?_) (.inr hyl))
  obtain ⟨f0, f1, f2, f3, f4, f5⟩ := fr
  have ne : C ≠ a := ha.elim (fun z => by rw [z]; exact f1) fun z e => f4 y a z e.symm
  exact ⟨m, hn.sameBut sb ne, fun h3 sb3 => ⟨_, H', I2.turned (t' := s2.toks) (fun b o hb e => (sb3.2 b hb).trans e) f0 f1 f3 f4 f5, qq⟩⟩
theorem sw_trueD {ke ve : Expr} {gs : List Comprehension} {scope : Scope} {pos py : Pos} {y : Str} {l : Nat} {env : Env} (hk : env.scope.kind = .function) (hy : env.scope.names.lookup y = some .local) (hl : (py.line == pos.line) = true)
    (ha : (scope.names.any fun (n, k) => n == y && (k == .local || k == .cell)) = false) : swapsWith (.DictComp ke ve gs scope pos) (some (.Name y py)) l env = pure true := by
  have k1 : env.kindOf y = some .local := hy
  have k2 : env.blockKind = .function := by unfold Env.blockKind; rw [hk]; rfl
  unfold swapsWith
  simp only [k2, k1, ha, Expr.pos, hl]
  rfl
end
/-! ### what it computes -/
def dcLoop (g : GF) (tt : TF) (fk fv : EF) (ρ : Ro) : List W → List (List Key × W) → Lg → Option (List (List Key × W) × Lg)
  | [], kvs, L => some (kvs, L)
  | x :: xs, kvs, L => match g x ρ with
    | none => none
    | some ρ1 => match tt ρ1 L with
      | none => none
      | some (false, L1) => dcLoop g tt fk fv ρ xs kvs L1
      | some (true, L1) => match fk ρ1 L1 with
        | none => none
        | some (k, L2) => match fv ρ1 L2 with
          | none => none
          | some (v, L3) => match asTKey k with
            | none => none
            | some kk => if kvs.length < 16777216 then dcLoop g tt fk fv ρ xs (putD kvs kk v) L3 else none
def cDc (src : AF) (g : GF) (tt : TF) (fk fv : EF) (vs : List Nat) : NF := fun ρ L => match src ρ L with
  | none => none
  | some (xs, L1) => match dcLoop g tt fk fv (wipeR ρ vs) xs [] L1 with
    | none => none
    | some (kvs, L2) => some (.dT kvs, L2)
section
variable {X : Cx}
theorem dc_w {J : It} {xs : List W} {g : GF} {tt : TF} {fk fv : EF} {ix vs : List Nat} (hix : ∀ i ∈ ix, i ∈ vs)
    (gW : TG) (tW : TT) (kW vW : TE)
    (hg : ∀ {Zx Z F : Hp} {φ : List Addr} {L : Lg} {ρ ρ' : Ro} {σ : L2.St} {H : Hp} {w : W} {v : V}, Hs X.K X.mg Z F φ L H → Ss X.K Zx Z F φ ρ σ → R X.K F φ w v → g w ρ = some ρ' →
      ∀ Q : L2.St → Hp → Prop, (∀ σ', Ss X.K Zx Z F φ ρ' σ' → (∀ vs, (∀ i ∈ ix, i ∈ vs) → wipe σ' vs = wipe σ vs) → Q σ' H) → gW v σ H Q)
    (ht : ∀ {Zx Z F : Hp} {φ : List Addr} {L : Lg} {ρ : Ro} {σ : L2.St} {H : Hp} {w : Bool} {L' : Lg}, Hs X.K X.mg Z F φ L H → Ss X.K Zx Z F φ ρ σ → tt ρ L = some (w, L') →
      ∀ Q : Bool → Hp → Prop, (∀ (F' : Hp) (φ' : List Addr) (H' : Hp), Sub F F' → φ <+: φ' → Hs X.K X.mg Z F' φ' L' H' → Q w H') → tW σ H Q)
    (hk : ∀ {Zx Z F : Hp} {φ : List Addr} {L : Lg} {ρ : Ro} {σ : L2.St} {H : Hp} {w : W} {L' : Lg}, Hs X.K X.mg Z F φ L H → Ss X.K Zx Z F φ ρ σ → fk ρ L = some (w, L') →
      ∀ Q : VK, (∀ (F' : Hp) (φ' : List Addr) (H' : Hp) (v : V), Sub F F' → φ <+: φ' → Hs X.K X.mg Z F' φ' L' H' → R X.K F' φ' w v → Q v H') → kW σ H Q)
    (he : ∀ {Zx Z F : Hp} {φ : List Addr} {L : Lg} {ρ : Ro} {σ : L2.St} {H : Hp} {w : W} {L' : Lg}, Hs X.K X.mg Z F φ L H → Ss X.K Zx Z F φ ρ σ → fv ρ L = some (w, L') →
      ∀ Q : VK, (∀ (F' : Hp) (φ' : List Addr) (H' : Hp) (v : V), Sub F F' → φ <+: φ' → Hs X.K X.mg Z F' φ' L' H' → R X.K F' φ' w v → Q v H') → vW σ H Q)
    {Zx Z F1 : Hp} {φ1 : List Addr} {L1 L9 : Lg} {ρ : Ro} {σ : L2.St} {H1 : Hp} {res : List (List Key × W)} (hs1 : Hs X.K X.mg Z F1 φ1 L1 H1) (ss : Ss X.K Zx Z F1 φ1 ρ σ) (itok : ItOk X.K X.mg F1 φ1 J xs) (e2 : dcLoop g tt fk fv (wipeR ρ vs) xs [] L1 = some (res, L9))
    (Q : VK) (q : ∀ (F' : Hp) (φ' : List Addr) (H' : Hp) (p : Addr) (o : HO), Sub F1 F' → φ1 <+: φ' → Z p = none → Hs X.K X.mg (upd Z p o) F' φ' L9 H' → MOk X.K F' φ' (.dT res) o → Q (.ref p) H') {D : Addr} (hD : H1 D = none) :
    ∃ W : Nat → Nat → Hp → Prop, (∃ m, W 0 m (upd H1 D (.dT []))) ∧ ∀ i m H, W i m H →
      (J.stop i H ∧ Q (.ref D) H) ∨ (J.go i H ∧ ∃ Nx : Hp → Prop, (∀ H', Nx H' → ∃ m', m' < m ∧ W (i + 1) m' H') ∧ ∀ x H', J.yld i H x H' → tTurnT gW tW kW vW vs σ D Nx x H') := by
  have zD : Z D = none := (hs1.free hD).2.1
  refine ⟨fun i mm H' => mm = xs.length - i ∧ i ≤ xs.length ∧ ∃ (F2 : Hp) (φ2 : List Addr) (L3 : Lg) (kvs : List (List Key × W)) (vkvs : List (List Key × V)), Sub F1 F2 ∧ φ1 <+: φ2 ∧ Hs X.K X.mg (upd Z D (.dT vkvs)) F2 φ2 L3 H' ∧ (kvs.map Prod.fst = vkvs.map Prod.fst ∧ Rs X.K F2 φ2 (kvs.map Prod.snd) (vkvs.map Prod.snd)) ∧
    dcLoop g tt fk fv (wipeR ρ vs) (xs.drop i) kvs L3 = some (res, L9),
    ⟨xs.length, rfl, Nat.zero_le _, F1, φ1, L1, [], [], Sub.refl F1, List.prefix_refl φ1, hs1.fresh hD, ⟨rfl, .nil⟩, by simpa using e2⟩, ?_⟩
  rintro i mm H' ⟨rfl, hi', F2, φ2, L3, kvs, vkvs, s2, p2, hs2, rel, e3⟩
  obtain ⟨it1, it2⟩ := itok i s2 p2 hs2
  by_cases hlt : i < xs.length
  · obtain ⟨go, yl⟩ := it1 _ (List.getElem?_eq_getElem hlt)
    refine .inr ⟨go, fun H'' => ∃ (F2 : Hp) (φ2 : List Addr) (L3 : Lg) (kvs : List (List Key × W)) (vkvs : List (List Key × V)), Sub F1 F2 ∧ φ1 <+: φ2 ∧ Hs X.K X.mg (upd Z D (.dT vkvs)) F2 φ2 L3 H'' ∧ (kvs.map Prod.fst = vkvs.map Prod.fst ∧ Rs X.K F2 φ2 (kvs.map Prod.snd) (vkvs.map Prod.snd)) ∧
      dcLoop g tt fk fv (wipeR ρ vs) (xs.drop (i + 1)) kvs L3 = some (res, L9), fun H'' n => ⟨xs.length - (i + 1), by omega, rfl, hlt, n⟩, fun v H3 y => ?_⟩
    obtain ⟨F3, s3, hs3, r3⟩ := yl v H3 y
    rw [List.drop_eq_getElem_cons hlt] at e3
    unfold dcLoop at e3
    split at e3
    · cases e3
    rename_i ρ1 g1
    have s13 : Sub F1 F3 := s2.trans s3
    have ssw : Ss X.K (fun _ => none) (upd Z D (.dT vkvs)) F3 φ2 (wipeR ρ vs) (wipe σ vs) := by
      have k := (ss.mono s13 p2).wiped vs
      exact ⟨k.len, k.va, fun j m' ej => let ⟨a, o, h1, h2, h3, h4⟩ := k.ow j m' ej; ⟨a, o, h1, by rw [upd_ne (ne_of_none h2 zD)]; exact h2, rfl, h4⟩, k.sep, fun _ _ z => nomatch z⟩
    refine hg hs3 ssw r3 g1 _ fun σ2 ss2 wq => ⟨(wq _ hix).trans (wipe_wipe σ _), ?_⟩
    split at e3
    · cases e3
    · rename_i L4 t1
      refine ht hs3 ss2 t1 _ fun F4 φ4 H4 s4 p4 hs4 => ?_
      rw [if_neg (by decide)]
      exact ⟨F4, φ4, L4, kvs, vkvs, s13.trans s4, List.IsPrefix.trans p2 p4, hs4, ⟨rel.1, rel.2.mono (s3.trans s4) p4⟩, e3⟩
    · rename_i L4 t1
      refine ht hs3 ss2 t1 _ fun F4 φ4 H4 s4 p4 hs4 => ?_
      rw [if_pos rfl]
      split at e3
      · cases e3
      rename_i kw L5 e5
      split at e3
      · cases e3
      rename_i vw L6 e6
      split at e3
      · cases e3
      rename_i kk e7
      split at e3
      · rename_i hz
        refine hk hs4 (ss2.mono s4 p4) e5 _ fun F5 φ5 H5 vk s5 p5 hs5 r5 => ?_
        refine he hs5 (ss2.mono (s4.trans s5) (List.IsPrefix.trans p4 p5)) e6 _ fun F6 φ6 H6 vv s6 p6 hs6 r6 => ?_
        obtain ⟨kb, rfl, hkb⟩ := asTKey_rel (r5.mono s6 p6) e7
        have hd6 := (hs6.ext D (.dT vkvs) upd_same).1
        have rel6 := rel.2.mono (((s3.trans s4).trans s5).trans s6) (List.IsPrefix.trans (List.IsPrefix.trans p4 p5) p6)
        refine ⟨vkvs, kk, kb, rfl, hs6.sub _ _ hkb, hd6, by rw [← keys_len rel.1, sizeLine_eq]; exact hz, ?_⟩
        have hs7 := hs6.turn (o' := .dT (putK vkvs kk vv)) (p := D) upd_same
        rw [upd_upd] at hs7
        exact ⟨F6, φ6, L6, _, _, ((s13.trans s4).trans s5).trans s6, List.IsPrefix.trans (List.IsPrefix.trans (List.IsPrefix.trans p2 p4) p5) p6, hs7, put_rel kk r6 rel.1 rel6, e3⟩
      · cases e3
  · have ei : i = xs.length := by omega
    subst ei
    refine .inl ⟨it2 (Nat.le_refl _), ?_⟩
    rw [List.drop_length] at e3
    simp only [dcLoop, Option.some.injEq, Prod.mk.injEq] at e3
    obtain ⟨rfl, rfl⟩ := e3
    exact q F2 φ2 H' D _ s2 p2 zD hs2 rel
theorem in_dc {ke ve tg iter : Expr} {ifs : List Expr} {scope : Scope} {own : List (Str × Nat)} {pos : Pos} {src : AF} {g : GF} {tt : TF} {fk fv : EF} {ix : List Nat} (hu : X.A.units + 1 < cLine) (hc : X.calm = true) (hN : X.N.Nodup) (hi : II X tg iter src) (ok : BlkOk X.N X.env.scope scope own) (hix : ∀ i ∈ ix, i ∈ own.map (·.2))
    (hg : ∀ (s : Shared) (H : Hp) (C : Addr) (cl : List (Str × Addr)) (fp : List Addr), IG (X.blk s H scope (compEnvC scope cl C X.env) fp) tg ix g) (ht : ∀ (s : Shared) (H : Hp) (C : Addr) (cl : List (Str × Addr)) (fp : List Addr), ITs (X.blk s H scope (compEnvC scope cl C X.env) fp) ifs tt)
    (hk : ∀ (s : Shared) (H : Hp) (C : Addr) (cl : List (Str × Addr)) (fp : List Addr), IE (X.blk s H scope (compEnvC scope cl C X.env) fp) ke fk)
    (he : ∀ (s : Shared) (H : Hp) (C : Addr) (cl : List (Str × Addr)) (fp : List Addr), IE (X.blk s H scope (compEnvC scope cl C X.env) fp) ve fv) (hs' : ∀ x, foldedSetIterable iter X.env x = pure x := by intro _; rfl) :
    IN X (.DictComp ke ve [⟨tg, iter, ifs, 0⟩] scope pos) (cDc src g tt fk fv (own.map (·.2))) := by
  refine ⟨fun {Zx Z F φ L ρ σ H m L'} hs ss h Q q => ?_⟩
  let gW : TG := fun v σ H Q => ∀ (s : Shared) (H0 : Hp) (C : Addr) (cl : List (Str × Addr)) (fp : List Addr), WpG (X.blk s H0 scope (compEnvC scope cl C X.env) fp) tg v σ H Q
  let tW : TT := fun σ H Q => ∀ (s : Shared) (H0 : Hp) (C : Addr) (cl : List (Str × Addr)) (fp : List Addr), WpTs (X.blk s H0 scope (compEnvC scope cl C X.env) fp) ifs σ H Q
  let kW : TE := fun σ H Q => ∀ (s : Shared) (H0 : Hp) (C : Addr) (cl : List (Str × Addr)) (fp : List Addr), Wp (X.blk s H0 scope (compEnvC scope cl C X.env) fp) ke σ H Q
  let vW : TE := fun σ H Q => ∀ (s : Shared) (H0 : Hp) (C : Addr) (cl : List (Str × Addr)) (fp : List Addr), Wp (X.blk s H0 scope (compEnvC scope cl C X.env) fp) ve σ H Q
  refine PE.wp (t := tDcT (WpI X tg iter) gW tW kW vW (own.map (·.2))) (pe_dcT hu hc hN wpI ok (fun s H C cl fp => ⟨fun pins s' σ H v u Q I r h => h s _ C cl fp pins s' u I r⟩) (fun s H C cl fp => ⟨fun pins s' σ H Q I h => h s _ C cl fp pins s' I⟩) (fun s H C cl fp => ⟨fun pins s' σ H Q I h => h s _ C cl fp pins s' I⟩) (fun s H C cl fp => ⟨fun pins s' σ H Q I h => h s _ C cl fp pins s' I⟩) hs') ?_
  unfold cDc at h
  split at h
  · cases h
  rename_i xs L1 e1
  split at h
  · cases h
  rename_i kvs L2 e2
  simp only [Option.some.injEq, Prod.mk.injEq] at h
  obtain ⟨rfl, rfl⟩ := h
  refine hi.run hs ss e1 _ fun F1 φ1 H1 J s1 p1 hs1 itok => fun D hD => ?_
  refine dc_w hix gW tW kW vW ?_ ?_ ?_ ?_ hs1 (ss.mono s1 p1) itok e2 Q (fun F' φ' H' p o s' p' z hs' m' => q F' φ' H' p o (s1.trans s') (List.IsPrefix.trans p1 p') z hs' m') hD
  · intro _ _ _ _ _ _ _ _ _ _ _ h1 h2 h3 h4 Q q s H0 C cl fp
    exact (hg s H0 C cl fp).run h1 h2 h3 h4 Q q
  · intro _ _ _ _ _ _ _ _ _ _ h1 h2 h3 Q q s H0 C cl fp
    obtain ⟨t, k1, k2⟩ := (ht s H0 C cl fp).run h1 h2 h3 Q q
    exact PTs.wp k1 k2
  · intro _ _ _ _ _ _ _ _ _ _ h1 h2 h3 Q q s H0 C cl fp
    exact (hk s H0 C cl fp).run h1 h2 h3 Q q
  · intro _ _ _ _ _ _ _ _ _ _ h1 h2 h3 Q q s H0 C cl fp
    exact (he s H0 C cl fp).run h1 h2 h3 Q q
theorem is_setDc {i : Nat} {y : Str} {py : Pos} {ke ve tg iter : Expr} {ifs : List Expr} {scope : Scope} {own : List (Str × Nat)} {pos spos : Pos} {src : AF} {g : GF} {tt : TF} {fk fv : EF} {ix : List Nat} (hu : X.A.units + 1 < cLine) (hc : X.calm = true) (hN : X.N.Nodup) (hy : X.N[i]? = some y) (hyl : X.env.scope.names.lookup y = some .local)
    (hsw : swapsWith (.DictComp ke ve [⟨tg, iter, ifs, 0⟩] scope pos) (some (.Name y py)) spos.line X.env = pure true) (hi : II X tg iter src) (ok : BlkOk X.N X.env.scope scope own) (hix : ∀ i ∈ ix, i ∈ own.map (·.2))
    (hg : ∀ (s : Shared) (H : Hp) (C : Addr) (cl : List (Str × Addr)) (fp : List Addr), IG (X.blk s H scope (compEnvC scope cl C X.env) fp) tg ix g) (ht : ∀ (s : Shared) (H : Hp) (C : Addr) (cl : List (Str × Addr)) (fp : List Addr), ITs (X.blk s H scope (compEnvC scope cl C X.env) fp) ifs tt)
    (hk : ∀ (s : Shared) (H : Hp) (C : Addr) (cl : List (Str × Addr)) (fp : List Addr), IE (X.blk s H scope (compEnvC scope cl C X.env) fp) ke fk)
    (he : ∀ (s : Shared) (H : Hp) (C : Addr) (cl : List (Str × Addr)) (fp : List Addr), IE (X.blk s H scope (compEnvC scope cl C X.env) fp) ve fv) (hs' : ∀ x, foldedSetIterable iter X.env x = pure x := by intro _; rfl) :
    IS X (.Assign [.Name y py] (.DictComp ke ve [⟨tg, iter, ifs, 0⟩] scope pos) spos) (cSetO i (cDc src g tt fk fv (own.map (·.2)))) := by
  refine ⟨fun {Zx Z F φ L ρ σ H o} hs ss h D q => ?_⟩
  let gW : TG := fun v σ H Q => ∀ (s : Shared) (H0 : Hp) (C : Addr) (cl : List (Str × Addr)) (fp : List Addr), WpG (X.blk s H0 scope (compEnvC scope cl C X.env) fp) tg v σ H Q
  let tW : TT := fun σ H Q => ∀ (s : Shared) (H0 : Hp) (C : Addr) (cl : List (Str × Addr)) (fp : List Addr), WpTs (X.blk s H0 scope (compEnvC scope cl C X.env) fp) ifs σ H Q
  let kW : TE := fun σ H Q => ∀ (s : Shared) (H0 : Hp) (C : Addr) (cl : List (Str × Addr)) (fp : List Addr), Wp (X.blk s H0 scope (compEnvC scope cl C X.env) fp) ke σ H Q
  let vW : TE := fun σ H Q => ∀ (s : Shared) (H0 : Hp) (C : Addr) (cl : List (Str × Addr)) (fp : List Addr), Wp (X.blk s H0 scope (compEnvC scope cl C X.env) fp) ve σ H Q
  refine PS.wp (ps_setDcT (i := i) hu hc hN hy hyl hsw wpI ok (g := gW) (tt := tW) (tk := kW) (tv := vW) (fun s H C cl fp => ⟨fun pins s' σ H v u Q I r h => h s _ C cl fp pins s' u I r⟩) (fun s H C cl fp => ⟨fun pins s' σ H Q I h => h s _ C cl fp pins s' I⟩) (fun s H C cl fp => ⟨fun pins s' σ H Q I h => h s _ C cl fp pins s' I⟩) (fun s H C cl fp => ⟨fun pins s' σ H Q I h => h s _ C cl fp pins s' I⟩) hs') ?_
  unfold cSetO at h
  split at h
  · cases h
  rename_i m L9 e9
  split at h
  · rename_i hi'
    simp only [Option.some.injEq] at h
    subst h
    unfold cDc at e9
    split at e9
    · cases e9
    rename_i xs L1 e1
    split at e9
    · cases e9
    rename_i kvs L2 e2
    simp only [Option.some.injEq, Prod.mk.injEq] at e9
    obtain ⟨rfl, rfl⟩ := e9
    refine hi.run hs ss e1 _ fun F1 φ1 H1 J s1 p1 hs1 itok => fun B hB => ?_
    refine dc_w hix gW tW kW vW ?_ ?_ ?_ ?_ hs1 (ss.mono s1 p1) itok e2 (fun x H1 => gName i x σ H1 D.nx) (fun F' φ' H' p o s' p' z hs' m' => q _ F' φ' _ H' (s1.trans s') (List.IsPrefix.trans p1 p') hs' ((ss.mono (s1.trans s') (List.IsPrefix.trans p1 p')).setow hi' z m')) hB
    · intro _ _ _ _ _ _ _ _ _ _ _ h1 h2 h3 h4 Q q s H0 C cl fp
      exact (hg s H0 C cl fp).run h1 h2 h3 h4 Q q
    · intro _ _ _ _ _ _ _ _ _ _ h1 h2 h3 Q q s H0 C cl fp
      obtain ⟨t, k1, k2⟩ := (ht s H0 C cl fp).run h1 h2 h3 Q q
      exact PTs.wp k1 k2
    · intro _ _ _ _ _ _ _ _ _ _ h1 h2 h3 Q q s H0 C cl fp
      exact (hk s H0 C cl fp).run h1 h2 h3 Q q
    · intro _ _ _ _ _ _ _ _ _ _ h1 h2 h3 Q q s H0 C cl fp
      exact (he s H0 C cl fp).run h1 h2 h3 Q q
  · cases h
end
end Lf

set_option maxHeartbeats 4000000
/-! Lf, part AA: a box walked, a box read for a while as a value. -/
namespace Lf
open PySem PySem.Spec PyProof.Rows L2
/-! ### for x in a list in a box -/
def forBN (j : Nat) (g : GF) (body : SF) : Nat → Nat → Ro → Lg → Option Out
  | 0, _, _, _ => none
  | n + 1, i, ρ, L => match L[j]? with
    | some (.box (.lst ws)) => (match ws[i]? with
      | none => some (.nx ρ L)
      | some x => match g x ρ with
        | none => none
        | some ρ1 => match body ρ1 L with
          | none => none
          | some (.nx ρ2 L2) => forBN j g body n (i + 1) ρ2 L2
          | some (.ct ρ2 L2) => forBN j g body n (i + 1) ρ2 L2
          | some (.bk ρ2 L2) => some (.nx ρ2 L2)
          | some (.rt w L2) => some (.rt w L2))
    | _ => none
def cForB (i : Nat) (g : GF) (body : SF) : SF := fun ρ L => match ρ[i]? with
  | some (.va (.ob j)) => (match L[j]? with
    | some (.box (.lst ws)) => forBN j g body (ws.length + 1) 0 ρ L
    | _ => none)
  | _ => none
section
variable {X : Cx} {tg : Expr} {pos : Pos}
theorem is_forB {bd : List Stmt} {g : GF} {body : SF} {ix : List Nat} {x : Str} {px : Pos} (i : Nat) (hp : PassesOwn (model X.prog X.w) X.A X.env X.xe) (hc : X.calm = true) (hg : IG X tg ix g) (hb : ISs X bd body) (hN : X.N[i]? = some x := by rfl) (hv : Vis X.env.scope x := by first | exact Or.inl rfl | exact Or.inr (Or.inl rfl) | exact Or.inr (Or.inr rfl)) (hd : (x == ("__debug__" : Str)) = false := by decide)
    (hcd : (x == ("__classdict__" : Str)) = false := by decide) (hs' : ∀ y, foldedSetIterable (.Name x px) X.env y = pure y := by intro _; rfl) : IS X (.For tg (.Name x px) bd [] pos) (cForB i g body) := by
  refine ⟨fun {Zx Z F φ L ρ σ H o} hs ss h D q => PS.wp (ps_for hp hc (pi_list (pe_var hN hv hd hcd)) wpG wpSs hs') ?_⟩
  unfold cForB at h
  split at h
  · rename_i j e1
    split at h
    · rename_i ws0 e2
      obtain ⟨v, hv1, hv2⟩ := ss.va i _ e1
      cases hv2 with
      | ob hj =>
        rename_i a
        have box : ∀ {Z2 F2 H2 : Hp} {φ2 : List Addr} {L2 : Lg} {ws : List W}, φ <+: φ2 → Hs X.K X.mg Z2 F2 φ2 L2 H2 → L2[j]? = some (.box (.lst ws)) → ∃ vs, SqL X.K H2 a vs ∧ Rs X.K F2 φ2 ws vs := fun {Z2 F2 H2 φ2 L2 ws} p2 hs2 e => by
          obtain ⟨_, o2, g1, g2⟩ := hs2.objs _ _ _ e (pre_get p2 hj)
          cases o2 <;> first | exact g2.elim | skip
          exact ⟨_, .inl (.inl g1), g2⟩
        obtain ⟨vs0, sq0, _⟩ := box (List.prefix_refl φ) hs e2
        refine ⟨_, hv1, a, rfl, ⟨vs0, sq0⟩, ?_⟩
        refine ⟨fun k m σ' H' => ∃ (Z2 F2 : Hp) (φ2 : List Addr) (ρ2 : Ro) (L2 : Lg), Sub F F2 ∧ φ <+: φ2 ∧ Hs X.K X.mg Z2 F2 φ2 L2 H' ∧ Ss X.K Zx Z2 F2 φ2 ρ2 σ' ∧ forBN j g body m k ρ2 L2 = some o,
          ⟨_, Z, F, φ, ρ, L, Sub.refl F, List.prefix_refl φ, hs, ss, h⟩, ?_⟩
        rintro k m σ' H' ⟨Z2, F2, φ2, ρ2, L2, s2, p2, hs2, ss2, e3⟩
        cases m with
        | zero => cases e3
        | succ n =>
          unfold forBN at e3
          split at e3
          · rename_i ws e4
            obtain ⟨vs, sq, rel⟩ := box p2 hs2 e4
            split at e3
            · rename_i e5
              simp only [Option.some.injEq] at e3
              subst e3
              refine .inl ⟨⟨vs, sq, ?_⟩, q Z2 F2 φ2 σ' H' s2 p2 hs2 ss2⟩
              rw [← rel.length]
              exact List.getElem?_eq_none_iff.mp e5
            · rename_i y e5
              obtain ⟨vy, gy, ry⟩ := rel.get e5
              refine .inr ⟨⟨vs, vy, sq, gy⟩, fun σ' H' => ∃ (Z2 F2 : Hp) (φ2 : List Addr) (ρ2 : Ro) (L2 : Lg), Sub F F2 ∧ φ <+: φ2 ∧ Hs X.K X.mg Z2 F2 φ2 L2 H' ∧ Ss X.K Zx Z2 F2 φ2 ρ2 σ' ∧ forBN j g body n (k + 1) ρ2 L2 = some o,
                fun σ' H' w => ⟨n, Nat.lt_succ_self n, w⟩, fun z H3 yl => ?_⟩
              obtain ⟨rfl, yl⟩ := yl
              have : vy = z := Option.some.inj (gy.symm.trans (yl vs sq))
              subst this
              split at e3
              · cases e3
              rename_i ρ3 g1
              refine hg.run hs2 ss2 ry g1 _ fun σ4 ss4 _ => ?_
              split at e3
              · cases e3
              · rename_i ρ5 L5 e6
                exact hb.run hs2 ss4 e6 _ fun Z5 F5 φ5 σ5 H5 s5 p5 hs5 ss5 => ⟨Z5, F5, φ5, ρ5, L5, s2.trans s5, List.IsPrefix.trans p2 p5, hs5, ss5, e3⟩
              · rename_i ρ5 L5 e6
                exact hb.run hs2 ss4 e6 _ fun Z5 F5 φ5 σ5 H5 s5 p5 hs5 ss5 => ⟨Z5, F5, φ5, ρ5, L5, s2.trans s5, List.IsPrefix.trans p2 p5, hs5, ss5, e3⟩
              · rename_i ρ5 L5 e6
                cases e3
                exact hb.run hs2 ss4 e6 _ fun Z5 F5 φ5 σ5 H5 s5 p5 hs5 ss5 => q Z5 F5 φ5 σ5 H5 (s2.trans s5) (List.IsPrefix.trans p2 p5) hs5 ss5
              · rename_i w L5 e6
                cases e3
                exact hb.run hs2 ss4 e6 _ fun Z5 F5 φ5 H5 v5 s5 p5 z hs5 r5 => q Z5 F5 φ5 H5 v5 (s2.trans s5) (List.IsPrefix.trans p2 p5) z hs5 r5
          · cases e3
    · cases h
  · cases h
end
/-! ### a test under which a box stands still -/
def flatW : W → Bool
  | .non => true
  | .bl _ => true
  | .int _ => true
  | .str _ => true
  | .ty _ => true
  | _ => false
def flatOb : Ob → Bool
  | .ins _ fs => fs.all fun p => flatW p.2
  | .box (.lst ws) => ws.all flatW
  | .box (.dK kvs) => kvs.all fun p => flatW p.2
  | .box (.dT kvs) => kvs.all fun p => flatW p.2
  | .dead => true
  | .nd _ => false
theorem R.flat {K : PySem.W.Frag} {F F' : Hp} {φ φ' : List Addr} {w : W} {v : V} (hw : flatW w = true) (r : R K F φ w v) : R K F' φ' w v := by
  cases r <;> first | (cases hw; done) | constructor
theorem Rs.flat {K : PySem.W.Frag} {F F' : Hp} {φ φ' : List Addr} : ∀ {ws : List W} {vs : List V}, ws.all flatW = true → Rs K F φ ws vs → Rs K F' φ' ws vs
  | _, _, _, .nil => .nil
  | _, _, h, .cons r t => by
    rw [List.all_cons, Bool.and_eq_true] at h
    exact .cons (r.flat h.1) (Rs.flat h.2 t)
theorem all_snd {κ : Type} {kvs : List (κ × W)} (h : (kvs.all fun p => flatW p.2) = true) : (kvs.map Prod.snd).all flatW = true := by
  rw [List.all_map]; exact h
theorem ObOk.flat {K : PySem.W.Frag} {mg : Str → Option Value} {F F' H : Hp} {φ φ' : List Addr} {a : Addr} {o : Ob} (hF : F' a = none → F a = none) (ho : flatOb o = true) (h : ObOk K mg F' φ' H a o) : ObOk K mg F φ H a o := by
  cases o with
  | ins c fs => obtain ⟨n, C, dx, vs, h1, h2, h3, h4⟩ := h; exact ⟨hF n, C, dx, vs, h1, h2, h3, h4.flat (all_snd ho)⟩
  | box m =>
    obtain ⟨n, u, h1, h2⟩ := h
    refine ⟨hF n, u, h1, ?_⟩
    cases m <;> cases u <;> first | exact h2.elim | exact Rs.flat ho h2 | exact ⟨h2.1, h2.2.flat (all_snd ho)⟩
  | dead => exact True.intro
  | nd kvs => cases ho
section
variable {K : PySem.W.Frag} {mg : Str → Option Value} {Z F : Hp} {φ : List Addr} {L : Lg} {H : Hp}
/-- the box at j, its object o, is frozen, and one can come back -/
theorem Hs.still {j : Nat} {a : Addr} {m : M} (h : Hs K mg Z F φ L H) (hL : L[j]? = some (.box m)) (ha : φ[j]? = some a) :
    ∃ F', Sub F F' ∧ Hs K mg Z F' φ (L.set j .dead) H ∧ R K F' φ m.fz (.ref a) ∧
      ∀ (F2 H2 : Hp) (φ2 : List Addr) (L2 : Lg), Sub F' F2 → φ <+: φ2 → Hs K mg Z F2 φ2 L2 H2 → L2.all flatOb = true → Hs K mg Z F φ2 (L2.set j (.box m)) H2 := by
  obtain ⟨nF, o, hH, mk⟩ := h.objs _ _ _ hL ha
  have am : a ∈ φ := List.mem_of_getElem? ha
  have sb : Sub F (upd F a o) := Sub.new nF
  refine ⟨upd F a o, sb, ⟨fun b u e => ?_, fun b u e => ?_, by rw [List.length_set]; exact h.len, h.nd, h.has, fun i u b e1 e2 => ?_⟩, (mk.mono sb (List.prefix_refl φ)).fz upd_same, fun F2 H2 φ2 L2 s2 p2 hs2 fl => ?_⟩
  · by_cases q : b = a
    · subst q; rw [upd_same] at e; cases e; exact hH
    · rw [upd_ne q] at e; exact h.sub b u e
  · obtain ⟨g1, g2, g3, g4⟩ := h.ext b u e
    have q : b ≠ a := fun q => g3 (q ▸ am)
    exact ⟨g1, by rw [upd_ne q]; exact g2, g3, g4⟩
  · by_cases q : j = i
    · subst q
      rw [List.getElem?_set_self (List.getElem?_eq_some_iff.mp hL).1] at e1
      cases e1
      exact True.intro
    · rw [List.getElem?_set_ne q] at e1
      have qb : b ≠ a := fun z => by
        subst z
        exact q ((List.getElem?_inj (List.getElem?_eq_some_iff.mp ha).1 h.nd).mp (ha.trans e2.symm))
      exact (h.objs i u b e1 e2).mono sb (List.prefix_refl φ) (fun z => by rw [upd_ne qb]; exact z) fun u e => e
  · have s3 := sb.trans s2
    have down : ∀ {b : Addr}, F2 b = none → F b = none := fun {b} e => by
      cases z : F b with
      | none => rfl
      | some u => rw [s3 b u z] at e; cases e
    have hj := pre_get p2 ha
    refine ⟨fun b u e => hs2.sub b u (s3 b u e), fun b u e => ?_, by rw [List.length_set]; exact hs2.len, hs2.nd, hs2.has, fun i u b e1 e2 => ?_⟩
    · obtain ⟨g1, g2, g3, g4⟩ := hs2.ext b u e
      exact ⟨g1, down g2, g3, g4⟩
    · by_cases q : j = i
      · subst q
        have lt : j < L2.length := by rw [← hs2.len]; exact (List.getElem?_eq_some_iff.mp hj).1
        rw [List.getElem?_set_self lt] at e1
        cases e1
        rw [hj] at e2
        cases e2
        exact ⟨nF, o, hs2.sub _ _ (s2 _ _ upd_same), mk.mono (Sub.refl F) p2⟩
      · rw [List.getElem?_set_ne q] at e1
        have fo : flatOb u = true := List.all_eq_true.mp fl u (List.mem_of_getElem? e1)
        exact (hs2.objs i u b e1 e2).flat down fo
end
def cSnapT (i : Nat) (t : TF) : TF := fun ρ L => match ρ[i]? with
  | some (.va (.ob j)) => (match L[j]? with
    | some (.box m) => (match t (ρ.set i (.va m.fz)) (L.set j .dead) with
      | some (k, L') => if L'.all flatOb = true then some (k, L'.set j (.box m)) else none
      | none => none)
    | _ => none)
  | _ => none
section
variable {X : Cx} {e : Expr}
theorem IT.snap {t : TF} (i : Nat) (h : IT X e t) : IT X e (cSnapT i t) := by
  refine ⟨fun {Zx Z F φ L ρ σ H w L'} hs ss h' Q q => ?_⟩
  unfold cSnapT at h'
  split at h'
  · rename_i j e1
    split at h'
    · rename_i m e2
      split at h'
      · rename_i k L2 e3
        split at h'
        · rename_i fl
          simp only [Option.some.injEq, Prod.mk.injEq] at h'
          obtain ⟨rfl, rfl⟩ := h'
          obtain ⟨v, h1, h2⟩ := ss.va i _ e1
          cases h2 with
          | ob hj =>
            obtain ⟨F1, s1, hs1, r1, back⟩ := hs.still e2 hj
            refine h.run hs1 ((ss.mono s1 (List.prefix_refl φ)).reva ⟨_, e1⟩ h1 r1) e3 Q fun F2 φ2 H2 s2 p2 hs2 => ?_
            exact q F φ2 H2 (Sub.refl F) p2 (back F2 H2 φ2 L2 s2 p2 hs2 fl)
        · cases h'
      · cases h'
    · cases h'
  · cases h'
end
/-- a box, made a value -/
def cFzE (f : EF) : EF := fun ρ L => match f ρ L with
  | some (.ob j, L1) => (match L1[j]? with
    | some (.box m) => some (m.fz, L1.set j .dead)
    | _ => none)
  | _ => none
theorem IE.frB {X : Cx} {e : Expr} {f : EF} (h : IE X e f) : IE X e (cFzE f) := by
  refine ⟨fun {Zx Z F φ L ρ σ H w L'} hs ss h' Q q => ?_⟩
  unfold cFzE at h'
  split at h'
  · rename_i j L1 e1
    split at h'
    · rename_i m e2
      simp only [Option.some.injEq, Prod.mk.injEq] at h'
      obtain ⟨rfl, rfl⟩ := h'
      refine h.run hs ss e1 Q fun F1 φ1 H1 v s1 p1 hs1 r1 => ?_
      cases r1 with
      | ob hj =>
        obtain ⟨F2, s2, hs2, r2⟩ := hs1.frzB e2 hj
        exact q F2 φ1 H1 _ (s1.trans s2) p1 hs2 r2
    · cases h'
  · cases h'
/-! ### as equations -/
@[simp] theorem e_cFzE (f : EF) (ρ : Ro) (L : Lg) : cFzE f ρ L = (match f ρ L with
  | some (.ob j, L1) => (match L1[j]? with
    | some (.box m) => some (m.fz, L1.set j .dead)
    | _ => none)
  | _ => none) := id rfl
@[simp] theorem e_cForB (i : Nat) (g : GF) (body : SF) (ρ : Ro) (L : Lg) : cForB i g body ρ L = (match ρ[i]? with
  | some (.va (.ob j)) => (match L[j]? with
    | some (.box (.lst ws)) => forBN j g body (ws.length + 1) 0 ρ L
    | _ => none)
  | _ => none) := id rfl
@[simp] theorem e_cSnapT (i : Nat) (t : TF) (ρ : Ro) (L : Lg) : cSnapT i t ρ L = (match ρ[i]? with
  | some (.va (.ob j)) => (match L[j]? with
    | some (.box m) => (match t (ρ.set i (.va m.fz)) (L.set j .dead) with
      | some (k, L') => if L'.all flatOb = true then some (k, L'.set j (.box m)) else none
      | none => none)
    | _ => none)
  | _ => none) := id rfl
@[simp] theorem e_cDelB (i : Nat) (fk : EF) (ρ : Ro) (L : Lg) : cDelB i fk ρ L = (match fk ρ L with
  | none => none
  | some (k, L1) => match ρ[i]? with
    | some (.va (.ob j)) => (match L1[j]? with
      | some (.box (.dT kvs)) => (match asTKey k with
        | some k => if (kvs.any fun p => decide (p.1 = k)) = true then some (.nx ρ (L1.set j (.box (.dT (dropW kvs k))))) else none
        | none => none)
      | _ => none)
    | _ => none) := id rfl
@[simp] theorem e_cDc (src : AF) (g : GF) (tt : TF) (fk fv : EF) (vs : List Nat) (ρ : Ro) (L : Lg) : cDc src g tt fk fv vs ρ L = (match src ρ L with
  | none => none
  | some (xs, L1) => match dcLoop g tt fk fv (wipeR ρ vs) xs [] L1 with
    | none => none
    | some (kvs, L2) => some (.dT kvs, L2)) := id rfl
end Lf

set_option maxHeartbeats 4000000
/-! Lf, part AB: tables of sets with masks up to 8191. -/
namespace Lf
open PySem PySem.Spec PyProof.Rows L2
/-! ### the round, told by one number's bits -/
def hitB (m : Nat) : Nat → Nat → Nat → Nat
  | 0, _, acc => acc
  | n + 1, x, acc => if x ≤ m then hitB m n ((x * 5 + 1) % (m + 1)) (acc ||| 2 ^ x) else 0
def lastB (m : Nat) : Nat → Nat → Nat
  | 0, x => x
  | n + 1, x => if x ≤ m then lastB m n ((x * 5 + 1) % (m + 1)) else 0
theorem lcgN_le (m : Nat) : ∀ k, lcgN m k ≤ m
  | 0 => Nat.zero_le _
  | k + 1 => Nat.le_of_lt_succ (Nat.mod_lt _ (Nat.succ_pos m))
theorem hitB_tells (m j : Nat) : ∀ (n k0 acc : Nat), (hitB m n (lcgN m k0) acc).testBit j = true → acc.testBit j = true ∨ ∃ k, k < k0 + n ∧ lcgN m k = j
  | 0, k0, acc, h => .inl h
  | n + 1, k0, acc, h => by
    rw [hitB, if_pos (lcgN_le m k0)] at h
    rcases hitB_tells m j n (k0 + 1) (acc ||| 2 ^ lcgN m k0) h with h | ⟨k, h1, h2⟩
    · rw [Nat.testBit_or, Bool.or_eq_true] at h
      rcases h with h | h
      · exact .inl h
      · rw [Nat.testBit_two_pow] at h
        exact .inr ⟨k0, by omega, of_decide_eq_true h⟩
    · exact .inr ⟨k, by omega, h2⟩
theorem lastB_eq (m : Nat) : ∀ (n k0 : Nat), lastB m n (lcgN m k0) = lcgN m (k0 + n)
  | 0, _ => rfl
  | n + 1, k0 => by
    rw [lastB, if_pos (lcgN_le m k0)]
    exact (lastB_eq m n (k0 + 1)).trans (by rw [Nat.add_right_comm]; rfl)
/-- the masks that come -/
def MG (m : Nat) : Prop := m = 7 ∨ m = 31 ∨ m = 127 ∨ m = 511 ∨ m = 2047 ∨ m = 8191
def cycB (m : Nat) : Bool := hitB m (m + 1) 0 0 == 2 ^ (m + 1) - 1 && lastB m (m + 1) 0 == 0
theorem cyc7 : cycB 7 = true := by decide +kernel
theorem cyc31 : cycB 31 = true := by decide +kernel
theorem cyc127 : cycB 127 = true := by decide +kernel
theorem cyc511 : cycB 511 = true := by decide +kernel
theorem cyc2047 : cycB 2047 = true := by decide +kernel
theorem cyc8191 : cycB 8191 = true := by decide +kernel
theorem MG.cyc {m : Nat} (h : MG m) : cycB m = true := by
  rcases h with rfl | rfl | rfl | rfl | rfl | rfl
  · exact cyc7
  · exact cyc31
  · exact cyc127
  · exact cyc511
  · exact cyc2047
  · exact cyc8191
theorem MG.round {m : Nat} (h : MG m) : (∀ j, j ≤ m → ∃ b, b ≤ m ∧ lcgN m b = j) ∧ ∀ k, lcgN m (m + 1 + k) = lcgN m k := by
  have c := h.cyc
  unfold cycB at c
  rw [Bool.and_eq_true, beq_iff_eq, beq_iff_eq] at c
  obtain ⟨c1, c2⟩ := c
  constructor
  · intro j hj
    have bit : (hitB m (m + 1) (lcgN m 0) 0).testBit j = true := by
      rw [show lcgN m 0 = 0 from rfl, c1, Nat.testBit_two_pow_sub_one]
      exact decide_eq_true (by omega)
    rcases hitB_tells m j (m + 1) 0 0 bit with z | ⟨k, h1, h2⟩
    · rw [Nat.zero_testBit] at z; cases z
    · exact ⟨k, by omega, h2⟩
  · intro k
    induction k with
    | zero =>
      have := lastB_eq m (m + 1) 0
      rw [show lcgN m 0 = 0 from rfl, c2, Nat.zero_add] at this
      exact this.symm
    | succ k ih => exact congrArg (fun z => (z * 5 + 1) % (m + 1)) ih
/-- each slot begins a run within m + 12 runs -/
theorem MG.full {m : Nat} (hm : MG m) (h : Int) {j : Nat} (hj : j ≤ m) : ∃ n, n ≤ m + 12 ∧ runI m (SetTable.bits h) n = j := by
  obtain ⟨surj, per⟩ := hm.round
  obtain ⟨a, ha, ea⟩ := surj _ (runI_le m (SetTable.bits h) 12)
  obtain ⟨b, hb, eb⟩ := surj j hj
  have tail : ∀ k, runI m (SetTable.bits h) (12 + k) = lcgN m (a + k) := fun k => by
    rw [runI_tail (bits_lt h), ← ea, lcgN_add]
  by_cases c : a ≤ b
  · exact ⟨12 + (b - a), by omega, by rw [tail, show a + (b - a) = b by omega, eb]⟩
  · exact ⟨12 + (m + 1 + b - a), by omega, by rw [tail, show a + (m + 1 + b - a) = m + 1 + b by omega, per, eb]⟩
theorem MG.meets {m : Nat} (hm : MG m) (h : Int) {j : Nat} (hj : j ≤ m) : ∃ k, k < 10 * SetTable.turns m ∧ way m h k = j := by
  obtain ⟨n, hn, e⟩ := hm.full h hj
  obtain ⟨k, hk, e2⟩ := run_nth m (SetTable.bits h) n
  refine ⟨k, Nat.lt_of_le_of_lt hk (by unfold SetTable.turns; omega), ?_⟩
  show (nth m _ k).j = j
  rw [e2]; exact e
theorem MG.odd {m : Nat} (hm : MG m) : m % 2 = 1 := by
  rcases hm with rfl | rfl | rfl | rfl | rfl | rfl <;> rfl
theorem MG.small {m : Nat} (hm : MG m) : 7 ≤ m ∧ m ≤ 8191 := by
  rcases hm with rfl | rfl | rfl | rfl | rfl | rfl <;> decide
theorem way_in (m : Nat) (h : Int) (k : Nat) : way m h k ≤ m := by
  have hi : SetTable.bits h % (m + 1) ≤ m := Nat.le_of_lt_succ (Nat.mod_lt _ (Nat.succ_pos m))
  obtain ⟨r1, r2, _⟩ := runEnd_bd hi
  exact Nat.le_trans (Nat.le_add_right _ _) (nth_in k (runAt m (SetTable.bits h % (m + 1)) (SetTable.bits h)) (show SetTable.bits h % (m + 1) + (SetTable.runEnd m (SetTable.bits h % (m + 1)) - SetTable.bits h % (m + 1)) ≤ m by omega))
/-! ### a good table -/
/-- slot j is where the way of h ends that goes over taken slots alone -/
def Ends1 (m : Nat) (taken : Nat → Prop) (h : Int) (j : Nat) : Prop := ∃ k, way m h k = j ∧ ∀ i, i < k → taken (way m h i)
structure Tab (t : SetTable) (hs : List Int) : Prop where
  mg : MG t.mask
  dm : t.dummies = #[]
  ris : Ris t.place.toList
  sz : t.place.size = hs.length
  bd : ∀ x ∈ t.place.toList, x ≤ t.mask
  at_ : ∀ (i j : Nat) (h : Int), hs[i]? = some h → t.place.toList[i]? = some j → Ends1 t.mask (· ∈ t.place.toList) h j
theorem Tab.gap {t : SetTable} {hs : List Int} (T : Tab t hs) (room : hs.length ≤ t.mask) (h : Int) : ∃ K, K < 10 * SetTable.turns t.mask ∧ way t.mask h K ∉ t.place.toList ∧ ∀ k, k < K → way t.mask h k ∈ t.place.toList := by
  obtain ⟨j, hj, nj⟩ := st_missing t.place.toList (t.mask + 1) (by rw [Array.length_toList, T.sz]; omega)
  obtain ⟨k, hk, ek⟩ := T.mg.meets h (Nat.le_of_lt_succ hj)
  obtain ⟨K, a1, a2, a3⟩ := st_least (p := fun k => way t.mask h k ∉ t.place.toList) k (show way t.mask h k ∉ t.place.toList by rw [ek]; exact nj)
  exact ⟨K, by omega, a2, fun i hi => Classical.byContradiction fun z => a3 i hi z⟩
theorem Tab.ahead {t : SetTable} {hs : List Int} (T : Tab t hs) {h : Int} {K i j : Nat} (gap : way t.mask h K ∉ t.place.toList) (hi : hs[i]? = some h) (hj : t.place.toList[i]? = some j) : ∃ k, k < K ∧ way t.mask h k = j := by
  obtain ⟨k, e, all⟩ := T.at_ i j h hi hj
  refine ⟨k, Classical.byContradiction fun z => ?_, e⟩
  rcases Nat.lt_or_ge K k with c | c
  · exact gap (all K c)
  · have : k = K := by omega
    subst this
    rw [e] at gap
    exact gap (List.mem_of_getElem? hj)
/-- one more -/
theorem Tab.more {t : SetTable} {hs : List Int} (T : Tab t hs) {h : Int} {j : Nat} (hj : j ∉ t.place.toList) (he : Ends1 t.mask (· ∈ t.place.toList) h j) :
    ∃ p, (t.put j).2 = p ∧ p ≤ hs.length ∧ Tab (t.put j).1 (hs.take p ++ h :: hs.drop p) ∧ (t.put j).1.mask = t.mask ∧ (t.put j).1.led = t.led ∧ (t.put j).1.plain = t.plain ∧ (t.put j).1.fill = hs.length + 1 := by
  obtain ⟨p, hp⟩ : ∃ p, p = SetTable.below t.place j := ⟨_, rfl⟩
  have cut := (below_cut T.ris j).1
  rw [← hp] at cut
  have lh : p ≤ hs.length := by rw [← T.sz]; exact cut
  have lp : p ≤ t.place.toList.length := by rw [Array.length_toList]; exact cut
  have pl : (t.put j).1.place.toList = t.place.toList.take p ++ j :: t.place.toList.drop p := by rw [hp]; exact put_place t j
  have n0 : (t.put j).1.place.size = hs.length + 1 := by
    have e := congrArg List.length pl
    rw [len_ins _ lp, Array.length_toList, Array.length_toList, T.sz] at e
    exact e
  have keep : ∀ x, x ∈ t.place.toList → x ∈ (t.put j).1.place.toList := fun x hx => by rw [pl]; exact mem_ins.mpr (.inr hx)
  obtain ⟨k0, e0, a0⟩ := he
  refine ⟨p, hp.symm, lh, ⟨T.mg, put_dm T.dm j, ris_insert T.ris fun e => hj (List.mem_of_getElem? (by rw [Array.getElem?_toList]; exact e)), by rw [n0, len_ins _ lh], fun x hx => ?_, fun i j' h' h1 h2 => ?_⟩, rfl, rfl, rfl, ?_⟩
  · rw [pl] at hx
    rcases mem_ins.mp hx with rfl | hx
    · rw [← e0]; exact way_in _ _ _
    · exact T.bd x hx
  · rw [tins_get hs lh] at h1
    rw [pl, tins_get _ lp] at h2
    have lift : Ends1 t.mask (· ∈ t.place.toList) h' j' → Ends1 (t.put j).1.mask (· ∈ (t.put j).1.place.toList) h' j' := fun ⟨k, e, a⟩ => ⟨k, e, fun i hi => keep _ (a i hi)⟩
    by_cases c : i < p
    · rw [if_pos c] at h1 h2
      exact lift (T.at_ i j' h' h1 h2)
    · by_cases d : i = p
      · rw [if_neg c, if_pos d] at h1 h2
        cases h1; cases h2
        exact lift ⟨k0, e0, a0⟩
      · rw [if_neg c, if_neg d] at h1 h2
        exact lift (T.at_ (i - 1) j' h' h1 h2)
  · show (t.put j).1.place.size + (t.put j).1.dummies.size = _
    rw [n0, put_dm T.dm j]; rfl
/-! ### a table laid anew -/
/-- the first free slot on the way of h -/
theorem free_at {m : Nat} (hm : MG m) (owner : Array (Option Nat)) (h : Int) {j : Nat} (hj : j ≤ m) (fr : oAt owner j = none) :
    ∃ j', SetTable.layClean.free m owner (SetTable.turns m) (SetTable.bits h % (m + 1)) (SetTable.bits h) = some j' ∧ j' ≤ m ∧ oAt owner j' = none ∧ Ends1 m (fun x => oAt owner x ≠ none) h j' := by
  obtain ⟨n, hn, e⟩ := hm.full h hj
  have ew : (nth m (runAt m (SetTable.bits h % (m + 1)) (SetTable.bits h)) (off m (SetTable.bits h % (m + 1)) (SetTable.bits h) n)).j = j := by
    rw [nth_off, itL_run]; exact e
  obtain ⟨K, a1, a2, a3⟩ := st_least (p := fun k => oAt owner (way m h k) = none) _ (show oAt owner (way m h (off m (SetTable.bits h % (m + 1)) (SetTable.bits h) n)) = none by
    show oAt owner (nth m _ _).j = none
    rw [ew]; exact fr)
  refine ⟨way m h K, free_spec m owner _ n _ _ K (by unfold SetTable.turns; omega) a1 (fun k hk => ?_) (by rw [show oAt owner (nth m (runAt m (SetTable.bits h % (m + 1)) (SetTable.bits h)) K).j = none from a2]; rfl), way_in _ _ _, a2, K, rfl, fun i hi => a3 i hi⟩
  have z := a3 k hk
  cases q : oAt owner (nth m (runAt m (SetTable.bits h % (m + 1)) (SetTable.bits h)) k).j with
  | none => exact absurd q z
  | some _ => rfl
/-- who sits where, the hashes in ds laid -/
structure Sit (m : Nat) (ds : List Int) (owner : Array (Option Nat)) : Prop where
  sz : owner.size = m + 1
  at_ : ∀ j k, j ≤ m → oAt owner j = some k → ∃ h, ds[k]? = some h ∧ Ends1 m (fun x => oAt owner x ≠ none) h j
  all : ∀ k, k < ds.length → ∃ j, j ≤ m ∧ oAt owner j = some k
  few : ∃ js : List Nat, js.length = ds.length ∧ ∀ j, j ≤ m → oAt owner j ≠ none → j ∈ js
theorem Sit.one {m : Nat} (hm : MG m) {ds : List Int} {owner : Array (Option Nat)} (S : Sit m ds owner) (room : ds.length ≤ m) (h : Int) :
    ∃ owner', stepF m (some (owner, ds.length)) h = some (owner', (ds ++ [h]).length) ∧ Sit m (ds ++ [h]) owner' := by
  obtain ⟨js, l1, l2⟩ := S.few
  obtain ⟨j0, hj0, n0⟩ := st_missing js (m + 1) (by omega)
  have f0 : oAt owner j0 = none := Classical.byContradiction fun z => n0 (l2 j0 (by omega) z)
  obtain ⟨j, e, jm, fj, en⟩ := free_at hm owner h (Nat.le_of_lt_succ hj0) f0
  have js' : j < owner.size := by rw [S.sz]; omega
  have self := oAt_set_self (some ds.length) js'
  have other : ∀ i, i ≠ j → oAt (owner.setIfInBounds j (some ds.length)) i = oAt owner i := fun i hi => oAt_set_ne _ hi
  have grow : ∀ {h' : Int} {i : Nat}, Ends1 m (fun x => oAt owner x ≠ none) h' i → Ends1 m (fun x => oAt (owner.setIfInBounds j (some ds.length)) x ≠ none) h' i := fun {h' i} ⟨k, e, a⟩ => by
    refine ⟨k, e, fun x hx => ?_⟩
    by_cases c : way m h' x = j
    · show oAt _ (way m h' x) ≠ none
      rw [c, self]; exact fun z => nomatch z
    · show oAt _ (way m h' x) ≠ none
      rw [other _ c]; exact a x hx
  refine ⟨owner.setIfInBounds j (some ds.length), by rw [stepF_some e, List.length_append]; rfl, by rw [Array.size_setIfInBounds]; exact S.sz, fun i k hi ei => ?_, fun k hk => ?_, j :: js, by simp [l1], fun i hi ei => ?_⟩
  · by_cases c : i = j
    · subst c
      rw [self] at ei
      cases ei
      exact ⟨h, by rw [List.getElem?_append_right (Nat.le_refl _)]; simp, grow en⟩
    · rw [other i c] at ei
      obtain ⟨h', g1, g2⟩ := S.at_ i k hi ei
      exact ⟨h', by rw [List.getElem?_append_left (List.getElem?_eq_some_iff.mp g1).1]; exact g1, grow g2⟩
  · rw [List.length_append] at hk
    by_cases c : k < ds.length
    · obtain ⟨i, hi, ei⟩ := S.all k c
      exact ⟨i, hi, by rw [other i (fun z => by rw [z, fj] at ei; cases ei)]; exact ei⟩
    · have : k = ds.length := by simp at hk; omega
      exact ⟨j, jm, by rw [this]; exact self⟩
  · by_cases c : i = j
    · rw [c]; exact List.mem_cons_self
    · rw [other i c] at ei
      exact List.mem_cons_of_mem _ (l2 i hi ei)
theorem Sit.rest {m : Nat} (hm : MG m) : ∀ (more ds : List Int) (owner : Array (Option Nat)), Sit m ds owner → ds.length + more.length ≤ m + 1 → ∃ owner', more.foldl (stepF m) (some (owner, ds.length)) = some (owner', (ds ++ more).length) ∧ Sit m (ds ++ more) owner'
  | [], ds, owner, S, _ => ⟨owner, by rw [List.append_nil]; rfl, by rw [List.append_nil]; exact S⟩
  | h :: more, ds, owner, S, hl => by
    simp only [List.length_cons] at hl
    obtain ⟨o1, e1, S1⟩ := S.one hm (by omega) h
    obtain ⟨o2, e2, S2⟩ := Sit.rest hm more (ds ++ [h]) o1 S1 (by simp; omega)
    rw [List.append_assoc] at e2 S2
    exact ⟨o2, by rw [List.foldl_cons, e1]; exact e2, S2⟩
theorem Sit.lay {m : Nat} (hm : MG m) {hs : Array Int} (hn : hs.size ≤ m) : ∃ owner, SetTable.layClean m hs = some owner ∧ Sit m hs.toList owner := by
  have S0 : Sit m [] (Array.replicate (m + 1) none) := ⟨by simp, fun j k hj e => (by rw [oAt_init hj] at e; cases e), fun k hk => absurd hk (Nat.not_lt_zero k), [], rfl, fun j hj e => absurd (oAt_init hj) e⟩
  obtain ⟨owner, e, S⟩ := Sit.rest hm hs.toList [] _ S0 (by simp; omega)
  rw [List.nil_append] at S
  refine ⟨owner, ?_, S⟩
  rw [layClean_eq]
  have e' : hs.toList.foldl (stepF m) (some (Array.replicate (m + 1) none, 0)) = some (owner, ([] ++ hs.toList).length) := e
  rw [e']; rfl
theorem lay_tab (t : SetTable) {hs : Array Int} {wanted m : Nat} (hw : SetTable.sizeAbove wanted - 1 = m) (hm : MG m) (hn : hs.size ≤ m) :
    ∃ t' order, t.relaid hs wanted = some (t', order) ∧ order.toList.Perm (List.range hs.size) ∧ Tab t' (order.toList.map fun i => hs.getD i 0) ∧ t'.mask = m ∧ t'.led = t.led ∧ t'.plain = t.plain := by
  obtain ⟨owner, e, S⟩ := Sit.lay hm hn
  obtain ⟨q, hq⟩ : ∃ q, q = liveOf m owner := ⟨_, rfl⟩
  have mem : ∀ j k, (j, k) ∈ q ↔ j ≤ m ∧ oAt owner j = some k := fun j k => by rw [hq]; exact mem_live S.sz
  have ris : Ris (q.map (·.1)) ∧ ∀ x ∈ q.map (·.1), x ∈ List.range (m + 1) := by
    rw [hq]
    exact ris_live (fun j => owner.getD j none) (List.range (m + 1)) (by unfold Ris; exact List.pairwise_lt_range)
  have hsl : hs.toList.length = hs.size := rfl
  have len : q.length = hs.size := by
    obtain ⟨js, l1, l2⟩ := S.few
    have a1 : (q.map (·.1)).length ≤ js.length := nat_nodup_len _ _ (ris.1.imp fun h => Nat.ne_of_lt h) fun x hx => by
      obtain ⟨⟨y, k⟩, hy, rfl⟩ := List.mem_map.mp hx
      obtain ⟨b1, b2⟩ := (mem y k).mp hy
      exact l2 y b1 (by rw [b2]; exact fun z => nomatch z)
    have a2 : (List.range hs.size).length ≤ (q.map (·.2)).length := nat_nodup_len _ _ List.nodup_range fun k hk => by
      obtain ⟨j, b1, b2⟩ := S.all k (List.mem_range.mp hk)
      exact List.mem_map.mpr ⟨(j, k), (mem j k).mpr ⟨b1, b2⟩, rfl⟩
    rw [List.length_map] at a1
    rw [List.length_map, List.length_range] at a2
    omega
  refine ⟨tabOf t m owner, (q.map (·.2)).toArray, by rw [relaid_eq, hw, e, hq]; rfl, perm_range hs.size _ (by simp [len]) fun k hk => ?_, ⟨hm, rfl, ?_, ?_, fun x hx => ?_, fun i j h h1 h2 => ?_⟩, rfl, rfl, rfl⟩
  · obtain ⟨j, b1, b2⟩ := S.all k hk
    exact List.mem_map.mpr ⟨(j, k), (mem j k).mpr ⟨b1, b2⟩, rfl⟩
  · show Ris ((liveOf m owner).map (·.1))
    rw [← hq]; exact ris.1
  · show ((liveOf m owner).map (·.1)).toArray.size = _
    rw [← hq]; simp
  · have hx' : x ∈ (liveOf m owner).map (·.1) := hx
    rw [← hq] at hx'
    exact Nat.le_of_lt_succ (List.mem_range.mp (ris.2 x hx'))
  · have h2' : ((liveOf m owner).map (·.1))[i]? = some j := h2
    rw [← hq, List.getElem?_map] at h2'
    have h1' : ((q.map (·.2)).map fun i => hs.getD i 0)[i]? = some h := h1
    rw [List.getElem?_map, List.getElem?_map] at h1'
    cases z : q[i]? with
    | none => rw [z] at h2'; cases h2'
    | some y =>
      obtain ⟨y1, k⟩ := y
      rw [z] at h1' h2'
      simp only [Option.map_some, Option.some.injEq] at h1' h2'
      subst h2'
      obtain ⟨b1, b2⟩ := (mem y1 k).mp (List.mem_of_getElem? z)
      obtain ⟨h0, g1, K, g2, g3⟩ := S.at_ y1 k b1 b2
      have : h0 = h := by
        rw [← h1', Array.getD_eq_getD_getElem?, ← Array.getElem?_toList, g1]; rfl
      subst this
      refine ⟨K, g2, fun x hx => ?_⟩
      show way m h0 x ∈ (liveOf m owner).map (·.1)
      rw [← hq]
      cases o : oAt owner (way m h0 x) with
      | none => exact absurd o (g3 x hx)
      | some k2 => exact List.mem_map.mpr ⟨(way m h0 x, k2), (mem _ _).mpr ⟨way_in _ _ _, o⟩, rfl⟩
end Lf

set_option maxHeartbeats 4000000
/-! Lf, part AC: sets of tuples of ints, up to 4899 of them. -/
namespace Lf
open PySem PySem.Spec PyProof.Rows L2
section
variable {P : Program} {w : World} {A : Around} {E : Value → Shared → Prop} {s : Shared}
/-- a set of tuples of ints stands at a; Ls: its tuples in the order of their slots -/
structure SetG (P : Program) (w : World) (h : Heap) (a : Addr) (Ls : List (Addr × List Int)) (es : Array (Int × Value)) (ep : Nat) (t : SetTable) : Prop where
  ob : ∃ o, h.get? a = some o ∧ o.ExactSet ∧ o.data = .set es ep t
  rows : es.toList = rowsOf P w Ls
  tab : Tab t (Ls.map fun p => thash P w p.2)
  nd : (Ls.map (·.2)).Nodup
  tup : ∀ p ∈ Ls, IsT P w h p.2 p.1
  plain : t.plain = true
  led : w.params.followText "set-order" = true ∨ t.led = true
  room : Ls.length * 5 < t.mask * 3
  few : Ls.length < 4900
variable {a : Addr} {Ls : List (Addr × List Int)} {es : Array (Int × Value)} {ep : Nat} {t : SetTable}
theorem SetG.esz {h : Heap} (S : SetG P w h a Ls es ep t) : es.size = Ls.length := by
  have e := congrArg List.length S.rows
  rw [Array.length_toList] at e
  rw [e]; unfold rowsOf; exact List.length_map _
theorem SetG.psz {h : Heap} (S : SetG P w h a Ls es ep t) : t.place.size = Ls.length := by rw [S.tab.sz, List.length_map]
theorem SetG.fits {h : Heap} (S : SetG P w h a Ls es ep t) : t.fits es.size = true := by
  have e1 := S.psz
  have e2 := S.esz
  have e3 := S.room
  unfold SetTable.fits SetTable.fill
  rw [S.tab.dm, Bool.and_eq_true, beq_iff_eq, decide_eq_true_eq]
  exact ⟨by rw [e1, e2], by simp only [Array.size_empty]; omega⟩
theorem SetG.row {h : Heap} (S : SetG P w h a Ls es ep t) {i : Nat} {p : Addr × List Int} (e : Ls[i]? = some p) : es[i]? = some (thash P w p.2, Value.ref p.1) := by
  rw [← Array.getElem?_toList, S.rows]
  unfold rowsOf
  rw [List.getElem?_map, e]; rfl
theorem nth_clean (m : Nat) : ∀ (n : Nat) (p : SetTable.Probe), p.dummy = none → (nth m p n).dummy = none
  | 0, _, h => h
  | n + 1, p, h => nth_clean m n (adv m p) (by unfold adv; split <;> exact h)
/-- the search, from the c-th step on; K: the first gap -/
theorem SetG.look (S : SetG P w s.heap a Ls es ep t) {x : Addr} {k : List Int} (hx : IsT P w s.heap k x) (hu : A.units < cLine) {K : Nat} (K1 : K < 10 * SetTable.turns t.mask) (K2 : way t.mask (thash P w k) K ∉ t.place.toList) (K3 : ∀ i, i < K → way t.mask (thash P w k) i ∈ t.place.toList)
    {Q : SetFound → Shared → Prop} (there : k ∈ Ls.map (·.2) → Q (.there none) s) (gap : k ∉ Ls.map (·.2) → Q (.free (way t.mask (thash P w k) K) false) s) :
    ∀ (f c : Nat) (stand : Option SetTable.Probe), stand.getD (t.probeStart (thash P w k)) = nth t.mask (t.probeStart (thash P w k)) c → c ≤ K → K - c < f →
      (∀ (i : Nat) (p : Addr × List Int), Ls[i]? = some p → p.2 = k → ∃ c', c ≤ c' ∧ c' < K ∧ t.place.toList[i]? = some (way t.mask (thash P w k) c')) →
      wpAny (model P w) A (setSearchFrom a (.ref x) (thash P w k) true f stand) Q E s
  | 0, c, stand, _, _, hf, _ => absurd hf (Nat.not_lt_zero _)
  | f + 1, c, stand, hst, hc, hf, still => by
    obtain ⟨o, ho, hex, hd⟩ := S.ob
    obtain ⟨h, eh⟩ : ∃ h, h = thash P w k := ⟨_, rfl⟩
    have odd := S.tab.mg.odd
    rw [setSearchFrom_succ]
    refine wpAny_bind (wpAny_setState_of ho hd S.fits ?_)
    dsimp only
    refine wp_if_neg (by unfold SetTable.gaveWay; rw [odd]; decide) ?_
    try refine wpAny_bind (wpAny_pure ?_)
    have seq : ∀ q, nth t.mask (nth t.mask (t.probeStart (thash P w k)) c) q = nth t.mask (t.probeStart (thash P w k)) (c + q) := fun q => (nth_add t.mask c _ q).symm
    have wy : ∀ q, (nth t.mask (t.probeStart (thash P w k)) q).j = way t.mask (thash P w k) q := fun q => rfl
    have told := go_spec t S.tab.ris S.tab.dm (fun i => (es[i]?.map (·.1)).getD 0) (thash P w k) (10 * SetTable.turns t.mask) (K - c) (nth t.mask (t.probeStart (thash P w k)) c) (nth_clean _ _ _ rfl) (by omega)
      (fun q hq => by rw [seq, wy]; exact K3 _ (by omega)) (by rw [seq, wy, show c + (K - c) = K by omega]; exact K2)
    have hash : ∀ (i : Nat) (p : Addr × List Int), Ls[i]? = some p → (es[i]?.map (·.1)).getD 0 = thash P w p.2 := fun i p hp => by rw [S.row hp]; rfl
    rcases told with ⟨q, i, hq, hi, hh, no, pr⟩ | ⟨no, pr⟩
    · rw [seq, wy] at hi
      rw [seq, seq, wy] at pr
      have pr' : t.probe (fun i => (es[i]?.map (·.1)).getD 0) (thash P w k) (stand.getD (t.probeStart (thash P w k))) = some (.candidate (way t.mask (thash P w k) (c + q)) i (nth t.mask (t.probeStart (thash P w k)) (c + (q + 1)))) := by rw [hst]; exact pr
      rw [pr']
      dsimp only
      have il : i < Ls.length := by
        have z := (List.getElem?_eq_some_iff.mp hi).1
        rw [Array.length_toList, S.psz] at z
        exact z
      obtain ⟨p, hp⟩ : ∃ p, Ls[i]? = some p := ⟨_, List.getElem?_eq_getElem il⟩
      have pm : p ∈ Ls := List.mem_of_getElem? hp
      have live : t.slot (way t.mask (thash P w k) (c + q)) = .live i := slot_live S.tab.ris hi
      have go : wpAny (model P w) A (searchRest a (.ref x) (thash P w k) true f es t (way t.mask (thash P w k) (c + q)) i (nth t.mask (t.probeStart (thash P w k)) (c + (q + 1)))) Q E s := by
        unfold searchRest
        rw [S.row hp]
        dsimp only
        refine wpAny_bind (wpAny_holding (wpAny_eqBool_tuple hu (S.tup p pm) hx ?_))
        refine wpAny_bind (wpAny_setState_of ho hd S.fits ?_)
        dsimp only
        by_cases same : p.2 = k
        · refine wp_if_pos (by simp [same]) (wpAny_pure (there ?_))
          exact List.mem_map.mpr ⟨p, pm, same⟩
        · refine wp_if_neg (by simp [same]) ?_
          try refine wpAny_bind (wpAny_pure ?_)
          rw [sameMem]
          dsimp only
          simp only [if_true, live, S.row hp]
          refine wpAny_bind (wpAny_isSame_ref_self (wpAny_bind (wpAny_pure ?_)))
          simp only [if_true]
          refine wp_if_neg (by simp [same]) ?_
          refine S.look hx hu K1 K2 K3 there gap f (c + (q + 1)) _ rfl (by omega) (by omega) fun i0 p0 h0 k0 => ?_
          obtain ⟨c', b1, b2, b3⟩ := still i0 p0 h0 k0
          refine ⟨c', ?_, b2, b3⟩
          have far : c + q < c' := by
            refine Classical.byContradiction fun z => ?_
            by_cases z2 : c' = c + q
            · rw [z2] at b3
              have e := slot_live S.tab.ris b3
              rw [live] at e
              injection e with e
              rw [← e, hp] at h0
              cases h0
              exact same k0
            · refine no (c' - c) i0 (by omega) (by rw [seq, wy, show c + (c' - c) = c' by omega]; exact b3) ?_
              show (es[i0]?.map (·.1)).getD 0 = _
              rw [hash i0 p0 h0, k0]
          omega
      by_cases tl : t.led = true
      · refine wp_if_neg (by simp [tl]) ?_
        try refine wpAny_bind (wpAny_pure ?_)
        exact go
      · refine wp_if_pos (by simp [tl]) (wpAny_bind (seen_tup hx (fun y hy => ?_) ?_))
        · obtain ⟨e, he, rfl⟩ := List.mem_map.mp hy
          have he2 : e ∈ es.toList := by
            have z : e ∈ es ∧ e.1 = thash P w k := by simpa using he
            simpa using z.1
          rw [S.rows] at he2
          obtain ⟨r, hr, rfl⟩ := List.mem_map.mp he2
          exact ⟨r.2, r.1, rfl, S.tup r hr⟩
        · refine wp_if_neg (by decide) ?_
          try refine wpAny_bind (wpAny_pure ?_)
          exact go
    · rw [seq, wy, show c + (K - c) = K by omega] at pr
      have pr' : t.probe (fun i => (es[i]?.map (·.1)).getD 0) (thash P w k) (stand.getD (t.probeStart (thash P w k))) = some (.empty (way t.mask (thash P w k) K) none) := by rw [hst]; exact pr
      rw [pr']
      dsimp only
      refine wpAny_pure (gap fun hm => ?_)
      obtain ⟨p0, hp0, k0⟩ := List.mem_map.mp hm
      obtain ⟨i0, hi0, e0⟩ := List.getElem_of_mem hp0
      have h0 : Ls[i0]? = some p0 := by rw [List.getElem?_eq_getElem hi0, e0]
      obtain ⟨c', b1, b2, b3⟩ := still i0 p0 h0 k0
      refine no (c' - c) i0 (by omega) (by rw [seq, wy, show c + (c' - c) = c' by omega]; exact b3) ?_
      show (es[i0]?.map (·.1)).getD 0 = _
      rw [hash i0 p0 h0, k0]
/-- the search that adding makes -/
theorem SetG.seek (S : SetG P w s.heap a Ls es ep t) {x : Addr} {k : List Int} (hx : IsT P w s.heap k x) (hu : A.units < cLine) {Q : SetFound → Shared → Prop} (there : k ∈ Ls.map (·.2) → Q (.there none) s)
    (gap : ∀ j, k ∉ Ls.map (·.2) → j ∉ t.place.toList → Ends1 t.mask (· ∈ t.place.toList) (thash P w k) j → Q (.free j false) s) : wpAny (model P w) A (setSearch a (.ref x) (thash P w k) true) Q E s := by
  have room := S.room
  obtain ⟨K, K1, K2, K3⟩ := S.tab.gap (by rw [List.length_map]; omega) (thash P w k)
  have big : K < 100000 := by
    have := S.tab.mg.small
    unfold SetTable.turns at K1
    omega
  unfold setSearch
  refine S.look hx hu K1 K2 K3 there (fun z => gap _ z K2 ⟨K, rfl, K3⟩) 100000 0 none rfl (Nat.zero_le _) (by omega) fun i p hp hk => ?_
  have il : i < t.place.toList.length := by
    rw [Array.length_toList, S.psz]
    exact (List.getElem?_eq_some_iff.mp hp).1
  have hj := List.getElem?_eq_getElem il
  obtain ⟨c, c1, c2⟩ := S.tab.ahead K2 (show (Ls.map fun p => thash P w p.2)[i]? = some (thash P w k) by rw [List.getElem?_map, hp, ← hk]; rfl) hj
  exact ⟨c, Nat.zero_le _, c1, by rw [hj, c2]⟩
/-- laid anew -/
theorem relayG {o : Obj} (ho : s.heap.get? a = some o) (hex : o.ExactSet) (hd : o.data = .set es ep t) (rows : es.toList = rowsOf P w Ls) (psz : t.place.size = es.size) (dm : t.dummies = #[]) (full : es.size ≤ t.mask)
    (nd : (Ls.map (·.2)).Nodup) (tup : ∀ p ∈ Ls, IsT P w s.heap p.2 p.1) (pl : t.plain = true) (ld : w.params.followText "set-order" = true ∨ t.led = true) (few : Ls.length < 4900) {wanted m : Nat}
    (hw : SetTable.sizeAbove wanted - 1 = m) (hm : MG m) (hw2 : SetTable.sizeAbove wanted ≤ 8192) (room : Ls.length * 5 < m * 3) {Q : Unit → Shared → Prop}
    (fin : ∀ h' L' es' ep' t', Heap.SameBut a s.heap h' → SetG P w h' a L' es' ep' t' → L'.Perm Ls → Q () { s with heap := h' }) : wpAny (model P w) A (setRelay a wanted) Q E s := by
  have esz : es.size = Ls.length := by
    have e := congrArg List.length rows
    rw [Array.length_toList] at e
    rw [e]; unfold rowsOf; exact List.length_map _
  have fits : t.fits es.size = true := by
    unfold SetTable.fits SetTable.fill
    rw [dm, Bool.and_eq_true, beq_iff_eq, decide_eq_true_eq]
    exact ⟨psz, by simp only [Array.size_empty]; omega⟩
  obtain ⟨t', order, e, pm, T, em, el, ep'⟩ := lay_tab t (hs := es.map (·.1)) hw hm (by rw [Array.size_map]; omega)
  rw [Array.size_map, esz] at pm
  obtain ⟨L2, r1, r2, r3⟩ := order_rows Ls es order rows pm
  rw [← r3] at T
  have sz2 : (order.filterMap (es[·]?)).size = es.size := by
    have z := congrArg List.length r1
    unfold rowsOf at z
    rw [Array.length_toList, List.length_map, r2.length_eq] at z
    rw [z, esz]
  rw [setRelay_eq]
  refine wpAny_bind (wpAny_setState_of ho hd fits ?_)
  dsimp only
  refine wp_if_neg (by rw [sizeLine_eq]; omega) ?_
  try refine wpAny_bind (wpAny_pure ?_)
  rw [e]
  dsimp only
  refine wpAny_bind (wp_if_neg (by rw [sz2]; simp) ?_)
  try refine wpAny_bind (wpAny_pure ?_)
  refine wpAny_pure ?_
  dsimp only
  refine wpAny_storeSet_of ho hd ?_ (by rw [sz2, esz, sizeLine_eq]; omega)
  have sb : Heap.SameBut a s.heap (s.heap.update a (Obj.putSet (order.filterMap (es[·]?)) t')) := Heap.SameBut.update ..
  exact fin _ L2 _ (ep + 1) t' sb ⟨⟨_, store_at ho hd, ⟨hex.1, hex.2.1, hex.2.2⟩, rfl⟩, r1, T, (r2.map (·.2)).nodup_iff.mpr nd, fun p hp => isT_same (tup p (r2.mem_iff.mp hp)) ho hd sb, by rw [ep']; exact pl, by rw [el]; exact ld, by rw [r2.length_eq, em]; exact room, by rw [r2.length_eq]; exact few⟩ r2
theorem grow5 : SetTable.sizeAbove (SetTable.grown 5) = 32 := by decide +kernel
theorem grow19 : SetTable.sizeAbove (SetTable.grown 19) = 128 := by decide +kernel
theorem grow77 : SetTable.sizeAbove (SetTable.grown 77) = 512 := by decide +kernel
theorem grow307 : SetTable.sizeAbove (SetTable.grown 307) = 2048 := by decide +kernel
theorem grow1229 : SetTable.sizeAbove (SetTable.grown 1229) = 8192 := by decide +kernel
/-- how the table grows -/
theorem MG.next {m n : Nat} (hm : MG m) (h1 : n * 5 < m * 3) (h2 : (n + 1) * 5 ≥ m * 3) (few : n + 1 < 4900) : ∃ m', SetTable.sizeAbove (SetTable.grown (n + 1)) - 1 = m' ∧ MG m' ∧ SetTable.sizeAbove (SetTable.grown (n + 1)) ≤ 8192 ∧ (n + 1) * 5 < m' * 3 ∧ n + 1 ≤ m := by
  rcases hm with rfl | rfl | rfl | rfl | rfl | rfl
  · have : n = 4 := by omega
    subst this
    exact ⟨31, by rw [grow5], .inr (.inl rfl), by rw [grow5]; decide, by decide, by decide⟩
  · have : n = 18 := by omega
    subst this
    exact ⟨127, by rw [grow19], .inr (.inr (.inl rfl)), by rw [grow19]; decide, by decide, by decide⟩
  · have : n = 76 := by omega
    subst this
    exact ⟨511, by rw [grow77], .inr (.inr (.inr (.inl rfl))), by rw [grow77]; decide, by decide, by decide⟩
  · have : n = 306 := by omega
    subst this
    exact ⟨2047, by rw [grow307], .inr (.inr (.inr (.inr (.inl rfl)))), by rw [grow307]; decide, by decide, by decide⟩
  · have : n = 1228 := by omega
    subst this
    exact ⟨8191, by rw [grow1229], .inr (.inr (.inr (.inr (.inr rfl)))), by rw [grow1229]; decide, by decide, by decide⟩
  · omega
/-- a tuple is added -/
theorem SetG.add (S : SetG P w s.heap a Ls es ep t) {x : Addr} {k : List Int} (hx : IsT P w s.heap k x) (hu : A.units < cLine) (few : Ls.length + 1 < 4900) {Q : Bool → Shared → Prop}
    (fin : ∀ b h' L' es' ep' t', Heap.SameBut a s.heap h' → SetG P w h' a L' es' ep' t' → (k ∈ Ls.map (·.2) → L' = Ls) → (k ∉ Ls.map (·.2) → L'.Perm ((x, k) :: Ls)) → Q b { s with heap := h' }) :
    wpAny (model P w) A (setAddHashed a (.ref x) (thash P w k)) Q E s := by
  obtain ⟨o, ho, hex, hd⟩ := S.ob
  have esz := S.esz
  have room := S.room
  unfold setAddHashed
  refine wpAny_holding ?_
  rw [show (100000 : Nat) = 99999 + 1 from rfl, setAddHashedIn_succ]
  refine wpAny_bind (wpAny_setState_of ho hd S.fits ?_)
  dsimp only
  refine wp_if_neg (by simp [byScan, Value.scannable]) ?_
  try refine wpAny_bind (wpAny_pure ?_)
  refine wpAny_bind (S.seek hx hu (fun hm => ?_) fun j nm nj en => ?_)
  · dsimp only
    exact wpAny_pure (fin false s.heap Ls es ep t (Heap.SameBut.refl a s.heap) S (fun _ => rfl) fun z => absurd hm z)
  · dsimp only
    refine wpAny_bind (wpAny_setState_of ho hd S.fits ?_)
    dsimp only
    obtain ⟨p, q1, q2, T1, q4, q5, q6, q7⟩ := S.tab.more nj en
    have pl1 : (t.put j).1.plain = true := by rw [q6]; exact S.plain
    obtain ⟨t1, p1⟩ : ∃ z, z = t.put j := ⟨_, rfl⟩
    generalize hput : t.put j = pt at q1 T1 q4 q5 q6 q7 pl1 ⊢
    obtain ⟨t2, p2⟩ := pt
    dsimp only at q1 T1 q4 q5 q6 q7 pl1 ⊢
    subst q1
    first
      | (refine wpAny_bind (wp_if_pos pl1 (hashBy_tup hx ?_)))
      | refine wp_if_pos pl1 (wpAny_bind (hashBy_tup hx ?_))
    simp only [if_true]
    obtain ⟨L1, hL1⟩ : ∃ L1, L1 = Ls.take p2 ++ (x, k) :: Ls.drop p2 := ⟨_, rfl⟩
    have pm : L1.Perm ((x, k) :: Ls) := by rw [hL1]; exact put_perm Ls p2 (x, k)
    have len : L1.length = Ls.length + 1 := pm.length_eq
    obtain ⟨es1, hes1⟩ : ∃ es1, es1 = SetTable.insertAt es p2 (thash P w k, Value.ref x) := ⟨_, rfl⟩
    have rows1 : es1.toList = rowsOf P w L1 := by rw [hes1, hL1, SetTable.toList_insertAt, rows_put, S.rows]
    have hsh : L1.map (fun p => thash P w p.2) = (Ls.map fun p => thash P w p.2).take p2 ++ thash P w k :: (Ls.map fun p => thash P w p.2).drop p2 := by
      rw [hL1, List.map_append, List.map_cons, List.map_take, List.map_drop]
    rw [← hsh] at T1
    have nd1 : (L1.map (·.2)).Nodup := (pm.map (·.2)).nodup_iff.mpr (List.nodup_cons.mpr ⟨nm, S.nd⟩)
    have es1z : es1.size = Ls.length + 1 := by
      have z := congrArg List.length rows1
      unfold rowsOf at z
      rw [Array.length_toList, List.length_map, len] at z
      exact z
    rw [← hes1]
    refine wpAny_bind (wpAny_storeSet_of ho hd ?_ (by rw [es1z, sizeLine_eq]; omega))
    have sb : Heap.SameBut a s.heap (s.heap.update a (Obj.putSet es1 t2)) := Heap.SameBut.update ..
    have ho1 := store_at (es' := es1) (t' := t2) ho hd
    generalize s.heap.update a (Obj.putSet es1 t2) = h1 at sb ho1 ⊢
    have tup1 : ∀ p ∈ L1, IsT P w h1 p.2 p.1 := fun p hp => by
      rcases List.mem_cons.mp (pm.mem_iff.mp hp) with z | z
      · rw [z]; exact isT_same hx ho hd sb
      · exact isT_same (S.tup p z) ho hd sb
    have led1 : w.params.followText "set-order" = true ∨ t2.led = true := by rw [q5]; exact S.led
    have full : t2.tooFull = decide ((Ls.length + 1) * 5 ≥ t2.mask * 3) := by
      unfold SetTable.tooFull; rw [q7, List.length_map]
    by_cases hf : (Ls.length + 1) * 5 ≥ t2.mask * 3
    · have hf' : t2.tooFull = true := by rw [full]; exact decide_eq_true hf
      rw [q4] at hf
      obtain ⟨m', g1, g2, g3, g4, g5⟩ := S.tab.mg.next room hf few
      have go : wpAny (model P w) A (setRelay a (SetTable.grown (es.size + 1))) (fun _ s' => wpAny (model P w) A (pure true) Q E s') E { s with heap := h1 } := by
        rw [esz]
        refine relayG (s := { s with heap := h1 }) ho1 ⟨hex.1, hex.2.1, hex.2.2⟩ rfl rows1 (by rw [T1.sz, List.length_map, len, es1z]) T1.dm (by rw [es1z, q4]; exact g5) nd1 tup1 pl1 led1 (by omega) g1 g2 g3 (by rw [len]; exact g4) fun h2 L2 es2 ep2 t3 sb2 S2 pm2 => ?_
        exact wpAny_pure (fin true h2 L2 es2 ep2 t3 (sb.trans sb2) S2 (fun z => absurd z nm) fun _ => pm2.trans pm)
      first
        | exact wpAny_bind (wp_if_pos (by simp [hf']) go)
        | exact wp_if_pos (by simp [hf']) (wpAny_bind go)
    · have hf' : t2.tooFull = false := by rw [full]; exact decide_eq_false hf
      have fin1 : Q true { s with heap := h1 } := fin true h1 L1 es1 (ep + 1) t2 sb ⟨⟨_, ho1, ⟨hex.1, hex.2.1, hex.2.2⟩, rfl⟩, rows1, T1, nd1, tup1, pl1, led1, by rw [len]; omega, by omega⟩ (fun z => absurd z nm) fun _ => pm
      first
        | exact wp_if_neg (by simp [hf']) (wpAny_pure fin1)
        | (refine wpAny_bind (wp_if_neg (by simp [hf']) (wpAny_pure ?_)); exact wpAny_pure fin1)
end
end Lf

set_option maxHeartbeats 4000000
namespace Lf
open PySem PySem.Spec PyProof.Rows L2
/-! ### a plain set of any size, walked and gathered -/
section
variable {p0 : Program} {w0 : World} {r0 : Around} {X0 : Value → Shared → Prop} {u0 : Shared} {c0 : Addr} {rows : Array (Int × Value)} {e0 : Nat} {tab : SetTable}
/-- iter(set) where nothing is drawn -/
theorem plain_iter {K : Value → Shared → Prop} (at0 : SetAt u0.heap c0 rows e0 tab) (fit : tab.fits rows.size = true) (pln : tab.plain = true) (up : Ris tab.place.toList) (how : w0.params.followText "set-order" = true ∨ tab.led = true)
    (then_ : ∀ u1 it, SetIt p0 w0 u0 c0 rows u1 it → K (.ref it) u1) : wpAny (model p0 w0) r0 (pyIter (.ref c0)) K X0 u0 := by
  obtain ⟨ob, e1, e2, e3⟩ := at0
  have back : SetAt u0.heap c0 rows e0 tab := ⟨ob, e1, e2, e3⟩
  have isSet : u0.TypeIs (.ref c0) "set" := ⟨ob, e1, e2⟩
  have there := Heap.lt_size e1
  have apart : c0 ≠ u0.heap.objs.size := fun z => Nat.lt_irrefl _ (z ▸ there)
  have nodraw : (!tab.plain && decide (rows.size > 1)) = false := by rw [pln]; rfl
  have kept : ∀ (new : Obj) (b : Addr) (o : Obj), u0.heap.get? b = some o → (u0.heap.push new).get? b = some o := fun new b o q => Heap.get?_push_of_some _ q
  have prints : ∀ b ∈ [u0.heap.objs.size, c0], b = c0 ∨ u0.heap.objs.size ≤ b := fun b hb => by
    simp only [List.mem_cons, List.not_mem_nil, or_false] at hb
    rcases hb with rfl | rfl
    · exact .inr (Nat.le_refl _)
    · exact .inl rfl
  refine wpAny_pyIter_slot isSet PySem.F.slot_set_iter (wpAny_call_entry PySem.F.slot_set_iter isSet entry_s_iter ?_ (PySem.F.args_set_iter_1 _))
  unfold Builtin.«frozenset.__iter__»
  refine wpAny_bind (m := Builtin.Frozenset.slot0 "__iter__" _) (wpAny_of_eq (a := c0) (by rfl) ?_)
  unfold Builtin.Frozenset.sizeOf
  refine wpAny_bind (wpAny_bind (wpAny_setEntries_of e1 e3 fit (wpAny_pure ?_)))
  first | refine wpAny_bind (setDrawn_at back fit ?_) | refine wpAny_bind (wpAny_bind (setDrawn_at back fit ?_))
  rw [nodraw, Bool.and_false]
  refine wp_if_neg (by simp) ?_
  first | refine wpAny_bind (wpAny_pure ?_) | refine wpAny_pure ?_
  refine wpAny_bind (wpAny_setEpoch_of e1 e3 fit (wpAny_bind (wpAny_newObj_type (wpAny_pure ⟨_, rfl, "set_iterator", _, ⟨_, Heap.get?_push_size _ rfl, rfl⟩, slot_si_next.lookup, ?_⟩))))
  have stands : ∀ new : Obj, SetAt (u0.heap.push new) c0 rows e0 tab := fun new => back.at fun o q => kept new _ o q
  by_cases txt : w0.params.followText "set-order" = true
  · refine then_ _ _ (SetIt.of (fun r1 q => walks_text (P := p0) (ep := e0) q apart fit txt) (by rw [List.length_map, Array.length_toList]) (kept _) rfl rfl rfl (Nat.le_refl _) prints ((pick_perm (w0.params.setOrder c0 e0) rows).map _) (fun j v q => ?_) ?_)
    · rw [List.getElem?_map, Array.getElem?_toList]; exact q
    · exact ⟨⟨_, Heap.get?_push_size _ rfl, rfl, rfl⟩, stands _⟩
  · have led : tab.led = true := how.resolve_left txt
    have ntxt : w0.params.followText "set-order" = false := by simpa using txt
    refine then_ _ _ (SetIt.of (fun r1 q => walks_led (P := p0) (ep := e0) q apart fit up ntxt nodraw led) (by rw [List.length_map, Array.length_toList]) (kept _) rfl rfl rfl (Nat.le_refl _) prints (List.Perm.refl (rows.toList.map (·.2))) (fun j v q => ?_) ?_)
    · rw [List.getElem?_map, Array.getElem?_toList]; exact q
    · exact ⟨⟨_, Heap.get?_push_size _ rfl, rfl, rfl⟩, stands _⟩
/-- the members of a plain set in a new list -/
theorem plain_collect {K : List Value → Shared → Prop} (calm : r0.handled = none) (at0 : SetAt u0.heap c0 rows e0 tab) (fit : tab.fits rows.size = true) (pln : tab.plain = true) (few : rows.size ≤ sizeLine) (up : Ris tab.place.toList) (how : w0.params.followText "set-order" = true ∨ tab.led = true)
    (then_ : ∀ u1 got, (∀ b o, u0.heap.get? b = some o → u1.heap.get? b = some o) → u0.heap.objs.size ≤ u1.heap.objs.size → u1.gens = u0.gens → u1.os = u0.os → got.Perm (rows.toList.map (·.2)) → K got u1) :
    wpAny (model p0 w0) r0 (collect (.ref c0)) K X0 u0 := by
  have there : c0 < u0.heap.objs.size := let ⟨_, e1, _⟩ := at0; Heap.lt_size e1
  obtain ⟨box, hbox⟩ : ∃ box, box = u0.heap.objs.size := ⟨_, rfl⟩
  have off : box ≠ c0 := fun z => Nat.lt_irrefl _ ((z.symm.trans hbox) ▸ there)
  obtain ⟨blank, hblank⟩ : ∃ o : Obj, o = { cls := .type "list", data := .seq ([] : List Value).toArray } := ⟨_, rfl⟩
  obtain ⟨h1, hh1⟩ : ∃ h1, h1 = u0.heap.push blank := ⟨_, rfl⟩
  have k1 : ∀ b o, u0.heap.get? b = some o → h1.get? b = some o := fun b o e => hh1 ▸ Heap.get?_push_of_some blank e
  have atBox : h1.get? box = some blank := by rw [hh1, hbox]; exact Heap.get?_push_size _ (by rw [hblank]; rfl)
  have z1 : h1.objs.size = box + 1 := by rw [hh1, size_push', hbox]
  have at1 : SetAt h1 c0 rows e0 tab := at0.at fun o e => k1 _ o e
  have isSet1 : ({ u0 with heap := h1 } : Shared).TypeIs (.ref c0) "set" := let ⟨o, e1, e2, _⟩ := at1; ⟨o, e1, e2⟩
  unfold collect
  refine wpAny_bind (wpAny_runValue (codeAny_builtin PySem.F.entry_proto_collect ?_))
  rw [Around.under_plainId PySem.F.plain_proto_collect _]
  show wpAny _ r0.in1 (newList [] >>= fun l => again (.builtin "list.__iadd__" ⟨[l, .ref c0], []⟩)) _ _ u0
  refine wpAny_bind (wpAny_newObj_type (wpAny_pure ⟨plainId_quiet PySem.F.plain_list_iadd _, codeAny_builtin PySem.F.entry_list_iadd ?_⟩))
  rw [Around.under_plainId PySem.F.plain_list_iadd _]
  have shape : ({ u0 with heap := u0.heap.push { cls := .type "list", data := .seq ([] : List Value).toArray } } : Shared) = { u0 with heap := h1 } := by rw [hh1, hblank]
  show wpAny _ r0.in1 (Builtin.List.listExtendWith (.ref u0.heap.objs.size) (.ref c0) (.ref u0.heap.objs.size)) _ _ _
  rw [← hbox]
  unfold Builtin.List.listExtendWith
  have other : Builtin.List.listSameRef (.ref box) (.ref c0) = false := by simp [Builtin.List.listSameRef, off]
  have noL : (Value.type "set" == Value.type "list") = false := by decide
  have noT : (Value.type "set" == Value.type "tuple") = false := by decide
  have goal : ∀ {α : Type} {t : Sem α} {K2 : α → Shared → Prop} {X2 : Value → Shared → Prop}, wpAny (model p0 w0) r0.in1 t K2 X2 { u0 with heap := h1 } → wpAny (model p0 w0) r0.in1 t K2 X2 { u0 with heap := u0.heap.push { cls := .type "list", data := .seq ([] : List Value).toArray } } := fun q => shape ▸ q
  refine goal ?_
  refine wpAny_bind (wpAny_typeOf isSet1 ?_)
  simp only [other, noL, noT, Bool.or_false, Bool.false_eq_true, if_false]
  refine wpAny_bind (plain_iter at1 fit pln up how fun u2 it walk => ?_)
  obtain ⟨fp, St, got, Pv, k2, g2, o2, _, itHigh, prints, pm, W, hPv, start⟩ := walk
  have itHigh' : box + 1 ≤ it := by rw [← z1]; exact itHigh
  have boxOff : box ∉ fp := fun hm => by
    rcases prints _ hm with z | z
    · exact off z
    · have : box + 1 ≤ box := by rw [← z1]; exact z
      omega
  have isSet2 : u2.TypeIs (.ref c0) "set" := let ⟨o, e1, e2, _⟩ := at1; ⟨o, k2 _ o e1, e2⟩
  have atBox2 : u2.heap.get? box = some blank := k2 _ _ atBox
  refine wpAny_bind (wpAny_holding ?_)
  unfold Builtin.List.listLengthHint
  refine wpAny_bind (wpAny_specialOf isSet2 PySem.F.slot_set_len.lookup ?_)
  (generalize hid : ("set.__len__" : String) = id0; (fail_if_success (clear hid id0)); wp_delta; rw [show splitId id0 = some ("set", "__len__") from by subst hid; decide +kernel]; subst hid)
  refine wpAny_bind (wpAny_isInstance (b := true) isSet2 sub_set_self ?_)
  show wpAny _ r0.in1 (typeOf (.ref c0) >>= _) _ _ _
  refine wpAny_bind (wpAny_typeOf isSet2 (wpAny_pure ?_))
  show wpAny _ r0.in1 (rule "list.extend.makes-room" >>= fun _ => Builtin.List.listTouch (.ref box) >>= fun _ => again (.builtin "list.extend.loop" ⟨[.ref box, .ref it, .ref box], []⟩)) _ _ _
  subst hblank
  refine wpAny_bind (wpAny_rule (wpAny_bind ?_))
  have up1 := Heap.get?_update_self (Obj.mapSeq (·.push Value.none)) atBox2 rfl
  have up2 := Heap.get?_update_self (Obj.mapSeq (·.pop)) up1 rfl
  refine show wpAny _ r0.in1 (updateSeq box (·.push .none) >>= fun _ => updateSeq box (·.pop)) _ _ _ from wpAny_bind (wpAny_updateSeq atBox2 rfl (wpAny_updateSeq up1 rfl ?_))
  have rest : ∀ b u, b ≠ box → u2.heap.get? b = some u → ((u2.heap.update box (Obj.mapSeq (·.push Value.none))).update box (Obj.mapSeq (·.pop))).get? b = some u := fun b u nb e => by
    rw [Heap.get?_update_other _ _ (Ne.symm nb), Heap.get?_update_other _ _ (Ne.symm nb)]; exact e
  have WW := W r0.in1 calm
  have few2 : got.length ≤ sizeLine := by rw [pm.length_eq, List.length_map, Array.length_toList]; exact few
  have start2 := WW.frame 0 _ ((u2.heap.update box (Obj.mapSeq (·.push Value.none))).update box (Obj.mapSeq (·.pop))) start fun b hb u e => rest b u (fun z => boxOff (z ▸ hb)) e
  refine wpAny_pure ⟨plainId_quiet PySem.F.plain_extend_loop _, codeAny_extend_loopS WW.toS few2 _ boxOff _ got.length 0 _ _ _ rfl (Nat.zero_le _) start2 up2 (ItemsOf.nil Pv) fun u3 acc cc hm atBox3 all => ?_⟩
  refine show wpAny _ r0 (load box >>= _) _ _ u3 from wpAny_bind (wpAny_load atBox3 (wpAny_pure ?_))
  show K acc.toList u3
  rw [items_out all hPv]
  have old : ∀ b o, u0.heap.get? b = some o → u3.heap.get? b = some o := fun b o e => by
    have lt : b < box := by rw [hbox]; exact Heap.lt_size e
    refine hm.heap b o (fun z => ?_) (rest b o (Nat.ne_of_lt lt) (k2 b o (k1 b o e)))
    rcases List.mem_cons.mp z with z | z
    · exact Nat.lt_irrefl _ (z ▸ lt)
    · have z' : b = it := List.mem_singleton.mp z
      rw [z'] at lt
      exact Nat.lt_irrefl _ (Nat.lt_trans lt (Nat.lt_of_succ_le itHigh'))
  exact then_ u3 got old (by rw [← hbox]; exact Nat.le_of_lt (Heap.lt_size atBox3)) (hm.gens.trans g2) (hm.os.trans o2) pm
end
end Lf

set_option maxHeartbeats 4000000
/-! Lf, part AD: set(list of tuples) and sorted(set(..)), up to 4899 tuples. -/
namespace Lf
open PySem PySem.Spec PyProof.Rows L2
section
variable {P : Program} {w : World} {A : Around} {E : Value → Shared → Prop} {s : Shared}
theorem SetG.hold {h h' : Heap} {a : Addr} {Ls : List (Addr × List Int)} {es : Array (Int × Value)} {ep : Nat} {t : SetTable} (S : SetG P w h a Ls es ep t) (ha : ∀ o, h.get? a = some o → h'.get? a = some o) (ht : ∀ p ∈ Ls, IsT P w h' p.2 p.1) : SetG P w h' a Ls es ep t := by
  obtain ⟨o, ho, r⟩ := S.ob
  exact { S with ob := ⟨o, ha o ho, r⟩, tup := ht }
theorem setG_new {h : Heap} {a : Addr} (ho : h.get? a = some { cls := .type "set", dict := none, data := .set #[] 0 (.fresh 0 0 (!w.params.followText "set-order")) }) : SetG P w h a [] #[] 0 (.fresh 0 0 (!w.params.followText "set-order")) := by
  refine ⟨⟨_, ho, ⟨rfl, rfl, rfl⟩, rfl⟩, rfl, ⟨.inl rfl, rfl, List.Pairwise.nil, rfl, (fun x hx => nomatch hx), (fun i j h hi => by simp at hi)⟩, List.nodup_nil, (fun p hp => nomatch hp), rfl, ?_, show 0 * 5 < 7 * 3 by decide, show 0 < 4900 by decide⟩
  show _ ∨ (!w.params.followText "set-order") = true
  cases w.params.followText "set-order"
  · exact .inr rfl
  · exact .inl rfl
/-- the loop that fills a new set from what is walked -/
theorem fillG {I : Addr} {fp wr : List Addr} {G : Array GenState → Array GenState → Prop} {n : Nat} {Pv : Nat → Value → Prop} {St : Nat → Shared → Prop} {R : Result → Shared → Prop} (Wk : WalksS P w A.in1 I fp wr G n Pv St) (z : Addr) (out : z ∉ fp)
    (ks : List (Addr × List Int)) (hn : n = ks.length) (few : ks.length < 4900) (val : ∀ i v, Pv i v → ∃ p, ks[i]? = some p ∧ v = .ref p.1) (h0 : Heap) (tup : ∀ p ∈ ks, IsT P w h0 p.2 p.1) (z0 : h0.get? z = none) (w0 : ∀ b ∈ wr, h0.get? b = none) (hu : A.in1.units < cLine) :
    ∀ (left i : Nat) (s : Shared), n - i = left → i ≤ n → St i s → (∀ b o, h0.get? b = some o → s.heap.get? b = some o) → (∃ L es ep t, SetG P w s.heap z L es ep t ∧ Got ks i L) →
      (∀ s' L es ep t, Moved (z :: wr) G s s' → SetG P w s'.heap z L es ep t → Got ks n L → (∀ b o, h0.get? b = some o → s'.heap.get? b = some o) → R (.ok (.ret .none)) s') →
      codeAny (model P w) A (.builtin "set.update.loop" ⟨[.ref z, .ref I], []⟩) R s := by
  have zw : z ∉ wr := fun h => out (Wk.sub _ h)
  have wide : ∀ b ∈ wr, b ∈ z :: wr := fun b hb => List.mem_cons_of_mem _ hb
  have old : ∀ {s s' : Shared}, Moved wr G s s' → (∀ b o, h0.get? b = some o → s.heap.get? b = some o) → ∀ b o, h0.get? b = some o → s'.heap.get? b = some o := fun hm k b o e =>
    hm.heap b o (fun hb => by rw [w0 b hb] at e; cases e) (k b o e)
  intro left
  induction left with
  | zero =>
    intro i s hl hi st k ⟨L, es, ep, t, S, g⟩ fin
    have : i = n := by omega
    subst this
    refine codeAny_builtin F.entry_set_update_loop ?_
    rw [Around.under_plainId F.plain_set_update_loop _]
    show wpAny _ A.in1 (pyNext (.ref I) >>= _) _ _ s
    refine wpAny_bind (Wk.done s _ _ st fun s' hm => ?_)
    show wpAny _ A.in1 (ret Value.none) _ _ s'
    have k' := old hm k
    exact wpAny_pure (fin s' L es ep t (hm.mono wide) (S.hold (fun o e => hm.heap z o zw e) fun p hp => isT_keep (tup p (List.mem_of_mem_take (g.sub p hp))) k') g k')
  | succ left ih =>
    intro i s hl hi st k ⟨L, es, ep, t, S, g⟩ fin
    have lt : i < n := by omega
    refine codeAny_builtin F.entry_set_update_loop ?_
    rw [Around.under_plainId F.plain_set_update_loop _]
    show wpAny _ A.in1 (pyNext (.ref I) >>= _) _ _ s
    refine wpAny_bind (Wk.item i s _ _ lt st fun v s1 pv st1 hm => ?_)
    obtain ⟨p, hp, rfl⟩ := val i v pv
    have k1 := old hm k
    have S1 : SetG P w s1.heap z L es ep t := S.hold (fun o e => hm.heap z o zw e) fun q hq => isT_keep (tup q (List.mem_of_mem_take (g.sub q hq))) k1
    have isP : IsT P w s1.heap p.2 p.1 := isT_keep (tup p (List.mem_of_getElem? hp)) k1
    show wpAny _ A.in1 (holding [Value.ref p.1] (setAdd z (.ref p.1)) >>= _) _ _ s1
    refine wpAny_bind (wpAny_holding ?_)
    unfold setAdd
    refine wpAny_holding (wpAny_bind (wpAny_pyHash_tuple hu isP ?_))
    refine SetG.add (s := { s1 with toks := s1.toks + (p.2.length + 1) }) S1 isP hu (by have := g.len; omega) fun b h2 L2 es2 ep2 t2 sb S2 c1 c2 => ?_
    have g2 : Got ks (i + 1) L2 := by
      by_cases c : p.2 ∈ L.map (·.2)
      · rw [c1 c]; exact g.same hp c
      · exact g.more hp (c2 c)
    have k2 : ∀ b o, h0.get? b = some o → h2.get? b = some o := fun b o e => (sb.2 b (fun q => by rw [q, z0] at e; cases e)).trans (k1 b o e)
    refine wpAny_pure ⟨plainId_quiet F.plain_set_update_loop _, ih (i + 1) _ (by omega) lt (Wk.frame _ s1 _ _ st1 (Nat.le_add_right _ _) fun b hb o e => ?_) k2 ⟨L2, es2, ep2, t2, S2, g2⟩ fun s3 L3 es3 ep3 t3 m3 S3 g3 k3 => ?_⟩
    · exact (sb.2 b fun q => out (q ▸ hb)).trans e
    · exact fin s3 L3 es3 ep3 t3 (Moved.trans Wk.gtrans ((hm.mono wide).then_heap (Nat.le_add_right _ _) fun b o hb e => (sb.2 b fun q => hb (q ▸ List.mem_cons_self)).trans e) m3) S3 g3 k3
abbrev setObj0 (w : World) : Obj := { cls := .type "set", dict := none, data := .set #[] 0 (.fresh 0 0 (!w.params.followText "set-order")) }
set_option maxHeartbeats 8000000 in
/-- set(xs) -/
theorem call_setG {l : Addr} {items : Array Value} (ks : List (Addr × List Int)) {Q : Value → Shared → Prop} (quiet : A.handled = none) (hl : s.heap.IsList l items) (hit : items.toList = ks.map fun p => Value.ref p.1) (tup : ∀ p ∈ ks, IsT P w s.heap p.2 p.1) (few : ks.length < 4900) (hu : A.units + 3 < cLine)
    (fin : ∀ (h' : Heap) (tk : Nat) L es ep t, SetG P w h' s.heap.objs.size L es ep t → Got ks ks.length L → (∀ b o, s.heap.get? b = some o → h'.get? b = some o) → Q (.ref s.heap.objs.size) { s with heap := h', toks := tk }) :
    wpAny (model P w) A (call (.type "set") [.ref l]) Q E s := by
  have size : items.size = ks.length := by
    have e := congrArg List.length hit
    rw [Array.length_toList, List.length_map] at e
    exact e
  have gone : ∀ b, s.heap.objs.size ≤ b → s.heap.get? b = none := fun b hb => by
    cases q : s.heap.get? b with
    | none => rfl
    | some o => exact absurd (Heap.lt_size q) (Nat.not_lt.mpr hb)
  obtain ⟨c, tl, hmro⟩ := F.called_set.mro
  have hmade := F.called_set.made
  have hsub := F.called_set.sub
  refine wpAny_call (codeAny_of_tree ?_)
  show wpAny _ _ (callAny (.type "set") _) _ _ _
  refine wpAny_pure ⟨Code.quiet_builtin _ (by decide +kernel), codeAny_builtin F.entry_type_call ?_⟩
  rw [Around.under_plain (weight_type_call_type "set" [.ref l] []) rfl]
  have hnt := F.called_set.notType
  have hcc := F.called_set.canCreate
  have htc := F.typeCall_set_1 (.ref l)
  repeat (any_goals (first | assumption | wp_step))
  refine codeAny_mono (code_set_led1 (.ref l) (E := E) (Q₁ := fun obj s₁ => obj = .ref s.heap.objs.size ∧ s₁ = { s with heap := s.heap.push { cls := .type "set", dict := none, data := .set #[] 0 (.fresh 0 0 (!w.params.followText "set-order")) } }) ⟨rfl, rfl⟩) fun r s₁ hr => ?_
  cases r with
  | error e => exact hr
  | ok fl =>
    cases fl with
    | ret obj =>
      obtain ⟨rfl, rfl⟩ := hr
      have at0 : (s.heap.push (setObj0 w)).get? s.heap.objs.size = some (setObj0 w) := Heap.get?_push_size _ rfl
      have ty0 : Shared.TypeIs { s with heap := s.heap.push (setObj0 w) } (.ref s.heap.objs.size) "set" := ⟨_, at0, rfl⟩
      have ilk := F.called_set.init.lookup
      have ibd := F.called_set.init.bind (.ref s.heap.objs.size)
      repeat (any_goals (first | assumption | wp_step))
      refine codeAny_mono (codeAny_call_builtin (R := wants (fun r s₂ => r = .none ∧ ∃ h' tk L es ep t, s₂ = { s with heap := h', toks := tk } ∧ SetG P w h' s.heap.objs.size L es ep t ∧ Got ks ks.length L ∧
          (∀ b o, s.heap.get? b = some o → h'.get? b = some o)) E) F.called_set.init.plain F.entry_set_init (check_set_init_1 ty0 ?_)) fun r₂ s₂ hr₂ => ?_
      · have l1 : (s.heap.push (setObj0 w)).IsList l items := hl.push _
        obtain ⟨ol, hol, hcl, nl, hdl⟩ := hl
        obtain ⟨ocls, odict, odata, oslots⟩ := ol
        simp only at hcl hdl
        subst hcl; subst hdl
        have hol' : (s.heap.push (setObj0 w)).get? l = some { cls := .type "list", dict := odict, data := .seq items nl, slots := oslots } := Heap.get?_push_of_some _ hol
        have hsls := F.sub_list_set
        have hslf := F.sub_list_frozenset
        have hne : (Value.type "list" == Value.type "dict") = false := by decide
        unfold Builtin.«set.__init__» noKeywords Builtin.Frozenset.updateFrom
        generalize hPI : pyIter = PI
        wp_walk
        subst hPI
        refine wpAny_pyIter_list l1 ?_
        refine wpAny_bind (wpAny_runValue ?_)
        have lts : l < s.heap.objs.size := Heap.lt_size hol
        have q3 : A.in1.in1.in1.handled = none := by simp [quiet]
        have nI : l ≠ (s.heap.push (setObj0 w)).objs.size := by rw [Heap.size_push]; exact Nat.ne_of_lt (Nat.lt_succ_of_lt lts)
        have nS : s.heap.objs.size ∉ [(s.heap.push (setObj0 w)).objs.size, l] := by
          rw [Heap.size_push]
          simp only [List.mem_cons, List.not_mem_nil, or_false, not_or]
          exact ⟨Nat.ne_of_lt (Nat.lt_succ_self _), Nat.ne_of_gt lts⟩
        have val : ∀ (i : Nat) (v : Value), items[i]? = some v → ∃ p, ks[i]? = some p ∧ v = .ref p.1 := fun i v hv => by
          rw [← Array.getElem?_toList, hit, List.getElem?_map] at hv
          cases hq : ks[i]? with
          | none => rw [hq] at hv; cases hv
          | some p => rw [hq] at hv; exact ⟨p, rfl, (Option.some.inj hv).symm⟩
        refine fillG ((Walks.list q3 _ l nI items).toS) s.heap.objs.size nS ks size few val s.heap tup (gone _ (Nat.le_refl _)) (fun b hb => gone b (by rw [List.mem_singleton.mp hb, Heap.size_push]; exact Nat.le_succ _)) hu (items.size - 0) 0 _ (by omega) (Nat.zero_le _)
          ⟨⟨_, Heap.get?_push_size _ rfl, rfl, rfl⟩, (l1.push _)⟩ (fun b o e => Heap.get?_push_of_some _ (Heap.get?_push_of_some _ e)) ⟨[], #[], 0, _, setG_new (Heap.get?_push_of_some _ at0), Got.zero ks⟩ fun s' L es ep t hm S' g' k' => ?_
        obtain ⟨h', gens', drawn', tk', os'⟩ := s'
        have eg : gens' = s.gens := hm.gens
        have ed : drawn' = s.drawn := hm.drawn
        have eo : os' = s.os := hm.os
        subst eg; subst ed; subst eo
        show wpAny _ _ _ _ _ _
        refine wpAny_pure ?_
        show wpAny _ _ (ret Value.none) _ _ _
        rw [size] at g'
        exact wpAny_pure ⟨rfl, h', tk', L, es, ep, t, rfl, S', g', k'⟩
      · cases r₂ with
        | error e => exact hr₂
        | ok fl₂ =>
          cases fl₂ with
          | ret r =>
            obtain ⟨rfl, h', tk, L, es, ep, t, rfl, S', g', k'⟩ := hr₂
            repeat (any_goals (first | assumption | wp_step))
            exact fin _ _ _ _ _ _ S' g' k'
          | _ => exact hr₂.elim
    | _ => exact hr.elim
theorem sorted_setG {a : Addr} {L : List (Addr × List Int)} {es : Array (Int × Value)} {ep : Nat} {t : SetTable} {Q : Value → Shared → Prop} (R : SetG P w s.heap a L es ep t) (hh : A.handled = none) (hu : A.units + 100 < cLine)
    (h2 : ∀ p ∈ L, p.2.length = 2)
    (hQ : ∀ (s' : Shared) (p : Addr) (out : List Value) (c : Nat) (L' : List (Addr × List Int)), (∀ b o, s.heap.get? b = some o → s'.heap.get? b = some o) → s'.gens = s.gens → s'.os = s.os → s.heap.objs.size ≤ p →
      s'.heap.get? p = some (seqObj "list" out.toArray c) → out = L'.map (fun q => Value.ref q.1) → L'.Perm L → (L'.map fun q => keyC q.2).Pairwise (fun a b => leC a b = true) → Q (.ref p) s') :
    wpAny (model P w) A (call (.builtin "sorted") [.ref a]) Q E s := by
  have few := R.few
  obtain ⟨o, ho, hex, hd⟩ := R.ob
  refine Calls.call_function_entry kind_sorted plain_sorted entry_sorted (args_sorted1 (.ref a)) (wpAny_bind (m := checkCount "sorted" 1 1 _) (wpAny_pure ?_))
  refine wpAny_bind ?_
  refine plain_collect (r0 := A.in1) hh ⟨o, ho, hex.1, hd⟩ R.fits R.plain (by rw [R.esz, sizeLine_eq]; omega) R.tab.ris R.led fun s1 vs k1 z1 g1 o1 pm => ?_
  have erows : es.toList.map (·.2) = L.map fun q => Value.ref q.1 := by
    rw [R.rows, rowsOf, List.map_map]; rfl
  rw [erows] at pm
  -- the values in the order in which they came
  have ord : ∀ {vs : List Value} {M : List (Addr × List Int)}, vs.Perm (M.map fun q => Value.ref q.1) → ∃ M' : List (Addr × List Int), vs = M'.map (fun q => Value.ref q.1) ∧ M'.Perm M := by
    intro vs
    induction vs with
    | nil =>
      intro M p
      have : M = [] := by simpa using (List.Perm.eq_nil p.symm)
      exact ⟨[], rfl, by rw [this]⟩
    | cons v vs ih =>
      intro M p
      obtain ⟨q, hq, e⟩ := List.mem_map.mp (p.mem_iff.mp List.mem_cons_self)
      obtain ⟨l1, l2, rfl⟩ := List.append_of_mem hq
      have p2 : vs.Perm ((l1 ++ l2).map fun q => Value.ref q.1) := by
        have p3 : (v :: vs).Perm (v :: ((l1 ++ l2).map fun q => Value.ref q.1)) := by
          refine p.trans ?_
          rw [List.map_append, List.map_cons, e, List.map_append]
          exact List.perm_middle
        exact p3.cons_inv
      obtain ⟨M', e1, e2⟩ := ih p2
      exact ⟨q :: M', by rw [e1, ← e]; rfl, (e2.cons q).trans List.perm_middle.symm⟩
  obtain ⟨L1, rfl, pL1⟩ := ord pm
  have l64 : L1.length < 4900 := by rw [pL1.length_eq]; exact few
  refine wpAny_bind (wpAny_newList ?_ (by simp only [List.length_map]; rw [sizeLine_eq]; omega))
  have atL : (s1.heap.push (seqObj "list" (L1.map fun q => Value.ref q.1).toArray 0)).get? s1.heap.objs.size = some (seqObj "list" (L1.map fun q => Value.ref q.1).toArray 0) := Heap.get?_push_size _ rfl
  let enc : Addr × List Int → PyData := fun q => .tuple (q.2.map .int)
  have rd : ∀ q ∈ L1, ∃ as, Reads (s1.heap.push (seqObj "list" (L1.map fun q => Value.ref q.1).toArray 0)) (.ref q.1) (enc q) as ∧ s1.heap.objs.size ∉ as := fun q hq => by
    obtain ⟨b, xs, eb, ⟨ob, hob, hcl, n, hdt⟩, hxs⟩ := tupInts_of (P := P) (w := w) (isT_keep (R.tup q (pL1.mem_iff.mp hq)) fun b u e => Heap.get?_push_of_some (seqObj "list" (L1.map fun q => Value.ref q.1).toArray 0) (k1 b u e))
    cases eb
    have ra : ∀ {vs : List Value} {ns : List Int}, IntsAre vs ns → ReadsAll (s1.heap.push (seqObj "list" (L1.map fun q => Value.ref q.1).toArray 0)) vs (ns.map PyData.int) [] := by
      intro vs ns h
      induction h with
      | nil => exact .nil
      | cons i tk _ ih => exact .cons (as := []) (.int i tk) ih
    exact ⟨[], .tuple hob hcl hdt (ra hxs), by simp⟩
  have eR : PySem.W.EachIs (fun (v : Value) (q : Addr × List Int) => v = Value.ref q.1) (L1.map fun q => Value.ref q.1) L1 := by
    clear rd l64 pL1 pm atL
    induction L1 with
    | nil => exact .nil
    | cons q r ih => exact .cons rfl ih
  have eD : PySem.W.EachIs (fun v (q : Addr × List Int) => ∃ as, Reads (s1.heap.push (seqObj "list" (L1.map fun q => Value.ref q.1).toArray 0)) v (enc q) as ∧ s1.heap.objs.size ∉ as) (L1.map fun q => Value.ref q.1) L1 := by
    have gen : ∀ {h : Heap} {n : Addr} {M : List (Addr × List Int)}, (∀ q ∈ M, ∃ as, Reads h (.ref q.1) (enc q) as ∧ n ∉ as) → PySem.W.EachIs (fun v (q : Addr × List Int) => ∃ as, Reads h v (enc q) as ∧ n ∉ as) (M.map fun q => Value.ref q.1) M := by
      intro h n M
      induction M with
      | nil => intro _; exact .nil
      | cons q r ih => intro hm; exact .cons (hm q List.mem_cons_self) (ih fun u hu => hm u (List.mem_cons_of_mem _ hu))
    exact gen rd
  have two : ∀ q ∈ L1, ∃ x y, q.2 = [x, y] := fun q hq => by
    have := h2 q (pL1.mem_iff.mp hq)
    match hk : q.2, this with
    | [x, y], _ => exact ⟨x, y, rfl⟩
  have al : PySem.W.AllAlike (L1.map enc) := fun d hd d' hd' => by
    obtain ⟨q, hq, rfl⟩ := List.mem_map.mp hd
    obtain ⟨q', hq', rfl⟩ := List.mem_map.mp hd'
    exact PySem.W.alike_ints q.2 q'.2
  have so : PySem.W.Sortable (L1.map enc) := .inl fun d hd => by
    obtain ⟨q, hq, rfl⟩ := List.mem_map.mp hd
    obtain ⟨x, y, e⟩ := two q hq
    exact ⟨.int x, [.int y], by show PyData.tuple (q.2.map .int) = _; rw [e]; rfl⟩
  have dep : ∀ q : Addr × List Int, (enc q).depth ≤ 1 := fun q => by
    show PyData.depth (.tuple (q.2.map .int)) ≤ 1
    simp only [PyData.depth, PySem.W.depth_ints]
    omega
  refine wpAny_bind (wpAny_holding ?_)
  refine PySem.W.list_sort_data (s := { s1 with heap := s1.heap.push (seqObj "list" (L1.map fun q => Value.ref q.1).toArray 0) }) (enc := enc) atL eR eD al so (by rw [sizeLine_eq]; omega) (fun q _ => ?_) fun out ho he => ?_
  · have := dep q
    show A.units + 1 + 1 + _ < cLine
    omega
  · obtain ⟨c, hc⟩ := PyProof.Rows.sortedHeap_at (vs := L1.map fun q => Value.ref q.1) (out := out.toArray) atL
    have eo : out = (L1.mergeSort (PySem.W.dataLe false enc)).map fun q => Value.ref q.1 := by
      generalize L1.mergeSort (PySem.W.dataLe false enc) = M at he
      clear ho hc
      induction he with
      | nil => rfl
      | cons h1 _ ih => rw [List.map_cons, h1, ih]
    have pS := List.mergeSort_perm L1 (PySem.W.dataLe false enc)
    refine wpAny_pure ⟨_, rfl, hQ _ s1.heap.objs.size out c (L1.mergeSort (PySem.W.dataLe false enc)) (fun b u e => ?_) g1 o1 z1 hc eo (pS.trans pL1) ?_⟩
    · have e2 := k1 b u e
      have lt := Heap.lt_size e2
      refine (PyProof.Rows.sortedHeap_old (Nat.ne_of_lt lt) (by rw [size_push']; exact Nat.lt_succ_of_lt lt)).trans ?_
      exact Heap.get?_push_of_some _ e2
    · refine pw_keys (fun q hq => h2 q (pL1.mem_iff.mp (pS.mem_iff.mp hq))) (PySem.W.sort_pairwise (PySem.W.sortLe_total _ _ _) L1)
end
/-- the set at a, as the tracked heap tells it -/
structure SetG0 (P : Program) (w : World) (h : Heap) (a : Addr) (L : List (Addr × List Int)) : Prop where
  ex : ∃ (es : Array (Int × Value)) (ep : Nat) (t : SetTable), (∃ o, h.get? a = some o ∧ o.ExactSet ∧ o.data = .set es ep t) ∧ es.toList = rowsOf P w L ∧ Tab t (L.map fun p => thash P w p.2) ∧ (L.map (·.2)).Nodup ∧ t.plain = true ∧
    (w.params.followText "set-order" = true ∨ t.led = true) ∧ L.length * 5 < t.mask * 3 ∧ L.length < 4900
def SetGO (P : Program) (w : World) (a : Addr) (L : List (Addr × List Int)) : HO := .ext fun h => SetG0 P w h a L
theorem SetG.zero {P : Program} {w : World} {h : Heap} {a : Addr} {L : List (Addr × List Int)} {es : Array (Int × Value)} {ep : Nat} {t : SetTable} (S : SetG P w h a L es ep t) : SetG0 P w h a L :=
  ⟨es, ep, t, S.ob, S.rows, S.tab, S.nd, S.plain, S.led, S.room, S.few⟩
theorem SetG0.full {P : Program} {w : World} {h : Heap} {a : Addr} {L : List (Addr × List Int)} (S : SetG0 P w h a L) (ht : ∀ p ∈ L, IsT P w h p.2 p.1) : ∃ es ep t, SetG P w h a L es ep t := by
  obtain ⟨es, ep, t, a1, a2, a3, a4, a5, a6, a7, a8⟩ := S.ex
  exact ⟨es, ep, t, a1, a2, a3, a4, ht, a5, a6, a7, a8⟩
theorem setGO_ok {P : Program} {w : World} {H : Hp} {h : Heap} {a : Addr} {L : List (Addr × List Int)} (S : SetG0 P w h a L) : ObjOk P w H h a (SetGO P w a L) := by
  have ⟨es, ep, t, ⟨o, ho, r⟩, q⟩ := S.ex
  refine ⟨S, ⟨o, ho⟩, fun h1 h2 p k => ?_⟩
  have ⟨es', ep', t', ⟨o', ho', r'⟩, q'⟩ := SetG0.ex p
  exact ⟨es', ep', t', ⟨o', k o' ho', r'⟩, q'⟩
def rSetOfG (K : PySem.W.Frag) (P : Program) (w : World) : List V → Hp → VK → Prop := fun xs H Q => ∃ (l : Addr) (ks : List (Addr × List Int)), xs = [V.ref l] ∧ SqL K H l (ks.map fun p => V.ref p.1) ∧ (∀ p ∈ ks, SqT K H p.1 (p.2.map V.int)) ∧ ks.length < 4900 ∧
  ∀ a L, H a = none → (∀ p ∈ L, p ∈ ks) → (∀ p ∈ ks, p.2 ∈ L.map (·.2)) → Q (.ref a) (upd H a (SetGO P w a L))
theorem cr_setOfG {X : Cx} (hc : X.calm = true) (hu : X.A.units + 64 < cLine) : CallR X (.type "set") (rSetOfG X.K X.prog X.w) := by
  intro pins s σ H xs us Q I r h
  obtain ⟨l, ks, rfl, hl, hk, few, q⟩ := h
  rw [Vals.ref1 r]
  obtain ⟨its, rv, pl, hz⟩ := I.list hl
  refine call_setG (P := X.prog) (w := X.w) ks (I.ok.hd hc) pl.isList (by simpa using refs_of_vals rv) (fun p hp => I.isT (hk p hp)) few (by omega) fun h' tk L es ep t S g k => ?_
  exact ⟨.ref s.heap.objs.size, upd H s.heap.objs.size (SetGO X.prog X.w s.heap.objs.size L), I.laid (t' := tk) k (Nat.le_refl _) (setGO_ok S.zero), rfl, q _ L (I.hok.fresh (Nat.le_refl _)) (fun p hp => List.mem_of_mem_take (g.sub p hp)) fun p hp => g.all p (by rw [List.take_length]; exact hp)⟩
def rSsG (K : PySem.W.Frag) (P : Program) (w : World) : List V → Hp → VK → Prop := fun vs H Q => ∃ (a : Addr) (L : List (Addr × List Int)), vs = [V.ref a] ∧ H a = some (SetGO P w a L) ∧ (∀ p ∈ L, SqT K H p.1 (p.2.map V.int)) ∧ (∀ p ∈ L, p.2.length = 2) ∧
  ∀ (L' : List (Addr × List Int)) (p : Addr), L'.Perm L → (L'.map fun q => keyC q.2).Nodup → (L'.map fun q => keyC q.2).Pairwise (fun a b => leC a b = true) → H p = none → Q (.ref p) (upd H p (.lst (L'.map fun q => V.ref q.1)))
theorem cr_ssG {X : Cx} (hc : X.calm = true) (hu : X.A.units + 100 < cLine) : CallR X (.builtin "sorted") (rSsG X.K X.prog X.w) := by
  intro pins s σ H vs us Q I r h
  obtain ⟨a, L, rfl, ha, hk, h2, q⟩ := h
  have R0 : SetG0 X.prog X.w s.heap a L := (I.hok a _ ha).1
  obtain ⟨es, ep, t, R⟩ := R0.full fun p hp => I.isT (hk p hp)
  have nd0 := R.nd
  have few := R.few
  rw [Vals.ref1 r]
  refine sorted_setG R (I.ok.hd hc) hu h2 fun s' p out c L' k g o hp hg ho pm pw => ?_
  have hn : H p = none := I.hok.fresh hp
  have hv : Vals (L'.map fun q => V.ref q.1) out := by rw [ho]; exact vals_of_refs L'
  have hlen : (L'.map fun q => V.ref q.1).length ≤ sizeLine := by rw [List.length_map, pm.length_eq, sizeLine_eq]; omega
  have ndk : (L'.map fun q => keyC q.2).Nodup := by
    have n1 : (L'.map (·.2)).Nodup := ((pm.map (·.2)).nodup_iff).mpr nd0
    have e : (L'.map fun q => keyC q.2) = (L'.map (·.2)).map keyC := by rw [List.map_map]; rfl
    rw [e]
    refine List.pairwise_map.mpr (List.Pairwise.imp_of_mem (fun {x y} hx hy hne e => hne ?_) n1)
    obtain ⟨p1, m1, rfl⟩ := List.mem_map.mp hx
    obtain ⟨p2, m2, rfl⟩ := List.mem_map.mp hy
    exact keyC_inj (h2 p1 (pm.mem_iff.mp m1)) (h2 p2 (pm.mem_iff.mp m2)) e
  have J : Inv X pins σ (upd H p (.lst (L'.map fun q => V.ref q.1))) { s with heap := s'.heap, gens := s'.gens, drawn := s'.drawn, toks := s'.toks } :=
    I.call (ch := []) (Un.laid k hp hn) (I.hok.laid k hp (show ObjOk X.prog X.w _ _ _ (.lst _) from ⟨hlen, out, c, hv, hg⟩)) (by rw [g]; exact I.bare) (fun _ z => nomatch z)
  have e : s' = { s with heap := s'.heap, gens := s'.gens, drawn := s'.drawn, toks := s'.toks } := by
    obtain ⟨x1, x2, x3, x4, x5⟩ := s'
    obtain ⟨y1, y2, y3, y4, y5⟩ := s
    simp only at o g
    subst o
    rfl
  rw [e]
  exact ⟨.ref p, _, J, rfl, q L' p pm ndk pw hn⟩
section
variable {X : Cx} {e a b : Expr} {pos : Pos}
def nSsetG (f : OF) : NF := fun ρ L => match f ρ L with
  | none => none
  | some (h, L1) => match cont ρ L1 h with
    | some (.lst ws) => (match cellsW ws with
      | some cs => if cs.length < 4900 then some (.lst ((canon cs).map cW), L1) else none
      | none => none)
    | _ => none
theorem in_ssetG {f : OF} {p p2 pos2 : Pos} (hc : X.calm = true) (hu : X.A.units + 100 < cLine) (hg : Gl X "sorted") (hm : X.mg "sorted" = none) (hg2 : Gl X "set") (hm2 : X.mg "set" = none) (ha : IO X a f)
    (he : starEach [.Call (.Name "set" p2) [a] [] pos2] X.env = (false, eval (.Call (.Name "set" p2) [a] [] pos2) X.env) :: starEach [] X.env := by rfl)
    (he2 : starEach [a] X.env = (false, eval a X.env) :: starEach [] X.env := by rfl) (hpl : (backTo pos (starEach [] X.env)).any (·.1) = false := by rfl) (hpl2 : (backTo pos2 (starEach [] X.env)).any (·.1) = false := by rfl) :
    IN X (.Call (.Name "sorted" p) [.Call (.Name "set" p2) [a] [] pos2] [] pos) (nSsetG f) := by
  refine ⟨fun {Zx Z F φ L ρ σ H m L'} hs ss h Q q => PE.wp (pe_callB (cr_ssG hc hu) hg hm (by decide +kernel) (pa_cons (pe_callTy (cr_setOfG hc (by omega)) hg2 hm2 (by decide +kernel) (pa_cons wpE pa_nil he2) (he := he2) (hpl := hpl2)) pa_nil he) (he := he) (hpl := hpl)) ?_⟩
  unfold nSsetG at h
  split at h
  · cases h
  rename_i hd L1 e1
  split at h
  · rename_i ws e2
    split at h
    · rename_i cs e3
      split at h
      · rename_i hz
        simp only [Option.some.injEq, Prod.mk.injEq] at h
        obtain ⟨rfl, rfl⟩ := h
        refine ha.run hs ss e1 _ fun F1 φ1 H1 v s1 p1 hs1 r1 => ?_
        obtain ⟨a, vs, rfl, g1, g2⟩ := (cont_ok hs1 (ss.mono s1 p1) r1 e2).seq hs1.sub
        rw [cellsW_eq e3] at g2
        obtain ⟨as, t1, t2, t3⟩ := g2.cells
        subst t1 t2
        have ksEq : (as.map fun p => ((p.1, [p.2.1, p.2.2]) : Addr × List Int)).map (fun p => V.ref p.1) = as.map fun p => V.ref p.1 := by rw [List.map_map]; rfl
        refine ⟨a, as.map fun p => (p.1, [p.2.1, p.2.2]), rfl, by rw [ksEq]; exact g1, fun p hp => ?_, by rw [List.length_map]; rw [List.length_map] at hz; exact hz, fun st LL hst sub1 sub2 => ?_⟩
        · obtain ⟨u, hu', rfl⟩ := List.mem_map.mp hp
          exact (t3 u hu').sq hs1.sub
        · -- the set stands at st, untracked by us
          have back : ∀ p ∈ LL, ∃ u ∈ as, p = (u.1, [u.2.1, u.2.2]) := fun p hp => by
            obtain ⟨u, h1, h2⟩ := List.mem_map.mp (sub1 p hp)
            exact ⟨u, h1, h2.symm⟩
          have hs2 : Hs X.K X.mg Z F1 φ1 L1 (upd H1 st (SetGO X.prog X.w st LL)) := (hs1.fresh (o := SetGO X.prog X.w st LL) hst (by intro _ z; unfold SetGO at z; cases z)).weak (Sub.new (hs1.free hst).2.1)
          refine ⟨st, LL, rfl, upd_same, fun p hp => ?_, fun p hp => ?_, fun L' p pm nd pw hp => ?_⟩
          · obtain ⟨u, h1, rfl⟩ := back p hp
            exact (t3 u h1).sq hs2.sub
          · obtain ⟨u, h1, rfl⟩ := back p hp
            rfl
          · have hmem : ∀ x, x ∈ (L'.map fun q => keyC q.2) ↔ x ∈ as.map Prod.snd := fun x => by
              constructor
              · intro hx
                obtain ⟨q, hq, rfl⟩ := List.mem_map.mp hx
                obtain ⟨u, h1, rfl⟩ := back q (pm.mem_iff.mp hq)
                exact List.mem_map.mpr ⟨u, h1, rfl⟩
              · intro hx
                obtain ⟨u, hu', rfl⟩ := List.mem_map.mp hx
                have m1 := sub2 (u.1, [u.2.1, u.2.2]) (List.mem_map.mpr ⟨u, hu', rfl⟩)
                obtain ⟨q, hq, e⟩ := List.mem_map.mp m1
                refine List.mem_map.mpr ⟨q, pm.mem_iff.mpr hq, ?_⟩
                rw [e]; rfl
            have ec : canon (as.map Prod.snd) = L'.map fun q => keyC q.2 := by
              rw [canon_of nd hmem]
              exact sorted_uniq (sortC_perm _) (sortC_pw _) pw
            have rr : Rs X.K F1 φ1 ((L'.map fun q => keyC q.2).map cW) (L'.map fun q => V.ref q.1) := by
              have := Rs.of_cells (K := X.K) (F := F1) (φ := φ1) (as := L'.map fun q => (q.1, keyC q.2)) fun p hp => by
                obtain ⟨q, hq, rfl⟩ := List.mem_map.mp hp
                obtain ⟨u, h1, rfl⟩ := back q (pm.mem_iff.mp hq)
                exact t3 u h1
              have ea : (L'.map fun q => ((q.1, keyC q.2) : Addr × Cell)).map Prod.snd = L'.map fun q => keyC q.2 := by rw [List.map_map]; rfl
              have eb : (L'.map fun q => ((q.1, keyC q.2) : Addr × Cell)).map (fun p => V.ref p.1) = L'.map fun q => V.ref q.1 := by rw [List.map_map]; rfl
              rw [ea, eb] at this
              exact this
            refine q F1 φ1 _ p (.lst (L'.map fun q => V.ref q.1)) s1 p1 (hs2.free hp).2.1 (hs2.fresh hp) ?_
            show Rs _ _ _ ((canon (as.map Prod.snd)).map cW) _
            rw [ec]
            exact rr
      · cases h
    · cases h
  · cases h
end
@[simp] theorem e_nSsetG (f : OF) (ρ : Ro) (L : Lg) : nSsetG f ρ L = (match f ρ L with
  | none => none
  | some (h, L1) => match cont ρ L1 h with
    | some (.lst ws) => (match cellsW ws with
      | some cs => if cs.length < 4900 then some (.lst ((canon cs).map cW), L1) else none
      | none => none)
    | _ => none) := id rfl
end Lf

set_option maxHeartbeats 4000000
/-! Lf, part AE: [.. for k, v in d.items() ..], the keys of d tuples. -/
namespace Lf
open PySem PySem.Spec PyProof.Rows L2
def ItiT (d : Addr) (o : Obj) (kvs : List (List Key × V)) : It :=
  ⟨fun i H => H d = some (.frz o (.dT kvs)) ∧ i < kvs.length, fun i H x H' => ∃ (T : Addr) (k : List Key) (v : V) (q : Addr), kvs[i]? = some (k, v) ∧ x = .ref T ∧ H T = none ∧ H q = some (.tup (k.map kV)) ∧ H' = upd H T (.tup [.ref q, v]), fun i H => H d = some (.frz o (.dT kvs)) ∧ kvs.length ≤ i⟩
theorem frzTv {X : Cx} {pins : List (Addr × Obj)} {σ : L2.St} {H : Hp} {s : Shared} {d : Addr} {o : Obj} {kvs : List (List Key × V)} (I : Inv X pins σ H s) (h : H d = some (.frz o (.dT kvs))) :
    (d == sysModules) = false ∧ s.heap.get? d = some o ∧ o.ExactDict ∧ ∃ (es : Array DictEntry) (ep : Nat), o.data = .dict es ep ∧ es.size = kvs.length ∧
      ∀ (i : Nat) (k : List Key) (v : V), kvs[i]? = some (k, v) → ∃ (en : DictEntry) (q : Addr), es[i]? = some en ∧ en.key = .ref q ∧ H q = some (.tup (k.map kV)) ∧ RelV v en.val := by
  obtain ⟨hd, z, hs, xs, pr, o', es, ep, ho, hx, hdt, he, _⟩ := I.hok d _ h
  rw [hd] at ho
  cases ho
  refine ⟨hs, hd, hx, es, ep, hdt, ?_, fun i k v e => ?_⟩
  · rw [size_of_entries he]; exact (Paired.length pr).symm
  · obtain ⟨b, hb, _, e2, e3⟩ := paired_get pr e
    have q := entry_at he i
    rw [hb] at q
    exact ⟨_, b.2.1, q, rfl, e2, e3⟩
section
variable {P : Program} {w : World} {K : PySem.W.Frag} {d : Addr} {o : Obj} {es : Array DictEntry} {ep : Nat}
theorem turn_itemsT {kvs : List (List Key × V)} {elts : List Expr} {kk : Nat} {tp : Pos} (it : Addr) (hod : o.data = .dict es ep) :
    Turn P w K (.Tuple elts kk tp) (ItiT d o kvs) [it] it (fun i h => ∃ ok ov, IsItemIter h it d i kvs.length ep ok ov) where
  mem := by simp
  obj := fun i h st b hb => by
    obtain rfl : b = it := by simpa using hb
    obtain ⟨ok, ov, e⟩ := st
    exact ⟨_, e, fun v z => nomatch z⟩
  keep := fun i h h' ⟨ok, ov, e⟩ k => ⟨ok, ov, k it (by simp) _ e⟩
  item := by
    intro X hP hw hK hc i pins s σ H E I hf st hg
    subst hP hw hK
    obtain ⟨hd, hi⟩ := hg
    obtain ⟨hs, hgd, hx, es', ep', hdt, hsz, ent⟩ := frzTv I hd
    obtain ⟨rfl, rfl⟩ := dict_ep hod hdt
    obtain ⟨⟨k, v⟩, hkv⟩ : ∃ p, kvs[i]? = some p := ⟨_, List.getElem?_eq_getElem hi⟩
    obtain ⟨en, q, hen, hkey, hq, hval⟩ := ent i k v hkv
    obtain ⟨ok, ov, he⟩ := st
    rw [← hsz] at he
    have lt : it < s.heap.objs.size := Heap.lt_size he
    have ie : i < es'.size := by rw [hsz]; exact hi
    have een : es'[i] = en := by
      rw [Array.getElem?_eq_getElem ie] at hen
      exact Option.some.inj hen
    refine DT.nextI he ⟨o, hgd, hx, hdt⟩ ie fun h' ho hT hz hk => ?_
    rw [een] at ho hT
    refine ⟨_, rfl, wpAny_letOwnedTupleGo_items (s := { s with heap := h' }) ho fun h'' he' sb => ?_⟩
    have hT2 : h''.get? s.heap.objs.size = some { cls := .type "tuple", data := .seq #[en.key, en.val] } := (sb.2 _ (Nat.ne_of_gt lt)).trans hT
    have new : ObjOk X.prog X.w (upd H s.heap.objs.size (.tup [.ref q, v])) h'' s.heap.objs.size (.tup [.ref q, v]) :=
      ⟨by show 2 ≤ sizeLine; decide, [en.key, en.val], .cons hkey (.cons hval .nil), ⟨_, hT2, rfl, _, rfl⟩⟩
    have I1 : Inv X pins σ (upd H s.heap.objs.size (.tup [.ref q, v])) { s with heap := h'' } :=
      I.turnedNew (t' := s.toks) (ch := [it]) (fun b ob hb e => (sb.2 b (by simpa using hb)).trans (hk b ob (by simpa using hb) e)) hf (Nat.le_refl _) new
    refine ⟨.ref s.heap.objs.size, _, I1, rfl, ⟨_, k, v, q, hkv, rfl, I.hok.fresh (Nat.le_refl _), hq, rfl⟩, ⟨en.key, en.val, ?_⟩, fun b hb => ?_⟩
    · rw [← hsz]; exact he'
    · obtain rfl : b = it := by simpa using hb
      rw [upd_ne (Nat.ne_of_lt lt)]
      exact (hf b (by simp)).1
  done := by
    intro X hP hw hK hc i pins s σ H E I hf st hg
    subst hP hw hK
    obtain ⟨hd, hi⟩ := hg
    obtain ⟨f0, f1, f2, f3, f4, f5⟩ := hf it (by simp)
    obtain ⟨hs, hgd, hx, es', ep', hdt, hsz, ent⟩ := frzTv I hd
    obtain ⟨rfl, rfl⟩ := dict_ep hod hdt
    obtain ⟨ok, ov, he⟩ := st
    rw [← hsz] at he
    exact DT.endI (I.ok.hd hc) he ⟨o, hgd, hx, hdt⟩ (by rw [hsz]; exact hi) fun h' eb => ⟨rfl, I.turned (t' := s.toks) (fun b ob hb e => eb b ob hb e) f0 f1 f3 f4 f5⟩
  self := fun A i s Q E ⟨_, _, e⟩ h => PySem.W.kcp_self e h
end
def iItemsT (td : TE) : TI := fun σ H R => td σ H fun x H1 => ∃ d o kvs, x = .ref d ∧ H1 d = some (.frz o (.dT kvs)) ∧ R (ItiT d o kvs) H1
section
variable {X : Cx} {tg e : Expr} {td : TE} {apos cpos pos : Pos}
theorem pi_itemsT {elts : List Expr} {kk : Nat} {tpos : Pos} (he : PE X e td) (hbase : attributeBase e "items" X.env (eval e X.env) = eval e X.env := by rfl) (hline : (apos.endLine == cpos.line) = true := by rfl) :
    PI X (.Tuple elts kk tpos) (.Call (.Attribute e "items" apos) [] [] cpos) (iItemsT td) := by
  refine ⟨fun pins s σ H R I h => ?_⟩
  refine wpAny_Call_method (T := "dict") (id := "dict.items") hbase rfl hline F.plainAttrs_dict F.slot_dict_items F.type_dict_items (thn (he.run pins s σ H _ I h) fun u s1 ⟨x, H1, I1, rx, d, o, kvs, ex, hd, q⟩ => ?_)
  subst ex
  obtain rfl : u = Value.ref d := rx
  obtain ⟨hs, hgd, hx, es, ep, hdt, hsz, ent⟩ := frzTv I1 hd
  have raw : DT.Raw s1.heap d es ep := ⟨o, hgd, hx, hdt⟩
  refine ⟨raw.typeIs, ?_, ?_⟩
  · intro b e0
    cases e0
    exact ⟨o, hgd, hx.2.1⟩
  have I2 : Inv X pins σ H1 { s1 with heap := s1.heap.push { cls := .type "dict_items", data := .fields #[.ref d] } } := I1.kept (t' := s1.toks) fun b ob q => Heap.get?_push_of_some _ q
  have fin : wpAny (model X.prog X.w) X.A (pyIter (.ref s1.heap.objs.size)) (PIE X pins σ (.Tuple elts kk tpos) R) X.xe { s1 with heap := s1.heap.push { cls := .type "dict_items", data := .fields #[.ref d] } } := by
    refine DT.iterI (d := d) (es := es) (ep := ep) ⟨_, Heap.get?_push_size _ rfl, rfl, rfl⟩ (raw.push _) (pi_one (tk := s1.toks) I2 _ (turn_itemsT _ hdt) ⟨.none, .none, ?_⟩ q)
    rw [← hsz]
    exact Heap.get?_push_size _ rfl
  show wpAny _ _ (callWith cpos (.builtin "dict.items") [.ref d] [] []) _ X.xe s1
  exact method_meetsIn F.slot_dict_items F.entry_dict_items rfl (PySem.evalArgs_none ⟨rfl, raw.typeIs, F.args_dict_items_1 _, _, DT.meetsItems (es := es) (ep := ep) hs, raw, fin⟩)
/-- the pairs of a dict -/
def itemsW : W → Option (List W)
  | .dT kvs => some (kvs.map fun kv => .tup [.tup (kv.1.map keyW), kv.2])
  | _ => none
def sItems (i : Nat) : AF := fun ρ L => match ρ[i]? with
  | some (.va w) => (match itemsW w with
    | some ks => some (ks, L)
    | none => none)
  | _ => none
theorem itok_itemsT {K : PySem.W.Frag} {mg : Str → Option Value} {F : Hp} {φ : List Addr} {d : Addr} {od : Obj} {kvs : List (List Key × W)} {vs : List (List Key × V)} (h : F d = some (.frz od (.dT vs))) (e : kvs.map Prod.fst = vs.map Prod.fst) (r : Rs K F φ (kvs.map Prod.snd) (vs.map Prod.snd)) : ItOk K mg F φ (ItiT d od vs) (kvs.map fun kv => .tup [.tup (kv.1.map keyW), kv.2]) := by
  intro Z F1 φ1 L1 H1 i s p hs
  have hd := hs.sub _ _ (s _ _ h)
  have hl := keys_len e
  refine ⟨fun x hx => ?_, fun hi => ⟨hd, by rw [← hl]; simpa using hi⟩⟩
  have hi : i < kvs.length := by have := (List.getElem?_eq_some_iff.mp hx).1; simpa using this
  refine ⟨⟨hd, by rw [← hl]; exact hi⟩, fun u H2 y => ?_⟩
  obtain ⟨T, k, v, q, hk, rfl, hT, hq, rfl⟩ := y
  obtain ⟨F2, s2, f2, hs2⟩ := hs.takeT hq
  obtain ⟨hs3, s3⟩ := hs2.fresh_frozen (o := .tup [.ref q, v]) hT
  obtain ⟨kv, hkv⟩ : ∃ kv, kvs[i]? = some kv := ⟨_, List.getElem?_eq_getElem hi⟩
  have e1 : kv.1 = k := by
    have z : (kvs.map Prod.fst)[i]? = some k := by rw [e, List.getElem?_map, hk]; rfl
    rw [List.getElem?_map, hkv] at z
    simpa using z
  have rv : R K F φ kv.2 v := by
    obtain ⟨v', g1, g2⟩ := r.get (i := i) (w := kv.2) (by rw [List.getElem?_map, hkv]; rfl)
    rw [List.getElem?_map, hk] at g1
    cases g1
    exact g2
  rw [List.getElem?_map, hkv] at hx
  simp only [Option.map_some, Option.some.injEq] at hx
  subst hx e1
  refine ⟨_, s2.trans s3, hs3, .tup (show TupAt K _ T [.ref q, v] from upd_same) (.cons (.tup (s3 _ _ f2) (Rs.keys _)) (.cons (rv.mono (s.trans (s2.trans s3)) p) .nil))⟩
theorem lcI_run {i : Nat} {g : GF} {tt : TF} {te : EF} {ix vs : List Nat} (hix : ∀ i ∈ ix, i ∈ vs) (gW : TG) (tW : TT) (eW : TE)
    (hg : ∀ {Zx Z F : Hp} {φ : List Addr} {L : Lg} {ρ ρ' : Ro} {σ : L2.St} {H : Hp} {w : W} {v : V}, Hs X.K X.mg Z F φ L H → Ss X.K Zx Z F φ ρ σ → R X.K F φ w v → g w ρ = some ρ' →
      ∀ Q : L2.St → Hp → Prop, (∀ σ', Ss X.K Zx Z F φ ρ' σ' → (∀ vs, (∀ i ∈ ix, i ∈ vs) → wipe σ' vs = wipe σ vs) → Q σ' H) → gW v σ H Q)
    (ht : ∀ {Zx Z F : Hp} {φ : List Addr} {L : Lg} {ρ : Ro} {σ : L2.St} {H : Hp} {w : Bool} {L' : Lg}, Hs X.K X.mg Z F φ L H → Ss X.K Zx Z F φ ρ σ → tt ρ L = some (w, L') →
      ∀ Q : Bool → Hp → Prop, (∀ (F' : Hp) (φ' : List Addr) (H' : Hp), Sub F F' → φ <+: φ' → Hs X.K X.mg Z F' φ' L' H' → Q w H') → tW σ H Q)
    (he : ∀ {Zx Z F : Hp} {φ : List Addr} {L : Lg} {ρ : Ro} {σ : L2.St} {H : Hp} {w : W} {L' : Lg}, Hs X.K X.mg Z F φ L H → Ss X.K Zx Z F φ ρ σ → te ρ L = some (w, L') →
      ∀ Q : VK, (∀ (F' : Hp) (φ' : List Addr) (H' : Hp) (v : V), Sub F F' → φ <+: φ' → Hs X.K X.mg Z F' φ' L' H' → R X.K F' φ' w v → Q v H') → eW σ H Q)
    {Zx Z F : Hp} {φ : List Addr} {L : Lg} {ρ : Ro} {σ : L2.St} {H : Hp} {m : M} {L' : Lg} (hs : Hs X.K X.mg Z F φ L H) (ss : Ss X.K Zx Z F φ ρ σ) (h : cLc (sItems i) g tt te vs ρ L = some (m, L'))
    (Q : VK) (q : ∀ (F' : Hp) (φ' : List Addr) (H' : Hp) (p : Addr) (o : HO), Sub F F' → φ <+: φ' → Z p = none → Hs X.K X.mg (upd Z p o) F' φ' L' H' → MOk X.K F' φ' m o → Q (.ref p) H') :
    tLc (iItemsT (tVar i)) gW tW eW vs σ H Q ∨ tLockE (tLc (iItemsT (tVar i)) gW tW eW vs) σ H Q := by
  unfold cLc at h
  split at h
  · cases h
  rename_i ks L1 e1
  split at h
  · cases h
  rename_i ws L2 e2
  split at h
  · rename_i hz
    simp only [Option.some.injEq, Prod.mk.injEq] at h
    obtain ⟨rfl, rfl⟩ := h
    unfold sItems at e1
    split at e1
    · rename_i w ew
      split at e1
      · rename_i ks' ek
        simp only [Option.some.injEq, Prod.mk.injEq] at e1
        obtain ⟨rfl, rfl⟩ := e1
        obtain ⟨v, hv1, hv2⟩ := ss.va i w ew
        have hdict : ∃ a u, v = .ref a ∧ isD u = true ∧ DAt F a u ∧ ∃ kvs vs, w = .dT kvs ∧ u = .dT vs ∧ kvs.map Prod.fst = vs.map Prod.fst ∧ Rs X.K F φ (kvs.map Prod.snd) (vs.map Prod.snd) := by
          cases hv2 <;> first | (cases ek; done) | skip
          rename_i h1 h2 h3
          exact ⟨_, _, rfl, rfl, h1, _, _, rfl, rfl, h2, h3⟩
        obtain ⟨a, u, rfl, hu, hda, hw⟩ := hdict
        have core : ∀ (od : Obj) (F1 H1 : Hp) (Q1 : VK), F1 a = some (.frz od u) → Hs X.K X.mg Z F1 φ L H1 → Ss X.K Zx Z F1 φ ρ σ → Lk F F1 →
            (∀ (F' : Hp) (φ' : List Addr) (H' : Hp) (p : Addr) (o : HO), Sub F1 F' → φ <+: φ' → Z p = none → Hs X.K X.mg (upd Z p o) F' φ' L2 H' → MOk X.K F' φ' (.lst ws) o → Q1 (.ref p) H') → tLc (iItemsT (tVar i)) gW tW eW vs σ H1 Q1 := by
          intro od F1 H1 Q1 hF1 hs1 ss1 lk q1
          have hH1 := hs1.sub _ _ hF1
          obtain ⟨kvs, vs', rfl, rfl, hk, hr⟩ := hw
          simp only [itemsW, Option.some.injEq] at ek
          subst ek
          exact ⟨.ref a, hv1, a, od, vs', rfl, hH1, fun D hD => lc_w hix gW tW eW hg ht he hs1 ss1 (itok_itemsT hF1 hk (hr.lk lk)) e2 hz Q1 q1 hD⟩
        rcases hda with hda | ⟨od, hda⟩
        · refine .inr ⟨a, u, hs.sub _ _ hda, ?_, fun od => ?_⟩
          · cases u <;> first | (cases hu; done) | exact True.intro
          · have l := Lk.lock (od := od) hda hu
            refine core od _ _ _ upd_same (hs.relock hda l) (ss.relock l) l fun F' φ' H' p o s p' z hs' m' => ?_
            have b1 : F' a = some (.frz od u) := s _ _ upd_same
            have b2 : Sub F (upd F' a u) := fun b o' eb => by
              by_cases qb : b = a
              · subst qb; rw [hda] at eb; cases eb; exact upd_same
              · rw [upd_ne qb]; exact s b o' (by rw [upd_ne qb]; exact eb)
            have l' := Lk.unlock b1 hu
            exact ⟨hs'.sub _ _ b1, q _ φ' _ p o b2 p' z (hs'.relock b1 l') (m'.lk l')⟩
        · exact .inl (core od F H Q hda hs ss (fun _ => .inl rfl) q)
      · cases e1
    · cases e1
  · cases h
theorem in_lcI {elt : Expr} {elts : List Expr} {kk : Nat} {tp apos cpos : Pos} {ifs : List Expr} {scope : Scope} {own : List (Str × Nat)} {g : GF} {tt : TF} {te : EF} {ix : List Nat} {x : Str} {px : Pos} (i : Nat) (hc : X.calm = true) (hN : X.N.Nodup) (ok : BlkOk X.N X.env.scope scope own) (hix : ∀ i ∈ ix, i ∈ own.map (·.2))
    (hg : ∀ (s : Shared) (H : Hp) (C : Addr) (cl : List (Str × Addr)) (fp : List Addr), IG (X.blk s H scope (compEnvC scope cl C X.env) fp) (.Tuple elts kk tp) ix g) (ht : ∀ (s : Shared) (H : Hp) (C : Addr) (cl : List (Str × Addr)) (fp : List Addr), ITs (X.blk s H scope (compEnvC scope cl C X.env) fp) ifs tt)
    (he : ∀ (s : Shared) (H : Hp) (C : Addr) (cl : List (Str × Addr)) (fp : List Addr), IE (X.blk s H scope (compEnvC scope cl C X.env) fp) elt te) (hNi : X.N[i]? = some x := by rfl) (hv : Vis X.env.scope x := by first | exact Or.inl rfl | exact Or.inr (Or.inl rfl) | exact Or.inr (Or.inr rfl)) (hd : (x == ("__debug__" : Str)) = false := by decide)
    (hcd : (x == ("__classdict__" : Str)) = false := by decide) (hbase : attributeBase (.Name x px) "items" X.env (eval (.Name x px) X.env) = eval (.Name x px) X.env := by rfl) (hline : (apos.endLine == cpos.line) = true := by rfl) (hs' : ∀ y, foldedSetIterable (.Call (.Attribute (.Name x px) "items" apos) [] [] cpos) X.env y = pure y := by intro _; rfl) :
    IN X (.ListComp elt [⟨.Tuple elts kk tp, .Call (.Attribute (.Name x px) "items" apos) [] [] cpos, ifs, 0⟩] scope pos) (cLc (sItems i) g tt te (own.map (·.2))) := by
  refine ⟨fun {Zx Z F φ L ρ σ H m L'} hs ss h Q q => ?_⟩
  let gW : TG := fun v σ H Q => ∀ (s : Shared) (H0 : Hp) (C : Addr) (cl : List (Str × Addr)) (fp : List Addr), WpG (X.blk s H0 scope (compEnvC scope cl C X.env) fp) (.Tuple elts kk tp) v σ H Q
  let tW : TT := fun σ H Q => ∀ (s : Shared) (H0 : Hp) (C : Addr) (cl : List (Str × Addr)) (fp : List Addr), WpTs (X.blk s H0 scope (compEnvC scope cl C X.env) fp) ifs σ H Q
  let eW : TE := fun σ H Q => ∀ (s : Shared) (H0 : Hp) (C : Addr) (cl : List (Str × Addr)) (fp : List Addr), Wp (X.blk s H0 scope (compEnvC scope cl C X.env) fp) elt σ H Q
  have base := pe_lc (pos := pos) hc hN (pi_itemsT (elts := elts) (kk := kk) (tpos := tp) (pe_var (pos := px) hNi hv hd hcd) hbase hline) ok (g := gW) (tt := tW) (te := eW) (fun s H C cl fp => ⟨fun pins s' σ H v u Q I r h => h s _ C cl fp pins s' u I r⟩) (fun s H C cl fp => ⟨fun pins s' σ H Q I h => h s _ C cl fp pins s' I⟩) (fun s H C cl fp => ⟨fun pins s' σ H Q I h => h s _ C cl fp pins s' I⟩) hs'
  rcases lcI_run (i := i) hix gW tW eW (fun h1 h2 h3 h4 Q q s H0 C cl fp => (hg s H0 C cl fp).run h1 h2 h3 h4 Q q)
    (fun h1 h2 h3 Q q s H0 C cl fp => let ⟨t, k1, k2⟩ := (ht s H0 C cl fp).run h1 h2 h3 Q q; PTs.wp k1 k2) (fun h1 h2 h3 Q q s H0 C cl fp => (he s H0 C cl fp).run h1 h2 h3 Q q) hs ss h Q q with r | r
  · exact PE.wp base r
  · exact PE.wp (pe_lock base) r
end
@[simp] theorem e_sItems (i : Nat) (ρ : Ro) (L : Lg) : sItems i ρ L = (match ρ[i]? with
  | some (.va w) => (match itemsW w with
    | some ks => some (ks, L)
    | none => none)
  | _ => none) := id rfl
end Lf

set_option maxHeartbeats 4000000
/-! Lf: min(list) of things that can be compared, the first of the least. -/
namespace Lf
open PySem PySem.Spec PyProof.Rows PySem.W L2
/-- the first of the least, by a key -/
def bestF {α : Type} (f : α → PyData) (t : α) (ts : List α) : α := ts.foldl (fun a y => if PySem.W.dataLt (f y) (f a) then y else a) t
theorem bestF_mem {α : Type} (f : α → PyData) : ∀ (ts : List α) (t : α), bestF f t ts ∈ t :: ts
  | [], t => List.mem_cons_self
  | y :: ts, t => by
    unfold bestF
    rw [List.foldl_cons]
    have := bestF_mem f ts (if PySem.W.dataLt (f y) (f t) then y else t)
    unfold bestF at this
    rcases List.mem_cons.mp this with h | h
    · rw [h]
      split
      · exact List.mem_cons_of_mem _ List.mem_cons_self
      · exact List.mem_cons_self
    · exact List.mem_cons_of_mem _ (List.mem_cons_of_mem _ h)
theorem bestF_map {α β : Type} (g : α → β) (f : β → PyData) : ∀ (ts : List α) (t : α), bestF f (g t) (ts.map g) = g (bestF (fun a => f (g a)) t ts)
  | [], t => rfl
  | y :: ts, t => by
    unfold bestF
    rw [List.map_cons, List.foldl_cons, List.foldl_cons]
    have := bestF_map g f ts (if PySem.W.dataLt (f (g y)) (f (g t)) then y else t)
    unfold bestF at this
    rw [← this]
    congr 1
    split <;> rfl
def rMnD (K : PySem.W.Frag) : List V → Hp → VK → Prop := fun vs H Q => ∃ (a : Addr) (t : V × PyData) (ts : List (V × PyData)), vs = [V.ref a] ∧ SqL K H a ((t :: ts).map Prod.fst) ∧ (∀ b ∈ t :: ts, Dp K H b.1 b.2) ∧ sortOk ((t :: ts).map Prod.snd) = true ∧
  Q (bestF Prod.snd t ts).1 H
theorem dpAll_of {K : PySem.W.Frag} {H : Hp} : ∀ {bs : List (V × PyData)}, (∀ b ∈ bs, Dp K H b.1 b.2) → DpAll K H (bs.map Prod.fst) (bs.map Prod.snd)
  | [], _ => .nil
  | b :: bs, h => .cons (h b List.mem_cons_self) (dpAll_of fun c hc => h c (List.mem_cons_of_mem _ hc))
theorem vals_at {vs : List V} {us : List Value} (h : Vals vs us) : ∀ (i : Nat) (u : Value) (v : V), us[i]? = some u → vs[i]? = some v → RelV v u := by
  induction h with
  | nil => intro i u v h1; cases h1
  | cons r _ ih =>
    intro i u v h1 h2
    cases i with
    | zero => cases h1; cases h2; exact r
    | succ i => exact ih i u v h1 h2
theorem depth_le : ∀ {ds : List PyData} {n : Nat}, (∀ d ∈ ds, d.depth ≤ n) → PyData.depthAll ds ≤ n
  | [], _, _ => Nat.zero_le _
  | d :: ds, n, h => by
    show max d.depth (PyData.depthAll ds) ≤ n
    have h1 := h d List.mem_cons_self
    have h2 := depth_le fun e he => h e (List.mem_cons_of_mem _ he)
    omega
theorem cr_mnD {X : Cx} (hc : X.calm = true) (hu : X.A.units + 100 < cLine) : CallR X (.builtin "min") (rMnD X.K) := by
  intro pins s σ H vs us Q I r h
  obtain ⟨a, t, ts, rfl, hl, hd, ok, q⟩ := h
  obtain ⟨al, so, dp⟩ := sortOk_parts ok
  obtain ⟨its, rv, pl, hz⟩ := I.list hl
  obtain ⟨as, hr⟩ := Dp.readsAll I _ _ its (dpAll_of hd) rv
  rw [Vals.ref1 r]
  have hh := I.ok.hd hc
  have hn : its.length = ts.length + 1 := by
    have := rv.length
    simpa using this.symm
  have alk : AlikeAll ((t :: ts).map Prod.snd) := ⟨fun x hx y hy => al x hx y hy, fun x hx => by
    rcases so with h | h
    · obtain ⟨y, r, e⟩ := h x hx
      rw [e]; intro z; cases z
    · exact (h x hx).1⟩
  have dep : PyData.depthAll ((t :: ts).map Prod.snd) ≤ 64 := depth_le dp
  refine call_min_walkH (iter_listW (A := X.A.in1) hh pl.isList fun s₂ e W st hfp hw hk => ?_)
  refine ⟨_, _, _, _, _, _, _, s.heap, _, rfl, W, st, hfp, by simp [hn], hw, hk, cmpIn_lt (A := X.A.in1) (vs := its.toArray) hr alk (by show X.A.units + 1 + _ < _; omega), fun v s' hP m => ?_⟩
  obtain ⟨h', tk, rfl, hk'⟩ := moved_old e rfl m
  have e1 : its.toArray.size - 1 = ts.length := by simp [hn]
  rw [e1] at hP
  have key : (fun i j => PySem.W.dataLt (((t :: ts).map Prod.snd).getD i .none) (((t :: ts).map Prod.snd).getD j .none)) = fun i j => PySem.W.dataLt (((t :: ts).getD i (.non, .none)).2) (((t :: ts).getD j (.non, .none)).2) := by
    funext i j
    have g : ∀ i, ((t :: ts).map Prod.snd).getD i PyData.none = ((t :: ts).getD i (V.non, PyData.none)).2 := fun i => by
      rw [List.getD_eq_getElem?_getD, List.getD_eq_getElem?_getD, List.getElem?_map]
      cases (t :: ts)[i]? <;> rfl
    rw [g, g]
  rw [key] at hP
  obtain ⟨k1, k2⟩ := argBest_fold (fun (y a : V × PyData) => PySem.W.dataLt y.2 a.2) (V.non, PyData.none) t ts ts.length (Nat.le_refl _)
  rw [List.take_length] at k2
  generalize argBest (fun i j => PySem.W.dataLt (((t :: ts).getD i (V.non, PyData.none)).2) (((t :: ts).getD j (V.non, PyData.none)).2)) ts.length = i at hP k1 k2
  have hi : (t :: ts)[i]? = some (bestF Prod.snd t ts) := by
    have lt : i < (t :: ts).length := by simp; omega
    rw [List.getD_eq_getElem?_getD, List.getElem?_eq_getElem lt] at k2
    rw [List.getElem?_eq_getElem lt]
    exact congrArg some k2
  have hv : ((t :: ts).map Prod.fst)[i]? = some (bestF Prod.snd t ts).1 := by rw [List.getElem?_map, hi]; rfl
  have hu2 : its[i]? = some v := by rw [Array.getElem?_toList.symm] at hP; simpa using hP
  exact ⟨_, H, I.kept hk', vals_at rv i v _ hu2 hv, q⟩
def minW : W → Option W
  | .lst (x :: xs) => (match toDs (x :: xs) with
    | some ds => if sortOk ds = true then some (bestF encW x xs) else none
    | none => none)
  | _ => none
section
variable {X : Cx} {e a b : Expr} {pos : Pos}
theorem ie_minD {f : OF} {p : Pos} (hcm : X.calm = true) (hu : X.A.units + 100 < cLine) (hg : Gl X "min") (hm : X.mg "min" = none) (ha : IO X a f) (he : starEach [a] X.env = (false, eval a X.env) :: starEach [] X.env := by rfl) (hpl : (backTo pos (starEach [] X.env)).any (·.1) = false := by rfl) : IE X (.Call (.Name "min" p) [a] [] pos) (cC minW f) := by
  refine ie_bltC (cr_mnD hcm hu) (fun {Z F φ L H w0 w v0} hs c h Q q => ?_) hg hm (by decide +kernel) ha (he := he)
  unfold minW at h
  split at h
  · rename_i x xs
    split at h
    · rename_i ds e4
      split at h
      · rename_i ok
        cases h
        obtain ⟨a, vs, rfl, g1, g2⟩ := c.seq hs.sub
        obtain ⟨k1, k2⟩ := toDs_enc e4
        obtain ⟨us, t1, t2, t3⟩ := g2.zipped
        cases us with
        | nil => cases t1
        | cons u us =>
          rw [List.map_cons] at t1
          obtain ⟨t1a, t1b⟩ := List.cons.inj t1
          subst t2 t1a t1b
          have em : ((u :: us).map fun t => (t.2, encW t.1)).map Prod.snd = (u :: us).map fun t => encW t.1 := by rw [List.map_map]; rfl
          refine ⟨a, (u.2, encW u.1), us.map fun t => (t.2, encW t.1), rfl, ?_, fun b hb => ?_, ?_, ?_⟩
          · rw [← List.map_cons (f := fun t : W × V => (t.2, encW t.1)), List.map_map]; exact g1
          · rw [← List.map_cons (f := fun t : W × V => (t.2, encW t.1))] at hb
            obtain ⟨t, ht, rfl⟩ := List.mem_map.mp hb
            refine (t3 t ht).dp hs.sub (k2 t.1 ?_)
            rw [← List.map_cons (f := Prod.fst)]
            exact List.mem_map.mpr ⟨t, ht, rfl⟩
          · rw [← List.map_cons (f := fun t : W × V => (t.2, encW t.1)), em]
            rw [k1] at ok
            rw [← List.map_cons (f := Prod.fst), List.map_map] at ok
            exact ok
          · rw [bestF_map (fun t : W × V => (t.2, encW t.1)) Prod.snd us u]
            refine flat hs ?_ q
            rw [bestF_map Prod.fst encW us u]
            exact t3 _ (bestF_mem _ us u)
      · cases h
    · cases h
  · cases h
end
end Lf

set_option maxHeartbeats 4000000
/-! Lf: dicts whose keys are tuples of pairs of ints, numbered things. -/
namespace Lf
open PySem PySem.Spec PyProof.Rows L2
/-! ### keys -/
theorem hash_pair (w w' : World) (c : Int × Int) : (encC c).hash w = (encC c).hash w' := by
  unfold encC
  simp only [NestedKey.hash, NestedKey.hashes]
theorem hashes_any (w w' : World) : ∀ cs : List (Int × Int), NestedKey.hashes w (cs.map encC) = NestedKey.hashes w' (cs.map encC)
  | [] => rfl
  | c :: cs => by
    rw [List.map_cons]
    simp only [NestedKey.hashes]
    rw [hash_pair w w' c, hashes_any w w' cs]
theorem hash_any (w w' : World) (cs : List (Int × Int)) : (encK cs).hash w = (encK cs).hash w' := by
  unfold encK
  simp only [NestedKey.hash]
  rw [hashes_any w w' cs]
theorem encC_inj {a b : Int × Int} (h : encC a = encC b) : a = b := by
  unfold encC at h
  simp only [NestedKey.tup.injEq, List.cons.injEq, NestedKey.num.injEq, and_true] at h
  exact Prod.ext h.1 h.2
theorem encK_inj {a b : List (Int × Int)} (h : encK a = encK b) : a = b := by
  unfold encK at h
  simp only [NestedKey.tup.injEq] at h
  exact (List.map_inj_right (fun _ _ => encC_inj)).mp h
theorem encK_depth (cs : List (Int × Int)) : (encK cs).depth ≤ 8 := by
  have : ∀ cs : List (Int × Int), NestedKey.depthAll (cs.map encC) ≤ 1 := fun cs => by
    induction cs with
    | nil => exact Nat.zero_le _
    | cons c cs ih =>
      rw [List.map_cons]
      simp only [NestedKey.depthAll]
      have : (encC c).depth ≤ 1 := by unfold encC; simp [NestedKey.depth, NestedKey.depthAll]
      omega
  unfold encK
  simp only [NestedKey.depth]
  have := this cs
  omega
theorem ents_any {P P' : Program} {w w' : World} {α : Type} (f : α → List (Int × Int)) : ∀ {xs : List (NestedKey × Addr × Value)} {ks : List α}, xs.map (·.1) = ks.map (fun p => encK (f p)) → xs.map (entryOfKey (nestedKind P w)) = xs.map (entryOfKey (nestedKind P' w'))
  | [], _, _ => rfl
  | q :: xs, [], h => by cases h
  | q :: xs, k :: ks, h => by
    simp only [List.map_cons, List.cons.injEq] at h
    rw [List.map_cons, List.map_cons, ents_any f h.2]
    congr 1
    show DictEntry.mk (q.1.hash w) (.ref q.2.1) q.2.2 = DictEntry.mk (q.1.hash w') (.ref q.2.1) q.2.2
    rw [h.1, hash_any w w']
section
variable {K : PySem.W.Frag} {F H : Hp} {φ : List Addr} {P : Program} {w : World} {h : Heap}
theorem tup_at {b : Addr} {vs : List V} (ok : HOk P w H h) (e : H b = some (.tup vs)) : ∃ its o n, Vals vs its ∧ h.get? b = some o ∧ o.cls = .type "tuple" ∧ o.data = .seq its.toArray n := by
  obtain ⟨_, its, r, o, h1, h2, n, h3⟩ := (show ObjOk P w H h b (.tup vs) from ok b _ e)
  exact ⟨its, o, n, r, h1, h2, h3⟩
theorem pair_is (s : Sub F H) (ok : HOk P w H h) {c : Int × Int} {v : V} {u : Value} (r : R K F φ (pairW c) v) (rv : RelV v u) : NestedIs h (encC c) u := by
  unfold pairW at r
  cases r with
  | tup e q =>
    cases q with
    | cons r1 q =>
      cases q with
      | cons r2 q =>
        cases q
        cases r1; cases r2
        obtain ⟨its, o, n, rr, h1, h2, h3⟩ := tup_at ok (s _ _ e)
        cases (show u = Value.ref _ from rv)
        cases rr with
        | cons ra rr =>
          cases rr with
          | cons rb rr =>
            cases rr
            obtain ⟨t1, rfl⟩ := ra
            obtain ⟨t2, rfl⟩ := rb
            exact .tup h1 h2 h3 (.cons (.int _ _) (.cons (.int _ _) .nil))
theorem pairs_are (s : Sub F H) (ok : HOk P w H h) : ∀ {cs : List (Int × Int)} {vs : List V} {us : List Value}, Rs K F φ (cs.map pairW) vs → Vals vs us → NestedAll h (cs.map encC) us
  | [], _, _, q, rv => by cases q; cases rv; exact .nil
  | c :: cs, _, _, q, rv => by
    cases q with
    | cons r q =>
      cases rv with
      | cons r1 rv => exact .cons (pair_is s ok r r1) (pairs_are s ok q rv)
theorem key_is (s : Sub F H) (ok : HOk P w H h) {cs : List (Int × Int)} {b : Addr} (r : R K F φ (keyNW cs) (.ref b)) : (nestedKind P w).is h (encK cs) b := by
  unfold keyNW at r
  refine ⟨?_, encK_depth cs⟩
  cases r with
  | tup e q =>
    obtain ⟨its, o, n, rr, h1, h2, h3⟩ := tup_at ok (s _ _ e)
    exact .tup h1 h2 h3 (by simpa using pairs_are s ok q rr)
theorem keys_are (s : Sub F H) (ok : HOk P w H h) {α : Type} (f : α → List (Int × Int)) : ∀ {ks : List α} {xs : List (NestedKey × Addr × Value)}, xs.map (·.1) = ks.map (fun p => encK (f p)) → Rs K F φ (ks.map fun p => keyNW (f p)) (xs.map fun q => V.ref q.2.1) → ∀ x ∈ xs, (nestedKind P w).is h x.1 x.2.1
  | _, [], _, _, x, hx => by cases hx
  | [], q :: xs, e, _, _, _ => by cases e
  | k :: ks, q :: xs, e, r, x, hx => by
    simp only [List.map_cons, List.cons.injEq] at e
    rw [List.map_cons, List.map_cons] at r
    cases r with
    | cons r1 r =>
      rcases List.mem_cons.mp hx with rfl | hx
      · rw [e.1]; exact key_is s ok r1
      · exact keys_are s ok f e.2 r x hx
end
/-- what the machine sees of such a dict and a key -/
def NdOk (X : Cx) (σ : L2.St) (H : Hp) (a b : Addr) (xs : List (NestedKey × Addr × Value)) (k : NestedKey) : Prop :=
  ∀ pins s, Inv X pins σ H s → (nestedKind X.prog X.w).is s.heap k b ∧ s.heap.DictOfH (nestedKind X.prog X.w) a xs ∧ (a == sysModules) = false ∧ xs.length ≤ sizeLine
theorem dno_ok {P : Program} {w : World} {H : Hp} {h : Heap} {a : Addr} {xs : List (NestedKey × Addr × Value)} (hd : (a == sysModules) = false) (hz : xs.length ≤ sizeLine) (x : h.DictOfH (nestedKind P w) a xs) : ObjOk P w H h a (DNo P w a xs) := by
  obtain ⟨o, es, ep, h1, h2, h3, h4, _, h5⟩ := x
  refine ⟨⟨hz, hd, o, es, ep, h1, h2, h3, h4, h5⟩, ⟨o, h1⟩, fun g1 g2 ⟨z, y, o, es, ep, e1, e2, e3, e4, e5⟩ hk => ⟨z, y, o, es, ep, hk o e1, e2, e3, e4, e5⟩⟩
section
variable {X : Cx} {o i e value : Expr} {pos pos' : Pos} {td ty tv : TE}
theorem pc_ndin (hu : X.A.units + 9 < cLine) (hi : PE X i ty) (ho : PE X o td) : PC X .In i o (fun σ H Q => ty σ H fun y H1 => td σ H1 fun x H2 => ∃ a b xs k, x = .ref a ∧ y = .ref b ∧ NdOk X σ H2 a b xs k ∧ Q (.bl (atKey xs k).isSome) H2) := by
  refine ⟨fun pins s σ H Q I h => ?_⟩
  refine thn (hi.run pins s σ H _ I h) fun iv s1 ⟨y, H1, I1, ry, q1⟩ => thn (ho.run pins s1 σ H1 _ I1 q1) fun u s2 ⟨x, H2, I2, rx, a, b, xs, k, ex, ey, ok, q2⟩ => ?_
  subst ex ey
  obtain rfl : u = Value.ref a := rx
  obtain rfl : iv = Value.ref b := ry
  obtain ⟨n1, n2, n3, n4⟩ := ok pins s2 I2
  refine wpAny_in_heap (A := X.A) (by show X.A.units + 1 + 8 < _; omega) n1 n3 n2 ⟨.bl _, H2, I2.tok _, rfl, q2⟩
theorem pe_ndget (hu : X.A.units + 9 < cLine) (ho : PE X o td) (hi : PE X i ty) (hs : NoSl i) : PE X (.Subscript o i pos) (fun σ H Q => td σ H fun x H1 => ty σ H1 fun y H2 => ∃ a b xs k p v, x = .ref a ∧ y = .ref b ∧ NdOk X σ H2 a b xs k ∧ atKey xs k = some p ∧ RelV v p.2 ∧ Q v H2) := by
  refine ⟨fun pins s σ H Q I h => ?_⟩
  refine subD_of PySem.F.slot_dict_getitem.lookup hs (thn (ho.run pins s σ H _ I h) fun u s1 ⟨x, H1, I1, rx, q1⟩ => thn (hi.run pins s1 σ H1 _ I1 q1) fun iv s2 ⟨y, H2, I2, ry, a, b, xs, k, p, v, ex, ey, ok, hp, rv, q2⟩ => ?_)
  subst ex ey
  obtain rfl : u = Value.ref a := rx
  obtain rfl : iv = Value.ref b := ry
  obtain ⟨n1, n2, n3, n4⟩ := ok pins s2 I2
  exact ⟨n2.typeIs, wpAny_getItem_heap (A := X.A) (by show X.A.units + 1 + 8 < _; omega) n1 n2 hp ⟨v, H2, I2.tok _, rv, q2⟩⟩
theorem ps_ndput (hu : X.A.units + 9 < cLine) (ho : PE X o td) (hi : PE X i ty) (hv : PE X value tv) (hs : swapsWith value (some (.Subscript o i pos')) pos.line X.env = pure false) :
    PS X (.Assign [.Subscript o i pos'] value pos) (fun D σ H => tv σ H fun v H1 => td σ H1 fun x H2 => ty σ H2 fun y H3 => ∃ a b xs k, x = .ref a ∧ y = .ref b ∧ NdOk X σ H3 a b xs k ∧ atKey xs k = none ∧ xs.length < sizeLine ∧ Mut (H3 a) ∧
      ∀ u, RelV v u → D.nx σ (upd H3 a (DNo X.prog X.w a (xs ++ [(k, b, u)])))) := by
  refine ⟨fun pins s σ H D I h => ?_⟩
  refine wpAny_Assign_Subscript (thn (hv.run pins s σ H _ I h) fun r s1 ⟨v, H1, I1, rv, q1⟩ => thn (ho.run pins s1 σ H1 _ I1 q1) fun u s2 ⟨x, H2, I2, rx, q2⟩ => thn (hi.run pins s2 σ H2 _ I2 q2) fun iv s3 ⟨y, H3, I3, ry, a, b, xs, k, ex, ey, ok, hn, hz, mu, q3⟩ => ?_) hs
  subst ex ey
  obtain rfl : u = Value.ref a := rx
  obtain rfl : iv = Value.ref b := ry
  obtain ⟨n1, n2, n3, n4⟩ := ok pins s3 I3
  refine wpAny_setItem_heap (A := X.A) (hsz := n4) (by show X.A.units + 1 + 8 < _; omega) n1 n2 fun h' dd hsb => ?_
  rw [storedH_new hn] at dd
  have he : ∃ q, h'.get? a = some q := let ⟨q, _, _, hq, _⟩ := dd; ⟨q, hq⟩
  exact ⟨σ, _, d_write I3 mu hsb he (dno_ok n3 (by simp; omega) dd), q3 r rv⟩
theorem subdict_ends {prog : Program} {w : World} {A : Around} {E : Value → Shared → Prop} {s : Shared} {K : Type} [DecidableEq K] {knd : HeapKind prog w K} {env : Env} {keys : List (Option Expr)} {values : List Expr} {pos : Pos} {Q : Value → Shared → Prop} (hu : knd.room A)
    (hall : keys.all (·.isSome) = true) (hl : keys.length = values.length) (h0 : keys ≠ []) (h15 : keys.length ≤ 15)
    (h : wpAny (model prog w) A (evalPairs (pairTrees keys values env pos)) (fun vs s₁ => ∃ ps, CarriesH knd s₁.heap vs ps ∧ s₁.heap.DictOfH knd s.heap.objs.size [] ∧
      ∀ h' tk, h'.DictOfH knd s.heap.objs.size (storedAllH [] ps) → Heap.SameBut s.heap.objs.size s₁.heap h' → Q (.ref s.heap.objs.size) { s₁ with heap := h', toks := tk }) E
      { s with heap := s.heap.push { cls := .type "dict", data := .dict #[] } }) :
    wpAny (model prog w) A (eval (.Dict keys values pos) env) Q E s := by
  have hn := pairTrees_length keys values env pos hall hl
  have hne : pairTrees keys values env pos ≠ [] := fun z => by
    rw [z] at hn
    exact h0 (List.length_eq_zero_iff.mp hn.symm)
  rw [arm_eval_Dict, zip_pairTrees keys values env pos hall hl, dictDisplay_pairs _ hne (by omega)]
  exact wpAny_bind (wpAny_standAt (wpAny_bind (wpAny_subDictH (knd := knd) (Q := fun d s' => wpAny (model prog w) A (pure (Value.ref d)) Q E s') hu (by omega)
    (wpAny_mono h (fun vs s₁ h₁ => by obtain ⟨ps, hc, hm, hq⟩ := h₁; exact ⟨ps, hc, hm, fun h' tk a b => wpAny_pure (hq h' tk a b)⟩) fun _ _ e => e))))
theorem pe_nddisp (hu : X.A.units + 9 < cLine) (hk : PE X i ty) (hv : PE X e tv) : PE X (.Dict [some i] [e] pos) (fun σ H Q => ∀ p, H p = none → (p == sysModules) = false → ty σ (upd H p (DNo X.prog X.w p [])) fun y H1 => tv σ H1 fun v H2 => ∃ b k, y = .ref b ∧ H2 p = some (DNo X.prog X.w p []) ∧
    (∀ pins s, Inv X pins σ H2 s → (nestedKind X.prog X.w).is s.heap k b) ∧ ∀ u, RelV v u → Q (.ref p) (upd H2 p (DNo X.prog X.w p [(k, b, u)]))) := by
  refine ⟨fun pins s σ H Q I q => ?_⟩
  have hn := I.hok.fresh (Nat.le_refl s.heap.objs.size)
  have hm : (s.heap.objs.size == sysModules) = false := beq_eq_false_iff_ne.mpr (Ne.symm (Nat.ne_of_lt I.big))
  have d0 : (s.heap.push { cls := .type "dict", data := .dict #[] }).DictOfH (nestedKind X.prog X.w) s.heap.objs.size [] := Heap.DictOfH.new s.heap
  have I1 := I.laid (a := s.heap.objs.size) (o := DNo X.prog X.w s.heap.objs.size []) (h' := s.heap.push { cls := .type "dict", data := .dict #[] }) (t' := s.toks) (fun _ _ q => Heap.get?_push_of_some _ q) (Nat.le_refl _) (dno_ok hm (Nat.zero_le _) d0)
  refine subdict_ends (knd := nestedKind X.prog X.w) (by show X.A.units + 8 < _; omega) rfl rfl (by simp) (by simp) ?_
  refine pairTrees_cons_walk (thn (hk.run pins _ σ _ _ I1 (q _ hn hm)) fun kv s2 ⟨y, H1, I2, ry, q1⟩ => thn (hv.run pins s2 σ H1 _ I2 q1) fun vv s3 ⟨v, H2, I3, rv, b, k, ey, e, is, q2⟩ => ?_)
  subst ey
  obtain rfl : kv = Value.ref b := ry
  refine pairTrees_nil_walk ?_
  obtain ⟨⟨_, _, o, es, ep, h1, h2, h3, h4, h5⟩, _, _⟩ := (show ObjOk X.prog X.w H2 s3.heap s.heap.objs.size (DNo X.prog X.w s.heap.objs.size []) from I3.hok _ _ e)
  refine ⟨[(k, b, vv)], ⟨rfl, rfl, is pins s3 I3, trivial⟩, ⟨o, es, ep, h1, h2, h3, h4, (fun _ z => nomatch z), h5⟩, fun h' tk dd hsb => ⟨.ref s.heap.objs.size, _, ?_, rfl, q2 vv rv⟩⟩
  have he : ∃ q, h'.get? s.heap.objs.size = some q := let ⟨q, _, _, hq, _⟩ := dd; ⟨q, hq⟩
  exact d_write I3 (by rw [e]; exact True.intro) hsb he (dno_ok hm (by simp [sizeLine_eq]) dd)
end

/-! ### the judgements -/
section
variable {K : PySem.W.Frag} {mg : Str → Option Value} {Zx Z F : Hp} {φ : List Addr} {ρ : Ro} {σ : L2.St}
theorem Ss.aside {p : Addr} {o : HO} (h : Ss K Zx Z F φ ρ σ) (hz : Z p = none) : Ss K Zx (upd Z p o) F φ ρ σ :=
  ⟨h.len, h.va, fun i m e => let ⟨a, o', h1, h2, h3, h4⟩ := h.ow i m e; ⟨a, o', h1, by rw [upd_ne (ne_of_none h2 hz)]; exact h2, h3, h4⟩, h.sep, fun a u e => by
    have := h.out a u e
    rw [upd_ne (ne_of_none this hz)]; exact this⟩
def asCells : W → Option (List (Int × Int))
  | .tup ws => cellsW ws
  | _ => none
theorem asCells_eq {w : W} {cs : List (Int × Int)} (h : asCells w = some cs) : w = keyNW cs := by
  cases w <;> first | cases h | skip
  have := cellsW_eq h
  subst this
  rfl
theorem key_ref {cs : List (Int × Int)} {v : V} (r : R K F φ (keyNW cs) v) : ∃ b, v = .ref b := by
  unfold keyNW at r
  cases r with
  | tup _ _ => exact ⟨_, rfl⟩
def findN (kvs : List (List (Int × Int) × W)) (cs : List (Int × Int)) : Option W := (kvs.find? fun p => decide (p.1 = cs)).map (·.2)
theorem findN_rel : ∀ {kvs : List (List (Int × Int) × W)} {xs : List (NestedKey × Addr × Value)} {vs : List V}, xs.map (·.1) = kvs.map (fun p => encK p.1) → Rs K F φ (kvs.map Prod.snd) vs → Vals vs (xs.map (·.2.2)) → ∀ cs,
    (findN kvs cs = none ∧ atKey xs (encK cs) = none) ∨ ∃ w v q, findN kvs cs = some w ∧ atKey xs (encK cs) = some q ∧ R K F φ w v ∧ RelV v q.2
  | [], [], _, _, _, _, _ => .inl ⟨rfl, rfl⟩
  | [], _ :: _, _, e, _, _, _ => by cases e
  | _ :: _, [], _, e, _, _, _ => by cases e
  | p :: kvs, q :: xs, vs, e, r, rv, cs => by
    simp only [List.map_cons, List.cons.injEq] at e
    rw [List.map_cons] at r rv
    cases r with
    | cons r1 r =>
      cases rv with
      | cons v1 rv =>
        by_cases h : p.1 = cs
        · refine .inr ⟨p.2, _, q.2, ?_, ?_, r1, v1⟩
          · unfold findN; rw [List.find?_cons_of_pos (by simp [h])]; rfl
          · unfold atKey; rw [List.find?_cons_of_pos (by simp [e.1, h])]; rfl
        · have h' : q.1 ≠ encK cs := fun z => h (encK_inj (e.1.symm.trans z))
          have f1 : findN (p :: kvs) cs = findN kvs cs := by unfold findN; rw [List.find?_cons_of_neg (by simp [h])]
          have f2 : atKey (q :: xs) (encK cs) = atKey xs (encK cs) := by unfold atKey; rw [List.find?_cons_of_neg (by simp [h'])]
          rw [f1, f2]
          exact findN_rel e.2 r rv cs
end
/-- k in d, d such a dict at the slot i -/
def cNdIn (i : Nat) (fk : EF) : TF := fun ρ L => match fk ρ L with
  | none => none
  | some (k, L1) => match asCells k with
    | none => none
    | some cs => match ρ[i]? with
      | some (.va (.ob j)) => (match L1[j]? with
        | some (.nd kvs) => some ((findN kvs cs).isSome, L1)
        | _ => none)
      | _ => none
def cNdGet (i : Nat) (fk : EF) : EF := fun ρ L => match fk ρ L with
  | none => none
  | some (k, L1) => match asCells k with
    | none => none
    | some cs => match ρ[i]? with
      | some (.va (.ob j)) => (match L1[j]? with
        | some (.nd kvs) => (match findN kvs cs with
          | some w => some (w, L1)
          | none => none)
        | _ => none)
      | _ => none
def cNdPut (i : Nat) (fk fv : EF) : SF := fun ρ L => match fv ρ L with
  | none => none
  | some (w, L1) => match fk ρ L1 with
    | none => none
    | some (k, L2) => match asCells k with
      | none => none
      | some cs => match ρ[i]? with
        | some (.va (.ob j)) => (match L2[j]? with
          | some (.nd kvs) => if findN kvs cs = none ∧ kvs.length < 1000000 then some (.nx ρ (L2.set j (.nd (kvs ++ [(cs, w)])))) else none
          | _ => none)
        | _ => none
def cNd1 (fk fv : EF) : EF := fun ρ L => match fk ρ L with
  | none => none
  | some (k, L1) => match fv ρ L1 with
    | none => none
    | some (w, L2) => match asCells k with
      | some cs => some (.ob L2.length, L2 ++ [.nd [(cs, w)]])
      | none => none
section
variable {X : Cx} {a b c : Expr} {pos : Pos}
/-- what is known of such a dict -/
theorem nd_at {Z F H : Hp} {φ : List Addr} {L : Lg} {σ : L2.St} {d bk : Addr} {j : Nat} {kvs : List (List (Int × Int) × W)} {cs : List (Int × Int)} (hs : Hs X.K X.mg Z F φ L H) (hL : L[j]? = some (.nd kvs)) (hj : φ[j]? = some d) (rk : R X.K F φ (keyNW cs) (.ref bk)) :
    F d = none ∧ ∃ (xs : List (NestedKey × Addr × Value)) (vs : List V), Mut (H d) ∧ xs.map (·.1) = kvs.map (fun p => encK p.1) ∧ Rs X.K F φ (kvs.map fun p => keyNW p.1) (xs.map fun q => V.ref q.2.1) ∧ Rs X.K F φ (kvs.map Prod.snd) vs ∧ Vals vs (xs.map (·.2.2)) ∧
      NdOk X σ H d bk xs (encK cs) := by
  obtain ⟨n, P, w, xs, vs, h1, h2, h3, h4, h5⟩ := hs.objs j _ _ hL hj
  refine ⟨n, xs, vs, by rw [h1]; exact trivial, h2, h3, h4, h5, fun pins s I => ?_⟩
  obtain ⟨⟨z, hd, o, es, ep, e1, e2, e3, e4, e5⟩, _, _⟩ := (show ObjOk X.prog X.w H s.heap d (DNo P w d xs) from I.hok _ _ h1)
  exact ⟨key_is hs.sub I.hok rk, ⟨o, es, ep, e1, e2, e3, by rw [e4]; exact ents_any _ h2, keys_are hs.sub I.hok _ h2 h3, e5⟩, hd, z⟩
theorem Rs.snoc {K : PySem.W.Frag} {F : Hp} {φ : List Addr} {w : W} {v : V} : ∀ {ws : List W} {vs : List V}, Rs K F φ ws vs → R K F φ w v → Rs K F φ (ws ++ [w]) (vs ++ [v])
  | _, _, .nil, r => .cons r .nil
  | _, _, .cons q t, r => .cons q (Rs.snoc t r)
theorem vals_snoc {v : V} {u : Value} : ∀ {vs : List V} {us : List Value}, Vals vs us → RelV v u → Vals (vs ++ [v]) (us ++ [u])
  | _, _, .nil, r => .cons r .nil
  | _, _, .cons q t, r => .cons q (vals_snoc t r)
theorem it_ndin (i : Nat) {x : Str} {px : Pos} {fk : EF} (hu : X.A.units + 9 < cLine) (hk : IE X a fk) (hN : X.N[i]? = some x := by rfl) (hv : Vis X.env.scope x := by first | exact Or.inl rfl | exact Or.inr (Or.inl rfl) | exact Or.inr (Or.inr rfl)) (hd : (x == ("__debug__" : Str)) = false := by decide)
    (hcd : (x == ("__classdict__" : Str)) = false := by decide) (h1 : behindInMarks .In (.Name x px) = false := by rfl) : IT X (.Compare a [.In] [.Name x px] pos) (cNdIn i fk) := by
  refine ⟨fun {Zx Z F φ L ρ σ H w L'} hs ss h Q q => PT.wp (pt_cmp (pc_ndin hu wpE (pe_var hN hv hd hcd)) h1) ?_⟩
  unfold cNdIn at h
  split at h
  · cases h
  rename_i kw L1 e1
  split at h
  · cases h
  rename_i cs e2
  split at h
  · rename_i j e3
    split at h
    · rename_i kvs e4
      simp only [Option.some.injEq, Prod.mk.injEq] at h
      obtain ⟨rfl, rfl⟩ := h
      obtain ⟨v, h1, h2⟩ := ss.va i _ e3
      cases h2 with
      | ob hj =>
        refine hk.run hs ss e1 _ fun F1 φ1 H1 vk s1 p1 hs1 r1 => ?_
        have ew := asCells_eq e2
        subst ew
        obtain ⟨bk, rfl⟩ := key_ref r1
        obtain ⟨nF, xs, vs, mu, g1, g2, g3, g4, ok⟩ := nd_at (σ := σ) hs1 e4 (pre_get p1 hj) r1
        refine ⟨_, h1, _, bk, xs, encK cs, rfl, rfl, ok, _, rfl, ?_⟩
        rcases findN_rel g1 g3 g4 cs with ⟨f1, f2⟩ | ⟨w1, v1, q1, f1, f2, _, _⟩
        · rw [f2]; rw [f1] at q
          exact q F1 φ1 H1 s1 p1 hs1
        · rw [f2]; rw [f1] at q
          exact q F1 φ1 H1 s1 p1 hs1
    · cases h
  · cases h
theorem ie_ndget (i : Nat) {x : Str} {px : Pos} {fk : EF} (hu : X.A.units + 9 < cLine) (hk : IE X b fk) (hN : X.N[i]? = some x := by rfl) (hv : Vis X.env.scope x := by first | exact Or.inl rfl | exact Or.inr (Or.inl rfl) | exact Or.inr (Or.inr rfl)) (hd : (x == ("__debug__" : Str)) = false := by decide)
    (hcd : (x == ("__classdict__" : Str)) = false := by decide) (hs' : NoSl b := by intro _ _; rfl) : IE X (.Subscript (.Name x px) b pos) (cNdGet i fk) := by
  refine ⟨fun {Zx Z F φ L ρ σ H w L'} hs ss h Q q => PE.wp (pe_ndget hu (pe_var hN hv hd hcd) wpE hs') ?_⟩
  unfold cNdGet at h
  split at h
  · cases h
  rename_i kw L1 e1
  split at h
  · cases h
  rename_i cs e2
  split at h
  · rename_i j e3
    split at h
    · rename_i kvs e4
      split at h
      · rename_i w0 e5
        simp only [Option.some.injEq, Prod.mk.injEq] at h
        obtain ⟨rfl, rfl⟩ := h
        obtain ⟨v, h1, h2⟩ := ss.va i _ e3
        cases h2 with
        | ob hj =>
          refine ⟨_, h1, ?_⟩
          refine hk.run hs ss e1 _ fun F1 φ1 H1 vk s1 p1 hs1 r1 => ?_
          have ew := asCells_eq e2
          subst ew
          obtain ⟨bk, rfl⟩ := key_ref r1
          obtain ⟨nF, xs, vs, mu, g1, g2, g3, g4, ok⟩ := nd_at (σ := σ) hs1 e4 (pre_get p1 hj) r1
          rcases findN_rel g1 g3 g4 cs with ⟨f1, f2⟩ | ⟨w1, v1, q1, f1, f2, f3, f4⟩
          · rw [f1] at e5; cases e5
          · rw [f1] at e5; cases e5
            exact ⟨_, bk, xs, encK cs, q1, v1, rfl, rfl, ok, f2, f4, q F1 φ1 H1 v1 s1 p1 hs1 f3⟩
      · cases h
    · cases h
  · cases h
theorem is_ndput (i : Nat) {x : Str} {px pos' : Pos} {fk fv : EF} (hu : X.A.units + 9 < cLine) (hk : IE X b fk) (hv' : IE X c fv) (hN : X.N[i]? = some x := by rfl) (hv : Vis X.env.scope x := by first | exact Or.inl rfl | exact Or.inr (Or.inl rfl) | exact Or.inr (Or.inr rfl)) (hd : (x == ("__debug__" : Str)) = false := by decide)
    (hcd : (x == ("__classdict__" : Str)) = false := by decide) (hs' : swapsWith c (some (.Subscript (.Name x px) b pos')) pos.line X.env = pure false := by rfl) :
    IS X (.Assign [.Subscript (.Name x px) b pos'] c pos) (cNdPut i fk fv) := by
  refine ⟨fun {Zx Z F φ L ρ σ H o} hs ss h D q => PS.wp (ps_ndput hu (pe_var hN hv hd hcd) wpE wpE hs') ?_⟩
  unfold cNdPut at h
  split at h
  · cases h
  rename_i w L1 e0
  split at h
  · cases h
  rename_i kw L2 e1
  split at h
  · cases h
  rename_i cs e2
  split at h
  · rename_i j e3
    split at h
    · rename_i kvs e4
      split at h
      · rename_i e5
        simp only [Option.some.injEq] at h
        subst h
        obtain ⟨v, h1, h2⟩ := ss.va i _ e3
        cases h2 with
        | ob hj =>
          refine hv'.run hs ss e0 _ fun F1 φ1 H1 vw s1 p1 hs1 r1 => ?_
          refine ⟨_, h1, ?_⟩
          refine hk.run hs1 (ss.mono s1 p1) e1 _ fun F2 φ2 H2 vk s2 p2 hs2 r2 => ?_
          have ew := asCells_eq e2
          subst ew
          obtain ⟨bk, rfl⟩ := key_ref r2
          have hj2 := pre_get p2 (pre_get p1 hj)
          obtain ⟨nF, xs, vs, mu, g1, g2, g3, g4, ok⟩ := nd_at (σ := σ) hs2 e4 hj2 r2
          have hlen : xs.length = kvs.length := by simpa using congrArg List.length g1
          rcases findN_rel g1 g3 g4 cs with ⟨f1, f2⟩ | ⟨w1, v1, q1, f1, f2, f3, f4⟩
          · refine ⟨_, bk, xs, encK cs, rfl, rfl, ok, f2, by rw [sizeLine_eq]; omega, mu, fun u ru => ?_⟩
            refine q Z F2 φ2 σ _ (s1.trans s2) (List.IsPrefix.trans p1 p2) (hs2.setOb (List.getElem?_eq_some_iff.mp e4).1 hj2 nF (by intro _ z; cases z) ?_) (ss.mono (s1.trans s2) (List.IsPrefix.trans p1 p2))
            refine ⟨nF, X.prog, X.w, _, vs ++ [vw], upd_same, ?_, ?_, ?_, ?_⟩
            · rw [List.map_append, List.map_append, g1]; rfl
            · rw [List.map_append, List.map_append]; exact Rs.snoc g2 r2
            · rw [List.map_append]; exact Rs.snoc g3 (r1.mono s2 p2)
            · rw [List.map_append]; exact vals_snoc g4 ru
          · rw [e5.1] at f1; cases f1
      · cases h
    · cases h
  · cases h
theorem ie_nd1 {fk fv : EF} (hu : X.A.units + 9 < cLine) (hk : IE X a fk) (hv : IE X b fv) : IE X (.Dict [some a] [b] pos) (cNd1 fk fv) := by
  refine ⟨fun {Zx Z F φ L ρ σ H w L'} hs ss h Q q => PE.wp (pe_nddisp hu wpE wpE) fun p hp hm => ?_⟩
  unfold cNd1 at h
  split at h
  · cases h
  rename_i kw L1 e1
  split at h
  · cases h
  rename_i w1 L2 e2
  split at h
  · rename_i cs e3
    simp only [Option.some.injEq, Prod.mk.injEq] at h
    obtain ⟨rfl, rfl⟩ := h
    obtain ⟨f1, f2, f3⟩ := hs.free hp
    refine hk.run (hs.fresh (o := DNo X.prog X.w p []) hp (by intro _ z; cases z)) (ss.aside f2) e1 _ fun F1 φ1 H1 vk s1 p1 hs1 r1 => ?_
    have ew := asCells_eq e3
    subst ew
    obtain ⟨bk, rfl⟩ := key_ref r1
    refine hv.run hs1 ((ss.aside f2).mono s1 p1) e2 _ fun F2 φ2 H2 vv s2 p2 hs2 r2 => ?_
    have r1' := r1.mono s2 p2
    refine ⟨bk, encK cs, rfl, (hs2.ext p _ upd_same).1, fun pins s I => key_is hs2.sub I.hok r1', fun u ru => ?_⟩
    have hs3 := hs2.turn (o' := DNo X.prog X.w p [(encK cs, bk, u)]) (p := p) upd_same (by intro _ z; cases z)
    rw [upd_upd] at hs3
    refine q F2 (φ2 ++ [p]) _ _ (s1.trans s2) (List.IsPrefix.trans (List.IsPrefix.trans p1 p2) (List.prefix_append _ _)) (hs3.numbered f2 fun nF hH => ?_) (.ob ?_)
    · exact ⟨nF, X.prog, X.w, _, [vv], hH, rfl, .cons r1' .nil, .cons r2 .nil, .cons ru .nil⟩
    · rw [← hs2.len, List.getElem?_append_right (Nat.le_refl _)]
      simp
  · cases h
/-! ### xs.index(e), xs the list that a name holds -/
def idxD (d : PyData) : List PyData → Option Nat
  | [] => none
  | z :: ds => if PyData.eqv z d = true then some 0 else (idxD d ds).map (· + 1)
theorem idxD_spec {d : PyData} : ∀ {ds : List PyData} {j : Nat}, idxD d ds = some j → ∃ z, ds[j]? = some z ∧ PyData.eqv z d = true ∧ ∀ (m : Nat) (z' : PyData), m < j → ds[m]? = some z' → PyData.eqv z' d = false
  | [], _, h => by cases h
  | z :: ds, j, h => by
    unfold idxD at h
    by_cases q : PyData.eqv z d = true
    · rw [if_pos q] at h; cases h
      exact ⟨z, rfl, q, fun m _ hm => absurd hm (Nat.not_lt_zero _)⟩
    · rw [if_neg q] at h
      obtain ⟨j', e, rfl⟩ := Option.map_eq_some_iff.mp h
      obtain ⟨z1, h1, h2, h3⟩ := idxD_spec e
      refine ⟨z1, by simpa using h1, h2, fun m z' hm hz => ?_⟩
      cases m with
      | zero => simp at hz; subst hz; simpa using q
      | succ m => exact h3 m z' (by omega) (by simpa using hz)
def cIdx (i : Nat) (fk : EF) : EF := fun ρ L => match ρ[i]? with
  | some (.ow (.lst ws)) => (match fk ρ L with
    | none => none
    | some (k, L1) => match toDs ws, toD k with
      | some ds, some d => if SeqAt.shaped (.list ds) = true ∧ SeqAt.shaped d = true then (match idxD d ds with
        | some j => some (.int (j : Nat), L1)
        | none => none) else none
      | _, _ => none)
  | _ => none
theorem ie_idx (i : Nat) {x : Str} {px apos cpos : Pos} {fk : EF} (hu : X.A.units + 65 < cLine) (he : IE X b fk) (hN : X.N[i]? = some x := by rfl) (hv : Vis X.env.scope x := by first | exact Or.inl rfl | exact Or.inr (Or.inl rfl) | exact Or.inr (Or.inr rfl)) (hd : (x == ("__debug__" : Str)) = false := by decide)
    (hcd : (x == ("__classdict__" : Str)) = false := by decide) (hb : attributeBase (.Name x px) "index" X.env (eval (.Name x px) X.env) = eval (.Name x px) X.env := by rfl)
    (hfew : ((backTo cpos (starEach (b :: []) X.env)).all (fun x => !x.1) && (backToKw cpos (keywordEach [] X.env)).all (fun x => x.1.isSome)
      && decide ((b :: []).length + ([] : List Keyword).length + (if ([] : List Keyword).isEmpty then 0 else 1) < 30)) = true := by rfl)
    (hline : (apos.endLine == cpos.line) = true := by rfl) (hst : starEach (b :: []) X.env = (false, eval b X.env) :: starEach [] X.env := by rfl) (hplain : (backTo cpos (starEach [] X.env)).any (·.1) = false := by rfl) :
    IE X (.Call (.Attribute (.Name x px) "index" apos) [b] [] cpos) (cIdx i fk) := by
  refine ⟨fun {Zx Z F φ L ρ σ H w L'} hs ss h Q q => PE.wp (pe_bm PySem.F.plainAttrs_list PySem.F.slot_list_index PySem.F.type_list_index (mt_indexD hu) (pe_var hN hv hd hcd) (pa_cons wpE pa_nil hst) hb hfew hline hst hplain) ?_⟩
  unfold cIdx at h
  split at h
  · rename_i ws e0
    split at h
    · cases h
    rename_i k L1 e1
    split at h
    · rename_i ds d e2 e3
      split at h
      · rename_i sh
        split at h
        · rename_i j e4
          simp only [Option.some.injEq, Prod.mk.injEq] at h
          obtain ⟨rfl, rfl⟩ := h
          obtain ⟨a, o, h1, h2, _, h4⟩ := ss.ow i _ e0
          cases o <;> first | exact h4.elim | skip
          rename_i vs
          refine ⟨_, h1, .inl ⟨rfl, _, SqL.of (hs.ext a _ h2).1⟩, ?_⟩
          refine he.run hs ss e1 _ fun F1 φ1 H1 vk s1 p1 hs1 r1 => ?_
          have hc : Cont X.K F1 φ1 H1 (.lst ws) (.ref a) := .inr ⟨a, _, .lst ws, rfl, rfl, (hs1.ext a _ h2).1, MOk.mono (m := .lst ws) s1 p1 h4⟩
          obtain ⟨z, g1, g2, g3⟩ := idxD_spec e4
          exact ⟨a, vk, d, ds, j, z, rfl, rfl, dp_list hs1.sub hc e2, r1.dp hs1.sub e3, sh.1, sh.2, g1, g2, g3, q F1 φ1 H1 _ s1 p1 hs1 (.int _)⟩
        · cases h
      · cases h
    · cases h
  · cases h
end
/-! ### a slice of the script -/
def cSlS (i : Nat) (fl fh : Ro → Lg → Option (Option Int × Lg)) : EF := fun ρ L => match ρ[i]? with
  | some (.va (.scr ns)) => (match fl ρ L with
    | none => none
    | some (l, L2) => match fh ρ L2 with
      | none => none
      | some (u, L3) => some (.lst ((cutW ns l u).map W.int), L3))
  | _ => none
theorem ie_slS (i : Nat) {X : Cx} {pos : Pos} {x : Str} {px : Pos} {lo hi : Option Expr} {fl fh : Ro → Lg → Option (Option Int × Lg)} {p2 : Pos} (hl : IP X lo fl) (hh : IP X hi fh) (hN : X.N[i]? = some x := by rfl) (hv : Vis X.env.scope x := by first | exact Or.inl rfl | exact Or.inr (Or.inl rfl) | exact Or.inr (Or.inr rfl)) (hd : (x == ("__debug__" : Str)) = false := by decide)
    (hcd : (x == ("__classdict__" : Str)) = false := by decide) : IE X (.Subscript (.Name x px) (.Slice lo hi none p2) pos) (cSlS i fl fh) := by
  refine ⟨fun {Zx Z F φ L ρ σ H w L'} hs ss h Q q => PE.wp (pe_slice (SlR.or sl_list sl_str) (pe_var hN hv hd hcd) (wpOa lo) (wpOa hi)) ?_⟩
  unfold cSlS at h
  split at h
  · rename_i ns e1
    split at h
    · cases h
    rename_i l L2 e2
    split at h
    · cases h
    rename_i u L3 e3
    simp only [Option.some.injEq, Prod.mk.injEq] at h
    obtain ⟨rfl, rfl⟩ := h
    obtain ⟨v, h1, h2⟩ := ss.va i _ e1
    cases h2 with
    | scr hq =>
      refine ⟨_, h1, ?_⟩
      refine hl.run hs ss e2 _ fun F2 φ2 H2 s2 p2 hs2 => ?_
      refine hh.run hs2 (ss.mono s2 p2) e3 _ fun F3 φ3 H3 s3 p3 hs3 => ?_
      have s23 := s2.trans s3
      have p23 := List.IsPrefix.trans p2 p3
      refine .inl ⟨_, _, rfl, SqL.mono hs3.sub (SqL.mono s23 hq), fun p hp => ?_⟩
      have cm : (cutW ns l u).map W.int = cutW (ns.map W.int) l u := by unfold cutW; rw [List.map_take, List.map_drop, List.length_map]
      rw [cm] at q
      exact newL hs3 ((Rs.of_ints ns).cut l u) (fun F' H' v s' hs' r' => q F' φ3 H' v (s23.trans s') p23 hs' r') hp
  · cases h
@[simp] theorem e_cSlS (i : Nat) (fl fh : Ro → Lg → Option (Option Int × Lg)) (ρ : Ro) (L : Lg) : cSlS i fl fh ρ L = (match ρ[i]? with
  | some (.va (.scr ns)) => (match fl ρ L with
    | none => none
    | some (l, L2) => match fh ρ L2 with
      | none => none
      | some (u, L3) => some (.lst ((cutW ns l u).map W.int), L3))
  | _ => none) := id rfl
/-! ### a <= b < c -/
def cChain (fa fb fc : EF) : TF := fun ρ L => match fa ρ L with
  | some (.int i, L1) => (match fb ρ L1 with
    | some (.int j, L2) => if i ≤ j then (match fc ρ L2 with
      | some (.int k, L3) => some (decide (j < k), L3)
      | _ => none) else some (false, L2)
    | _ => none)
  | _ => none
theorem it_chain {X : Cx} {a b c : Expr} {pos : Pos} {fa fb fc : EF} (ha : IE X a fa) (hb : IE X b fb) (hc : IE X c fc) (hm : lastMarks [.LtE, .Lt] [b, c] = false := by with_unfolding_all rfl) : IT X (.Compare a [.LtE, .Lt] [b, c] pos) (cChain fa fb fc) := by
  refine ⟨fun {Zx Z F φ L ρ σ H w L'} hs ss h Q q => PT.wp (pt_chain op_le op_lt wpE wpE wpE hm) ?_⟩
  unfold cChain at h
  split at h
  · rename_i i L1 e1
    split at h
    · rename_i j L2 e2
      refine ha.run hs ss e1 _ fun F1 φ1 H1 v1 s1 p1 hs1 r1 => ?_
      refine hb.run hs1 (ss.mono s1 p1) e2 _ fun F2 φ2 H2 v2 s2 p2 hs2 r2 => ?_
      cases r1; cases r2
      refine ⟨i, j, rfl, rfl, decide (i ≤ j), rfl, ?_⟩
      split at h
      · rename_i hij
        split at h
        · rename_i k L3 e3
          simp only [Option.some.injEq, Prod.mk.injEq] at h
          obtain ⟨rfl, rfl⟩ := h
          rw [if_pos (decide_eq_true hij)]
          refine hc.run hs2 (ss.mono (s1.trans s2) (List.IsPrefix.trans p1 p2)) e3 _ fun F3 φ3 H3 v3 s3 p3 hs3 r3 => ?_
          cases r3
          exact ⟨j, k, rfl, rfl, _, rfl, q F3 φ3 H3 ((s1.trans s2).trans s3) (List.IsPrefix.trans (List.IsPrefix.trans p1 p2) p3) hs3⟩
        · cases h
      · rename_i hij
        simp only [Option.some.injEq, Prod.mk.injEq] at h
        obtain ⟨rfl, rfl⟩ := h
        rw [if_neg (by simpa using hij)]
        exact ⟨_, rfl, q F2 φ2 H2 (s1.trans s2) (List.IsPrefix.trans p1 p2) hs2⟩
    · cases h
  · cases h
@[simp] theorem e_cChain (fa fb fc : EF) (ρ : Ro) (L : Lg) : cChain fa fb fc ρ L = (match fa ρ L with
  | some (.int i, L1) => (match fb ρ L1 with
    | some (.int j, L2) => if i ≤ j then (match fc ρ L2 with
      | some (.int k, L3) => some (decide (j < k), L3)
      | _ => none) else some (false, L2)
    | _ => none)
  | _ => none) := id rfl
@[simp] theorem e_cNdIn (i : Nat) (fk : EF) (ρ : Ro) (L : Lg) : cNdIn i fk ρ L = (match fk ρ L with
  | none => none
  | some (k, L1) => match asCells k with
    | none => none
    | some cs => match ρ[i]? with
      | some (.va (.ob j)) => (match L1[j]? with
        | some (.nd kvs) => some ((findN kvs cs).isSome, L1)
        | _ => none)
      | _ => none) := id rfl
@[simp] theorem e_cNdGet (i : Nat) (fk : EF) (ρ : Ro) (L : Lg) : cNdGet i fk ρ L = (match fk ρ L with
  | none => none
  | some (k, L1) => match asCells k with
    | none => none
    | some cs => match ρ[i]? with
      | some (.va (.ob j)) => (match L1[j]? with
        | some (.nd kvs) => (match findN kvs cs with
          | some w => some (w, L1)
          | none => none)
        | _ => none)
      | _ => none) := id rfl
@[simp] theorem e_cNdPut (i : Nat) (fk fv : EF) (ρ : Ro) (L : Lg) : cNdPut i fk fv ρ L = (match fv ρ L with
  | none => none
  | some (w, L1) => match fk ρ L1 with
    | none => none
    | some (k, L2) => match asCells k with
      | none => none
      | some cs => match ρ[i]? with
        | some (.va (.ob j)) => (match L2[j]? with
          | some (.nd kvs) => if findN kvs cs = none ∧ kvs.length < 1000000 then some (.nx ρ (L2.set j (.nd (kvs ++ [(cs, w)])))) else none
          | _ => none)
        | _ => none) := id rfl
@[simp] theorem e_cNd1 (fk fv : EF) (ρ : Ro) (L : Lg) : cNd1 fk fv ρ L = (match fk ρ L with
  | none => none
  | some (k, L1) => match fv ρ L1 with
    | none => none
    | some (w, L2) => match asCells k with
      | some cs => some (.ob L2.length, L2 ++ [.nd [(cs, w)]])
      | none => none) := id rfl
@[simp] theorem e_cIdx (i : Nat) (fk : EF) (ρ : Ro) (L : Lg) : cIdx i fk ρ L = (match ρ[i]? with
  | some (.ow (.lst ws)) => (match fk ρ L with
    | none => none
    | some (k, L1) => match toDs ws, toD k with
      | some ds, some d => if SeqAt.shaped (.list ds) = true ∧ SeqAt.shaped d = true then (match idxD d ds with
        | some j => some (.int (j : Nat), L1)
        | none => none) else none
      | _, _ => none)
  | _ => none) := id rfl
theorem u9 {A : Around} {k : Nat} (r : Room k A) : A.units + 9 < cLine := by have := r.un; omega
theorem asCells_map (cs : List Cell) : asCells (.tup (cs.map cW)) = some cs := by
  show cellsW (cs.map cW) = some cs
  exact cellsW_map cs
end Lf

set_option maxHeartbeats 4000000
/-! Lf, part AH: stores into what an expression names, items of lists, attributes; dicts made from dicts; defs that call themselves. -/
namespace Lf
open PySem PySem.Spec PyProof.Rows L2
section
variable {X : Cx} {st : Stmt} {tg e a b c o : Expr} {es : List Expr} {pos : Pos}
/-! ### d[k] = v, d a box that an expression names -/
def cPutE (fo fk fv : EF) : SF := fun ρ L => match fv ρ L with
  | none => none
  | some (w, L1) => match fo ρ L1 with
    | some (.ob j, L2) => (match fk ρ L2 with
      | none => none
      | some (k, L3) => match L3[j]? with
        | some (.box (.lst _)) => none
        | some (.box m) => (match putM m k w with
          | some m' => some (.nx ρ (L3.set j (.box m')))
          | none => none)
        | _ => none)
    | _ => none
theorem is_putE {pos' : Pos} {fo fk fv : EF} (hu : X.A.units + 1 < cLine) (ho : IE X a fo) (hk : IE X b fk) (hv : IE X c fv) (hs' : swapsWith c (some (.Subscript a b pos')) pos.line X.env = pure false := by rfl) :
    IS X (.Assign [.Subscript a b pos'] c pos) (cPutE fo fk fv) := by
  refine ⟨fun {Zx Z F φ L ρ σ H o} hs ss h D q => PS.wp (ps_dput hu wpE wpE wpE hs') ?_⟩
  unfold cPutE at h
  split at h
  · cases h
  rename_i w L1 e1
  split at h
  · rename_i j L2 e2
    split at h
    · cases h
    rename_i k L3 e3
    split at h
    · cases h
    · rename_i m nl e4
      split at h
      · rename_i m' e5
        simp only [Option.some.injEq] at h
        subst h
        refine hv.run hs ss e1 _ fun F1 φ1 H1 vw s1 p1 hs1 r1 => ?_
        refine ho.run hs1 (ss.mono s1 p1) e2 _ fun F2 φ2 H2 vo s2 p2 hs2 r2 => ?_
        have s12 := s1.trans s2
        have p12 := List.IsPrefix.trans p1 p2
        refine hk.run hs2 (ss.mono s12 p12) e3 _ fun F3 φ3 H3 vk s3 p3 hs3 r3 => ?_
        cases r2 with
        | ob hj =>
          have hj3 := pre_get p3 hj
          obtain ⟨nF, o2, g1, g2⟩ := hs3.objs _ _ _ e4 hj3
          obtain ⟨o', k1, k2⟩ := putM_rel hs3.sub g1 g2 r3 (r1.mono (s2.trans s3) (List.IsPrefix.trans p2 p3)) (fun xs z => nl xs z) e5
          refine ⟨_, _, rfl, k1, ?_⟩
          refine q Z F3 φ3 σ _ (s12.trans s3) (List.IsPrefix.trans p12 p3) (hs3.setOb (List.getElem?_eq_some_iff.mp e4).1 hj3 nF k2.nt ?_) (ss.mono (s12.trans s3) (List.IsPrefix.trans p12 p3))
          exact ⟨nF, _, upd_same, k2⟩
      · cases h
    · cases h
  · cases h
@[simp] theorem e_cPutE (fo fk fv : EF) (ρ : Ro) (L : Lg) : cPutE fo fk fv ρ L = (match fv ρ L with
  | none => none
  | some (w, L1) => match fo ρ L1 with
    | some (.ob j, L2) => (match fk ρ L2 with
      | none => none
      | some (k, L3) => match L3[j]? with
        | some (.box (.lst _)) => none
        | some (.box m) => (match putM m k w with
          | some m' => some (.nx ρ (L3.set j (.box m')))
          | none => none)
        | _ => none)
    | _ => none) := id rfl
/-! ### del d[k], d a box that an expression names -/
def cDelE (fo fk : EF) : SF := fun ρ L => match fo ρ L with
  | some (.ob j, L1) => (match fk ρ L1 with
    | none => none
    | some (k, L2) => match L2[j]? with
      | some (.box (.dT kvs)) => (match asTKey k with
        | some k => if (kvs.any fun p => decide (p.1 = k)) = true then some (.nx ρ (L2.set j (.box (.dT (dropW kvs k))))) else none
        | none => none)
      | _ => none)
  | _ => none
theorem is_delE {tpos : Pos} {fo fk : EF} (hu : X.A.units + 1 < cLine) (ho : IE X a fo) (hk : IE X b fk) : IS X (.Delete [.Subscript a b tpos] pos) (cDelE fo fk) := by
  refine ⟨fun {Zx Z F φ L ρ σ H o} hs ss h D q => PS.wp (ps_delT hu wpE wpE) ?_⟩
  unfold cDelE at h
  split at h
  · rename_i j L1 e1
    split at h
    · cases h
    rename_i kw L2 e2
    split at h
    · rename_i kvs e3
      split at h
      · rename_i k e4
        split at h
        · rename_i hmem
          simp only [Option.some.injEq] at h
          subst h
          refine ho.run hs ss e1 _ fun F1 φ1 H1 vo s1 p1 hs1 r1 => ?_
          refine hk.run hs1 (ss.mono s1 p1) e2 _ fun F2 φ2 H2 vk s2 p2 hs2 r2 => ?_
          have s12 := s1.trans s2
          have p12 := List.IsPrefix.trans p1 p2
          cases r1 with
          | ob hj =>
            have hj2 := pre_get p2 hj
            obtain ⟨nF, o2, g1, g2⟩ := hs2.objs _ _ _ e3 hj2
            cases o2 <;> first | exact g2.elim | skip
            rename_i vs
            obtain ⟨g3, g4⟩ := g2
            obtain ⟨kb, rfl, hkb⟩ := asTKey_rel r2 e4
            obtain ⟨d1, d2⟩ := drop_rel k g3 g4
            refine ⟨_, kb, vs, k, rfl, rfl, g1, hs2.sub _ _ hkb, val_some (K := X.K) (F := F2) (φ := φ2) g3 hmem, ?_⟩
            refine q Z F2 φ2 σ _ s12 p12 (hs2.setOb (List.getElem?_eq_some_iff.mp e3).1 hj2 nF (by intro _ z; cases z) ?_) (ss.mono s12 p12)
            exact ⟨nF, _, upd_same, d1, d2⟩
        · cases h
      · cases h
    · cases h
  · cases h
@[simp] theorem e_cDelE (fo fk : EF) (ρ : Ro) (L : Lg) : cDelE fo fk ρ L = (match fo ρ L with
  | some (.ob j, L1) => (match fk ρ L1 with
    | none => none
    | some (k, L2) => match L2[j]? with
      | some (.box (.dT kvs)) => (match asTKey k with
        | some k => if (kvs.any fun p => decide (p.1 = k)) = true then some (.nx ρ (L2.set j (.box (.dT (dropW kvs k))))) else none
        | none => none)
      | _ => none)
  | _ => none) := id rfl
/-! ### xs[i] = v -/
theorem ixN_nat {n : Nat} {k : Int} (h0 : 0 ≤ k) (h1 : k < n) : ixN n k = some k.toNat := by
  unfold ixN; rw [if_pos h0, if_pos h1]
/-- xs the list in a box that an expression names -/
def cLPutE (fo fk fv : EF) : SF := fun ρ L => match fv ρ L with
  | none => none
  | some (w, L1) => match fo ρ L1 with
    | some (.ob j, L2) => (match fk ρ L2 with
      | some (.int k, L3) => (match L3[j]? with
        | some (.box (.lst ws)) => if 0 ≤ k ∧ k < ws.length then some (.nx ρ (L3.set j (.box (.lst (ws.set k.toNat w))))) else none
        | _ => none)
      | _ => none)
    | _ => none
theorem is_lputE {pos' : Pos} {fo fk fv : EF} (ho : IE X a fo) (hk : IE X b fk) (hv : IE X c fv) (ha : ∀ v, assign (.Subscript a b pos') X.env v = (do let ov ← holding [v] (eval a X.env); let iv ← holding [v, ov] (eval b X.env); standAt pos'; holding [v, ov, iv] (setItem ov iv v); release [v, ov, iv] []) := by intro _; rfl) (hs' : swapsWithSole [.Subscript a b pos'] c pos.line X.env = pure false := by rfl) (hw : swappedStores [.Subscript a b pos'] c X.env = pure none := by rfl)
    (h1 : (assignEach [.Subscript a b pos'] X.env).map (·.2) = [assign (.Subscript a b pos') X.env] := by rfl) : IS X (.Assign [.Subscript a b pos'] c pos) (cLPutE fo fk fv) := by
  refine ⟨fun {Zx Z F φ L ρ σ H o} hs ss h D q => PS.wp (ps_asg wpE (pg_sub wpE wpE set_list ha) hs' hw h1) ?_⟩
  unfold cLPutE at h
  split at h
  · cases h
  rename_i w L1 e1
  split at h
  · rename_i j L2 e2
    split at h
    · rename_i k L3 e3
      split at h
      · rename_i ws e4
        split at h
        · rename_i hz
          simp only [Option.some.injEq] at h
          subst h
          refine hv.run hs ss e1 _ fun F1 φ1 H1 vw s1 p1 hs1 r1 => ?_
          refine ho.run hs1 (ss.mono s1 p1) e2 _ fun F2 φ2 H2 vo s2 p2 hs2 r2 => ?_
          have s12 := s1.trans s2
          have p12 := List.IsPrefix.trans p1 p2
          refine hk.run hs2 (ss.mono s12 p12) e3 _ fun F3 φ3 H3 vk s3 p3 hs3 r3 => ?_
          cases r3
          cases r2 with
          | ob hj =>
            have hj3 := pre_get p3 hj
            obtain ⟨nF, o2, g1, g2⟩ := hs3.objs _ _ _ e4 hj3
            cases o2 <;> first | exact g2.elim | skip
            rename_i vs
            have rv : Rs X.K F3 φ3 ws vs := g2
            refine ⟨_, vs, k, k.toNat, rfl, rfl, g1, ixN_nat hz.1 (by rw [← rv.length]; exact hz.2), ?_⟩
            refine q Z F3 φ3 σ _ (s12.trans s3) (List.IsPrefix.trans p12 p3) (hs3.setOb (List.getElem?_eq_some_iff.mp e4).1 hj3 nF NT.lst ?_) (ss.mono (s12.trans s3) (List.IsPrefix.trans p12 p3))
            exact ⟨nF, _, upd_same, Rs.set (r1.mono (s2.trans s3) (List.IsPrefix.trans p2 p3)) _ rv⟩
        · cases h
      · cases h
    · cases h
  · cases h
@[simp] theorem e_cLPutE (fo fk fv : EF) (ρ : Ro) (L : Lg) : cLPutE fo fk fv ρ L = (match fv ρ L with
  | none => none
  | some (w, L1) => match fo ρ L1 with
    | some (.ob j, L2) => (match fk ρ L2 with
      | some (.int k, L3) => (match L3[j]? with
        | some (.box (.lst ws)) => if 0 ≤ k ∧ k < ws.length then some (.nx ρ (L3.set j (.box (.lst (ws.set k.toNat w))))) else none
        | _ => none)
      | _ => none)
    | _ => none) := id rfl
/-- xs the list that a name alone holds -/
def cLPut (i : Nat) (fk fv : EF) : SF := fun ρ L => match fv ρ L with
  | none => none
  | some (w, L1) => match fk ρ L1 with
    | some (.int k, L2) => (match ρ[i]? with
      | some (.ow (.lst ws)) => if 0 ≤ k ∧ k < ws.length then some (.nx (ρ.set i (.ow (.lst (ws.set k.toNat w)))) L2) else none
      | _ => none)
    | _ => none
theorem is_lput (i : Nat) {x : Str} {px pos' : Pos} {fk fv : EF} (hk : IE X b fk) (hv' : IE X c fv) (hN : X.N[i]? = some x := by rfl) (hv : Vis X.env.scope x := by first | exact Or.inl rfl | exact Or.inr (Or.inl rfl) | exact Or.inr (Or.inr rfl)) (hd : (x == ("__debug__" : Str)) = false := by decide)
    (hcd : (x == ("__classdict__" : Str)) = false := by decide) (ha : ∀ v, assign (.Subscript (.Name x px) b pos') X.env v = (do let ov ← holding [v] (eval (.Name x px) X.env); let iv ← holding [v, ov] (eval b X.env); standAt pos'; holding [v, ov, iv] (setItem ov iv v); release [v, ov, iv] []) := by intro _; rfl) (hs' : swapsWithSole [.Subscript (.Name x px) b pos'] c pos.line X.env = pure false := by rfl) (hw : swappedStores [.Subscript (.Name x px) b pos'] c X.env = pure none := by rfl)
    (h1 : (assignEach [.Subscript (.Name x px) b pos'] X.env).map (·.2) = [assign (.Subscript (.Name x px) b pos') X.env] := by rfl) :
    IS X (.Assign [.Subscript (.Name x px) b pos'] c pos) (cLPut i fk fv) := by
  refine ⟨fun {Zx Z F φ L ρ σ H o} hs ss h D q => PS.wp (ps_asg wpE (pg_sub (pe_var hN hv hd hcd) wpE set_list ha) hs' hw h1) ?_⟩
  unfold cLPut at h
  split at h
  · cases h
  rename_i w L1 e1
  split at h
  · rename_i k L2 e2
    split at h
    · rename_i ws e3
      split at h
      · rename_i hz
        simp only [Option.some.injEq] at h
        subst h
        obtain ⟨p, ho, g1, g2, g3, g4⟩ := ss.ow i _ e3
        refine hv'.run hs ss e1 _ fun F1 φ1 H1 vw s1 p1 hs1 r1 => ?_
        refine ⟨.ref p, g1, ?_⟩
        refine hk.run hs1 (ss.mono s1 p1) e2 _ fun F2 φ2 H2 vk s2 p2 hs2 r2 => ?_
        have s12 := s1.trans s2
        have p12 := List.IsPrefix.trans p1 p2
        cases r2
        have hH := (hs2.ext p _ g2).1
        cases ho <;> first | exact g4.elim | skip
        rename_i vs
        have rv : Rs X.K F φ ws vs := g4
        refine ⟨p, vs, k, k.toNat, rfl, rfl, hH, ixN_nat hz.1 (by rw [← rv.length]; exact hz.2), ?_⟩
        have m2 : MOk X.K F2 φ2 (.lst (ws.set k.toNat w)) (.lst (vs.set k.toNat vw)) := Rs.set (r1.mono s2 p2) _ (rv.mono s12 p12)
        exact q _ F2 φ2 σ _ s12 p12 (hs2.turn g2) ((ss.mono s12 p12).turn e3 g1 m2)
      · cases h
    · cases h
  · cases h
@[simp] theorem e_cLPut (i : Nat) (fk fv : EF) (ρ : Ro) (L : Lg) : cLPut i fk fv ρ L = (match fv ρ L with
  | none => none
  | some (w, L1) => match fk ρ L1 with
    | some (.int k, L2) => (match ρ[i]? with
      | some (.ow (.lst ws)) => if 0 ≤ k ∧ k < ws.length then some (.nx (ρ.set i (.ow (.lst (ws.set k.toNat w)))) L2) else none
      | _ => none)
    | _ => none) := id rfl
/-! ### o.f += e, o.f -= e -/
def cFldAug (c f : Str) (g : W → W → Option W) (fo fe : EF) : SF := fun ρ L => match fo ρ L with
  | some (.ob i, L1) => (match L1[i]? with
    | some (.ins c' fs) => if c' = c then (match fs.lookup f with
      | some x => (match fe ρ L1 with
        | none => none
        | some (y, L2) => match g x y with
          | none => none
          | some w => match L2[i]? with
            | some (.ins c2 fs2) => if c2 = c ∧ fs2.length < 1000 then some (.nx ρ (L2.set i (.ins c (putW f w fs2)))) else none
            | _ => none)
      | none => none) else none
    | _ => none)
  | _ => none
theorem is_fldaug {op : Operator} {rd : V → V → Hp → VK → Prop} {g : W → W → Option W} {cl f : Str} {fo fe : EF} {tpos : Pos} (hop : InOp X op rd) (sg : Op2 X rd g) (D : FldD X.K X.mg cl f) (ho : IE X o fo) (he : IE X e fe) : IS X (.AugAssign (.Attribute o f tpos) op e pos) (cFldAug cl f g fo fe) := by
  refine ⟨fun {Zx Z F φ L ρ σ H o} hs ss h D' q => PS.wp (ps_fldaug wpE wpE hop) ?_⟩
  obtain ⟨C, cd, na⟩ := D.ex
  unfold cFldAug at h
  split at h
  · rename_i i L1 e1
    split at h
    · rename_i c' fs e2
      split at h
      · rename_i ec
        subst ec
        split at h
        · rename_i x e3
          split at h
          · cases h
          rename_i y L2 e4
          split at h
          · cases h
          rename_i w e5
          split at h
          · rename_i c2 fs2 e6
            split at h
            · rename_i hz
              obtain ⟨rfl, hl⟩ := hz
              simp only [Option.some.injEq] at h
              subst h
              refine ho.run hs ss e1 _ fun F1 φ1 H1 v s1 p1 hs1 r1 => ?_
              cases r1 with
              | ob hj =>
                obtain ⟨_, C', dx, vs, g1, g2, g3, g4⟩ := hs1.objs _ _ _ e2 hj
                rw [cd.at_] at g1
                cases g1
                obtain ⟨vx, l1, l2⟩ := lk_some g3 g4 e3
                refine ⟨_, _, dx, vs, vx, rfl, g2, cd.cls, na, l1, ?_⟩
                refine he.run hs1 (ss.mono s1 p1) e4 _ fun F2 φ2 H2 vy s2 p2 hs2 r2 => ?_
                refine sg hs2 (l2.mono s2 p2) r2 e5 _ fun F3 H3 vw s3 hs3 r3 => ?_
                have hj3 := pre_get p2 hj
                obtain ⟨nF, C2, dx2, vs2, k1, k2, k3, k4⟩ := hs3.objs _ _ _ e6 hj3
                rw [cd.at_] at k1
                cases k1
                have lv : vs2.length < 1000 := by
                  have := congrArg List.length k3
                  simp only [List.length_map] at this
                  omega
                obtain ⟨q1, q2⟩ := putW_ok r3 k3 k4 (f := f)
                refine ⟨dx2, vs2, k2, lv, ?_⟩
                have s13 := (s1.trans s2).trans s3
                have p13 := List.IsPrefix.trans p1 p2
                refine q Z F3 φ2 σ _ s13 p13 (hs3.setOb (List.getElem?_eq_some_iff.mp e6).1 hj3 nF NT.ins ?_) (ss.mono s13 p13)
                exact ⟨nF, C, dx2, _, cd.at_, upd_same, q1, q2⟩
            · cases h
          · cases h
        · cases h
      · cases h
    · cases h
  · cases h
theorem op2_rAdd : Op2 X rAdd addI := by
  intro Z F φ L H x y w vx vy hs rx ry h Q q
  unfold addI at h
  split at h
  · cases h; cases rx; cases ry
    exact ⟨_, _, rfl, rfl, flat hs (.int _) q⟩
  · cases h
theorem op2_rSub : Op2 X rSub subW := by
  intro Z F φ L H x y w vx vy hs rx ry h Q q
  unfold subW at h
  split at h
  · cases h; cases rx; cases ry
    exact ⟨_, _, rfl, rfl, flat hs (.int _) q⟩
  · cases h
theorem is_fldadd {cl f : Str} {fo fe : EF} {tpos : Pos} (D : FldD X.K X.mg cl f) (ho : IE X o fo) (he : IE X e fe) : IS X (.AugAssign (.Attribute o f tpos) .Add e pos) (cFldAug cl f addI fo fe) := is_fldaug in_add op2_rAdd D ho he
theorem is_fldsub {cl f : Str} {fo fe : EF} {tpos : Pos} (D : FldD X.K X.mg cl f) (ho : IE X o fo) (he : IE X e fe) : IS X (.AugAssign (.Attribute o f tpos) .Sub e pos) (cFldAug cl f subW fo fe) := is_fldaug in_sub op2_rSub D ho he
@[simp] theorem e_cFldAug (c f : Str) (g : W → W → Option W) (fo fe : EF) (ρ : Ro) (L : Lg) : cFldAug c f g fo fe ρ L = (match fo ρ L with
  | some (.ob i, L1) => (match L1[i]? with
    | some (.ins c' fs) => if c' = c then (match fs.lookup f with
      | some x => (match fe ρ L1 with
        | none => none
        | some (y, L2) => match g x y with
          | none => none
          | some w => match L2[i]? with
            | some (.ins c2 fs2) => if c2 = c ∧ fs2.length < 1000 then some (.nx ρ (L2.set i (.ins c (putW f w fs2)))) else none
            | _ => none)
      | none => none) else none
    | _ => none)
  | _ => none) := id rfl
end
/-! ### defs that call themselves: nothing is promised at depth 0 -/
theorem fnok_none {P : Program} {w : World} {K : PySem.W.Frag} {mg : Str → Option Value} {base : Heap} {CX : CXT} {k n : Nat} {f : Addr} {fd : FuncData} {ps : List Str} : FnOk P w K mg base CX k f fd ps (spI K mg n fun _ _ => none) :=
  ⟨fun vs H Q E h => (by obtain ⟨_, _, _, _, _, _, _, _, _, _, h4, _⟩ := h; cases h4), fun _ _ _ _ _ _ _ _ _ _ _ _ _ h => (by obtain ⟨_, _, _, _, _, _, _, _, _, _, h4, _⟩ := h; cases h4)⟩
end Lf

set_option maxHeartbeats 4000000
/-! Lf, part AI: name = {k: v for x in d}, d a frozen dict at a name. -/
namespace Lf
open PySem PySem.Spec PyProof.Rows L2
section
variable {X : Cx}
theorem is_setDcD {i : Nat} {y : Str} {py : Pos} {ke ve tg : Expr} {ifs : List Expr} {scope : Scope} {own : List (Str × Nat)} {pos spos : Pos} {g : GF} {tt : TF} {fk fv : EF} {ix : List Nat} {x : Str} {px : Pos} (j : Nat) (hu : X.A.units + 1 < cLine) (hc : X.calm = true) (hN : X.N.Nodup) (hy : X.N[i]? = some y) (hyl : X.env.scope.names.lookup y = some .local)
    (hsw : swapsWith (.DictComp ke ve [⟨tg, .Name x px, ifs, 0⟩] scope pos) (some (.Name y py)) spos.line X.env = pure true) (ok : BlkOk X.N X.env.scope scope own) (hix : ∀ i ∈ ix, i ∈ own.map (·.2))
    (hg : ∀ (s : Shared) (H : Hp) (C : Addr) (cl : List (Str × Addr)) (fp : List Addr), IG (X.blk s H scope (compEnvC scope cl C X.env) fp) tg ix g) (ht : ∀ (s : Shared) (H : Hp) (C : Addr) (cl : List (Str × Addr)) (fp : List Addr), ITs (X.blk s H scope (compEnvC scope cl C X.env) fp) ifs tt)
    (hk : ∀ (s : Shared) (H : Hp) (C : Addr) (cl : List (Str × Addr)) (fp : List Addr), IE (X.blk s H scope (compEnvC scope cl C X.env) fp) ke fk)
    (he : ∀ (s : Shared) (H : Hp) (C : Addr) (cl : List (Str × Addr)) (fp : List Addr), IE (X.blk s H scope (compEnvC scope cl C X.env) fp) ve fv) (hNi : X.N[j]? = some x := by rfl) (hv : Vis X.env.scope x := by first | exact Or.inl rfl | exact Or.inr (Or.inl rfl) | exact Or.inr (Or.inr rfl)) (hd : (x == ("__debug__" : Str)) = false := by decide)
    (hcd : (x == ("__classdict__" : Str)) = false := by decide) (hs' : ∀ z, foldedSetIterable (.Name x px) X.env z = pure z := by intro _; rfl) :
    IS X (.Assign [.Name y py] (.DictComp ke ve [⟨tg, .Name x px, ifs, 0⟩] scope pos) spos) (cSetO i (cDc (sKeys j) g tt fk fv (own.map (·.2)))) := by
  refine ⟨fun {Zx Z F φ L ρ σ H o} hs ss h D q => ?_⟩
  let gW : TG := fun v σ H Q => ∀ (s : Shared) (H0 : Hp) (C : Addr) (cl : List (Str × Addr)) (fp : List Addr), WpG (X.blk s H0 scope (compEnvC scope cl C X.env) fp) tg v σ H Q
  let tW : TT := fun σ H Q => ∀ (s : Shared) (H0 : Hp) (C : Addr) (cl : List (Str × Addr)) (fp : List Addr), WpTs (X.blk s H0 scope (compEnvC scope cl C X.env) fp) ifs σ H Q
  let kW : TE := fun σ H Q => ∀ (s : Shared) (H0 : Hp) (C : Addr) (cl : List (Str × Addr)) (fp : List Addr), Wp (X.blk s H0 scope (compEnvC scope cl C X.env) fp) ke σ H Q
  let vW : TE := fun σ H Q => ∀ (s : Shared) (H0 : Hp) (C : Addr) (cl : List (Str × Addr)) (fp : List Addr), Wp (X.blk s H0 scope (compEnvC scope cl C X.env) fp) ve σ H Q
  have base := ps_setDcT (i := i) hu hc hN hy hyl hsw (pi_keys (tg := tg) (pe_var (pos := px) hNi hv hd hcd)) ok (g := gW) (tt := tW) (tk := kW) (tv := vW) (fun s H C cl fp => ⟨fun pins s' σ H v u Q I r h => h s _ C cl fp pins s' u I r⟩) (fun s H C cl fp => ⟨fun pins s' σ H Q I h => h s _ C cl fp pins s' I⟩) (fun s H C cl fp => ⟨fun pins s' σ H Q I h => h s _ C cl fp pins s' I⟩) (fun s H C cl fp => ⟨fun pins s' σ H Q I h => h s _ C cl fp pins s' I⟩) hs'
  unfold cSetO at h
  split at h
  · cases h
  rename_i m L9 e9
  split at h
  · rename_i hi'
    simp only [Option.some.injEq] at h
    subst h
    unfold cDc at e9
    split at e9
    · cases e9
    rename_i ks L1 e1
    split at e9
    · cases e9
    rename_i kvs LL e2
    simp only [Option.some.injEq, Prod.mk.injEq] at e9
    obtain ⟨rfl, rfl⟩ := e9
    unfold sKeys at e1
    split at e1
    · rename_i w ew
      split at e1
      · rename_i ks' ek
        simp only [Option.some.injEq, Prod.mk.injEq] at e1
        obtain ⟨rfl, rfl⟩ := e1
        obtain ⟨v, hv1, hv2⟩ := ss.va j w ew
        have hdict : ∃ a u, v = .ref a ∧ isD u = true ∧ DAt F a u ∧ ((∃ kvs vs, w = .dK kvs ∧ u = .dK vs ∧ kvs.map Prod.fst = vs.map Prod.fst) ∨ ∃ kvs vs, w = .dT kvs ∧ u = .dT vs ∧ kvs.map Prod.fst = vs.map Prod.fst) := by
          cases hv2 <;> first | (cases ek; done) | skip
          · rename_i h1 h2 h3; exact ⟨_, _, rfl, rfl, h1, .inl ⟨_, _, rfl, rfl, h2⟩⟩
          · rename_i h1 h2 h3; exact ⟨_, _, rfl, rfl, h1, .inr ⟨_, _, rfl, rfl, h2⟩⟩
        obtain ⟨a, u, rfl, hu', hda, hw⟩ := hdict
        -- under a lock that stands already, or under a new one
        have core : ∀ (od : Obj) (F1 H1 : Hp) (N1 : L2.St → Hp → Prop), F1 a = some (.frz od u) → Hs X.K X.mg Z F1 φ L H1 → Ss X.K Zx Z F1 φ ρ σ → GoOn X Zx F1 φ (ρ.set i (.ow (.dT kvs))) LL N1 →
            tDcT (iKeys (tVar j)) gW tW kW vW (own.map (·.2)) σ H1 (fun z H2 => gName i z σ H2 N1) := by
          intro od F1 H1 N1 hF1 hs1 ss1 q1
          have hH1 := hs1.sub _ _ hF1
          have go : ∀ J, ItOk X.K X.mg F1 φ J ks' → ∀ B, H1 B = none → ∃ W : Nat → Nat → Hp → Prop, (∃ m, W 0 m (upd H1 B (.dT []))) ∧ ∀ i' m H, W i' m H →
              (J.stop i' H ∧ gName i (.ref B) σ H N1) ∨ (J.go i' H ∧ ∃ Nx : Hp → Prop, (∀ H', Nx H' → ∃ m', m' < m ∧ W (i' + 1) m' H') ∧ ∀ x H', J.yld i' H x H' → tTurnT gW tW kW vW (own.map (·.2)) σ B Nx x H') := by
            intro J itok B hB
            refine dc_w hix gW tW kW vW ?_ ?_ ?_ ?_ hs1 ss1 itok e2 (fun z H2 => gName i z σ H2 N1) (fun F' φ' H' p o s' p' z hs' m' => q1 _ F' φ' _ H' s' p' hs' ((ss1.mono s' p').setow hi' z m')) hB
            · intro _ _ _ _ _ _ _ _ _ _ _ h1 h2 h3 h4 Q q s H0 C cl fp
              exact (hg s H0 C cl fp).run h1 h2 h3 h4 Q q
            · intro _ _ _ _ _ _ _ _ _ _ h1 h2 h3 Q q s H0 C cl fp
              obtain ⟨t, k1, k2⟩ := (ht s H0 C cl fp).run h1 h2 h3 Q q
              exact PTs.wp k1 k2
            · intro _ _ _ _ _ _ _ _ _ _ h1 h2 h3 Q q s H0 C cl fp
              exact (hk s H0 C cl fp).run h1 h2 h3 Q q
            · intro _ _ _ _ _ _ _ _ _ _ h1 h2 h3 Q q s H0 C cl fp
              exact (he s H0 C cl fp).run h1 h2 h3 Q q
          refine ⟨.ref a, hv1, a, od, rfl, ?_⟩
          rcases hw with ⟨kvs0, vs, rfl, rfl, hkk⟩ | ⟨kvs0, vs, rfl, rfl, hkk⟩
          · simp only [keysD, Option.some.injEq] at ek
            subst ek
            exact .inl ⟨vs, hH1, go _ (itok_keys hF1 hkk)⟩
          · simp only [keysD, Option.some.injEq] at ek
            subst ek
            exact .inr ⟨vs, hH1, go _ (itok_keysT hF1 hkk)⟩
        rcases hda with hda | ⟨od, hda⟩
        · refine PS.wp (ps_lock base) ⟨a, u, hs.sub _ _ hda, ?_, fun od => ?_⟩
          · cases u <;> first | (cases hu'; done) | exact True.intro
          · have l := Lk.lock (od := od) hda hu'
            refine core od _ _ _ upd_same (hs.relock hda l) (ss.relock l) ?_
            intro Z' F' φ' σ' H' s p hs' ss'
            have b1 : F' a = some (.frz od u) := s _ _ upd_same
            have b2 : Sub F (upd F' a u) := fun b o' eb => by
              by_cases qb : b = a
              · subst qb; rw [hda] at eb; cases eb; exact upd_same
              · rw [upd_ne qb]; exact s b o' (by rw [upd_ne qb]; exact eb)
            have l' := Lk.unlock b1 hu'
            exact ⟨hs'.sub _ _ b1, q Z' _ φ' σ' _ b2 p (hs'.relock b1 l') (ss'.relock l')⟩
        · exact PS.wp base (core od F H _ hda hs ss q)
      · cases e1
    · cases e1
  · cases h
end
end Lf

set_option maxHeartbeats 4000000
/-! Lf, part AJ: name = [.. for x in d ..], a comprehension in a comprehension, o.m(), x -= e, x &= e. -/
namespace Lf
open PySem PySem.Spec PyProof.Rows L2
section
variable {X : Cx}
theorem is_setLcD {i : Nat} {y : Str} {py : Pos} {elt tg : Expr} {ifs : List Expr} {scope : Scope} {own : List (Str × Nat)} {pos spos : Pos} {g : GF} {tt : TF} {te : EF} {ix : List Nat} {x : Str} {px : Pos} (j : Nat) (hc : X.calm = true) (hN : X.N.Nodup) (hy : X.N[i]? = some y) (hyl : X.env.scope.names.lookup y = some .local)
    (hsw : swapsWith (.ListComp elt [⟨tg, .Name x px, ifs, 0⟩] scope pos) (some (.Name y py)) spos.line X.env = pure true) (ok : BlkOk X.N X.env.scope scope own) (hix : ∀ i ∈ ix, i ∈ own.map (·.2))
    (hg : ∀ (s : Shared) (H : Hp) (C : Addr) (cl : List (Str × Addr)) (fp : List Addr), IG (X.blk s H scope (compEnvC scope cl C X.env) fp) tg ix g) (ht : ∀ (s : Shared) (H : Hp) (C : Addr) (cl : List (Str × Addr)) (fp : List Addr), ITs (X.blk s H scope (compEnvC scope cl C X.env) fp) ifs tt)
    (he : ∀ (s : Shared) (H : Hp) (C : Addr) (cl : List (Str × Addr)) (fp : List Addr), IE (X.blk s H scope (compEnvC scope cl C X.env) fp) elt te) (hNi : X.N[j]? = some x := by rfl) (hv : Vis X.env.scope x := by first | exact Or.inl rfl | exact Or.inr (Or.inl rfl) | exact Or.inr (Or.inr rfl)) (hd : (x == ("__debug__" : Str)) = false := by decide)
    (hcd : (x == ("__classdict__" : Str)) = false := by decide) (hs' : ∀ z, foldedSetIterable (.Name x px) X.env z = pure z := by intro _; rfl) :
    IS X (.Assign [.Name y py] (.ListComp elt [⟨tg, .Name x px, ifs, 0⟩] scope pos) spos) (cSetO i (cLc (sKeys j) g tt te (own.map (·.2)))) := by
  refine ⟨fun {Zx Z F φ L ρ σ H o} hs ss h D q => ?_⟩
  let gW : TG := fun v σ H Q => ∀ (s : Shared) (H0 : Hp) (C : Addr) (cl : List (Str × Addr)) (fp : List Addr), WpG (X.blk s H0 scope (compEnvC scope cl C X.env) fp) tg v σ H Q
  let tW : TT := fun σ H Q => ∀ (s : Shared) (H0 : Hp) (C : Addr) (cl : List (Str × Addr)) (fp : List Addr), WpTs (X.blk s H0 scope (compEnvC scope cl C X.env) fp) ifs σ H Q
  let eW : TE := fun σ H Q => ∀ (s : Shared) (H0 : Hp) (C : Addr) (cl : List (Str × Addr)) (fp : List Addr), Wp (X.blk s H0 scope (compEnvC scope cl C X.env) fp) elt σ H Q
  have base := ps_setLc (i := i) hc hN hy hyl hsw (pi_keys (tg := tg) (pe_var (pos := px) hNi hv hd hcd)) ok (g := gW) (tt := tW) (te := eW) (fun s H C cl fp => ⟨fun pins s' σ H v u Q I r h => h s _ C cl fp pins s' u I r⟩) (fun s H C cl fp => ⟨fun pins s' σ H Q I h => h s _ C cl fp pins s' I⟩) (fun s H C cl fp => ⟨fun pins s' σ H Q I h => h s _ C cl fp pins s' I⟩) hs'
  unfold cSetO at h
  split at h
  · cases h
  rename_i m L9 e9
  split at h
  · rename_i hi'
    simp only [Option.some.injEq] at h
    subst h
    unfold cLc at e9
    split at e9
    · cases e9
    rename_i ks L1 e1
    split at e9
    · cases e9
    rename_i ws LL e2
    split at e9
    · rename_i hz
      simp only [Option.some.injEq, Prod.mk.injEq] at e9
      obtain ⟨rfl, rfl⟩ := e9
      unfold sKeys at e1
      split at e1
      · rename_i w ew
        split at e1
        · rename_i ks' ek
          simp only [Option.some.injEq, Prod.mk.injEq] at e1
          obtain ⟨rfl, rfl⟩ := e1
          obtain ⟨v, hv1, hv2⟩ := ss.va j w ew
          have hdict : ∃ a u, v = .ref a ∧ isD u = true ∧ DAt F a u ∧ ((∃ kvs vs, w = .dK kvs ∧ u = .dK vs ∧ kvs.map Prod.fst = vs.map Prod.fst) ∨ ∃ kvs vs, w = .dT kvs ∧ u = .dT vs ∧ kvs.map Prod.fst = vs.map Prod.fst) := by
            cases hv2 <;> first | (cases ek; done) | skip
            · rename_i h1 h2 h3; exact ⟨_, _, rfl, rfl, h1, .inl ⟨_, _, rfl, rfl, h2⟩⟩
            · rename_i h1 h2 h3; exact ⟨_, _, rfl, rfl, h1, .inr ⟨_, _, rfl, rfl, h2⟩⟩
          obtain ⟨a, u, rfl, hu', hda, hw⟩ := hdict
          have core : ∀ (od : Obj) (F1 H1 : Hp) (N1 : L2.St → Hp → Prop), F1 a = some (.frz od u) → Hs X.K X.mg Z F1 φ L H1 → Ss X.K Zx Z F1 φ ρ σ → GoOn X Zx F1 φ (ρ.set i (.ow (.lst ws))) LL N1 →
              tLc (iKeys (tVar j)) gW tW eW (own.map (·.2)) σ H1 (fun z H2 => gName i z σ H2 N1) := by
            intro od F1 H1 N1 hF1 hs1 ss1 q1
            have hH1 := hs1.sub _ _ hF1
            have go : ∀ J, ItOk X.K X.mg F1 φ J ks' → ∀ B, H1 B = none → ∃ W : Nat → Nat → Hp → Prop, (∃ m, W 0 m (upd H1 B (.lst []))) ∧ ∀ i' m H, W i' m H →
                (J.stop i' H ∧ gName i (.ref B) σ H N1) ∨ (J.go i' H ∧ ∃ Nx : Hp → Prop, (∀ H', Nx H' → ∃ m', m' < m ∧ W (i' + 1) m' H') ∧ ∀ x H', J.yld i' H x H' → gW x (wipe σ (own.map (·.2))) H' fun σ2 H2 => wipe σ2 (own.map (·.2)) = wipe σ (own.map (·.2)) ∧ tW σ2 H2 fun b H3 =>
                  if b = true then eW σ2 H3 fun y H4 => ∃ acc, H4 B = some (.lst acc) ∧ acc.length < sizeLine ∧ Nx (upd H4 B (.lst (acc ++ [y]))) else Nx H3) := by
              intro J itok B hB
              refine lc_w hix gW tW eW ?_ ?_ ?_ hs1 ss1 itok e2 hz (fun z H2 => gName i z σ H2 N1) (fun F' φ' H' p o s' p' z hs' m' => q1 _ F' φ' _ H' s' p' hs' ((ss1.mono s' p').setow hi' z m')) hB
              · intro _ _ _ _ _ _ _ _ _ _ _ h1 h2 h3 h4 Q q s H0 C cl fp
                exact (hg s H0 C cl fp).run h1 h2 h3 h4 Q q
              · intro _ _ _ _ _ _ _ _ _ _ h1 h2 h3 Q q s H0 C cl fp
                obtain ⟨t, k1, k2⟩ := (ht s H0 C cl fp).run h1 h2 h3 Q q
                exact PTs.wp k1 k2
              · intro _ _ _ _ _ _ _ _ _ _ h1 h2 h3 Q q s H0 C cl fp
                exact (he s H0 C cl fp).run h1 h2 h3 Q q
            refine ⟨.ref a, hv1, a, od, rfl, ?_⟩
            rcases hw with ⟨kvs0, vs, rfl, rfl, hkk⟩ | ⟨kvs0, vs, rfl, rfl, hkk⟩
            · simp only [keysD, Option.some.injEq] at ek
              subst ek
              exact .inl ⟨vs, hH1, go _ (itok_keys hF1 hkk)⟩
            · simp only [keysD, Option.some.injEq] at ek
              subst ek
              exact .inr ⟨vs, hH1, go _ (itok_keysT hF1 hkk)⟩
          rcases hda with hda | ⟨od, hda⟩
          · refine PS.wp (ps_lock base) ⟨a, u, hs.sub _ _ hda, ?_, fun od => ?_⟩
            · cases u <;> first | (cases hu'; done) | exact True.intro
            · have l := Lk.lock (od := od) hda hu'
              refine core od _ _ _ upd_same (hs.relock hda l) (ss.relock l) ?_
              intro Z' F' φ' σ' H' s p hs' ss'
              have b1 : F' a = some (.frz od u) := s _ _ upd_same
              have b2 : Sub F (upd F' a u) := fun b o' eb => by
                by_cases qb : b = a
                · subst qb; rw [hda] at eb; cases eb; exact upd_same
                · rw [upd_ne qb]; exact s b o' (by rw [upd_ne qb]; exact eb)
              have l' := Lk.unlock b1 hu'
              exact ⟨hs'.sub _ _ b1, q Z' _ φ' σ' _ b2 p (hs'.relock b1 l') (ss'.relock l')⟩
          · exact PS.wp base (core od F H _ hda hs ss q)
        · cases e1
      · cases e1
    · cases e9
  · cases h
/-- a comprehension's block inside another one's -/
theorem blkOk_blk {s : Shared} {H : Hp} {scope inner sc : Scope} {cl : List (Str × Addr)} {C : Addr} {fp : List Addr} {own : List (Str × Nat)} {N : List Str} (hN : X.N = N) (hsc : X.env.scope = sc) (h : blkC N (relS scope sc) inner own = true) :
    BlkOk (X.blk s H scope (compEnvC scope cl C X.env) fp).N (X.blk s H scope (compEnvC scope cl C X.env) fp).env.scope inner own := by
  have e : (compEnvC scope cl C X.env).scope = relS scope X.env.scope := rfl
  show BlkOk X.N (compEnvC scope cl C X.env).scope inner own
  rw [e, hsc, hN]
  exact blkOk_by h
end
section
variable {X : Cx} {e a b o : Expr} {es : List Expr} {pos : Pos}
/-- o.m() -/
def cMeth0 (c m : Str) (d : DF) (fo : EF) : EF := fun ρ L => match fo ρ L with
  | some (.ob i, L1) => (match L1[i]? with
    | some (.ins c' fs) => if c' = c then (match fs.lookup m with
      | some _ => none
      | none => d [.ob i] L1) else none
    | _ => none)
  | _ => none
theorem ie_meth0 {c m : Str} {k j : Nat} {ps : List Str} {d : DF} {fo : EF} {apos : Pos} {pl : Sem Bool} (D : MetD X.prog X.w X.K X.mg X.base k c m ps d) (hr : Room j X.A) (hkj : k ≤ j) (hn : ps.length = 1) (ho : IE X o fo)
    (ht : eval (.Call (.Attribute o m apos) [] [] pos) X.env = (do
      let ov ← eval o X.env
      standAt apos.atName
      let (f, first) ← holding [ov] (getMethod ov m pl)
      callWith pos f first (backTo pos (starEach [] X.env)) (backToKw pos (keywordEach [] X.env))) := by rfl) : IE X (.Call (.Attribute o m apos) [] [] pos) (cMeth0 c m d fo) := by
  obtain ⟨C, f, fd, cd, me, F0, hb⟩ := D.ex
  refine ⟨fun {Zx Z F φ L ρ σ H w L'} hs ss h Q q => PE.wp (pe_meth0 (E := E0) (dvs := []) wpE cd.cls me F0 (hr.mono hkj) hb .nil pass0 ht) ?_⟩
  unfold cMeth0 at h
  split at h
  · rename_i i L1 e1
    split at h
    · rename_i c' fs e2
      split at h
      · rename_i ec
        subst ec
        split at h
        · cases h
        rename_i e3
        refine ho.run hs ss e1 _ fun F1 φ1 H1 v s1 p1 hs1 r1 => ?_
        cases r1 with
        | ob hj =>
          obtain ⟨nF, C', dx, vs, g1, g2, g3, g4⟩ := hs1.objs _ _ _ e2 hj
          rw [cd.at_] at g1
          cases g1
          refine ⟨_, dx, vs, rfl, g2, lk_none g3 e3, ?_⟩
          refine ⟨Z, F1, φ1, L1, [.ob i], w, L', hs1, .cons (.ob hj) .nil, hn.symm, h, fun Z' F' φ' H' v s3 p3 z hs3 r3 => ?_⟩
          exact q F' φ' H' v (s1.trans s3) (List.IsPrefix.trans p1 p3) (hs3.weak z) r3
      · cases h
    · cases h
  · cases h
@[simp] theorem e_cMeth0 (c m : Str) (d : DF) (fo : EF) (ρ : Ro) (L : Lg) : cMeth0 c m d fo ρ L = (match fo ρ L with
  | some (.ob i, L1) => (match L1[i]? with
    | some (.ins c' fs) => if c' = c then (match fs.lookup m with
      | some _ => none
      | none => d [.ob i] L1) else none
    | _ => none)
  | _ => none) := id rfl
theorem op_isub0 : OpR X (inplaceOp .Sub) (rI0 fun i j => .int (i - j)) := iop_sub
theorem op_iand0 : OpR X (inplaceOp .BitAnd) (rI0 fun i j => .int (Builtin.bitAnd i j)) := iop_and
theorem op2_isub0 : Op2 X (rI0 fun i j => .int (i - j)) subW := by
  intro Z F φ L H x y w vx vy hs rx ry h Q q
  unfold subW at h
  split at h
  · cases h; cases rx; cases ry
    exact ⟨_, _, rfl, rfl, flat hs (.int _) q⟩
  · cases h
theorem op2_iand0 : Op2 X (rI0 fun i j => .int (Builtin.bitAnd i j)) bandW := by
  intro Z F φ L H x y w vx vy hs rx ry h Q q
  unfold bandW at h
  split at h
  · cases h; cases rx; cases ry
    exact ⟨_, _, rfl, rfl, flat hs (.int _) q⟩
  · cases h
/-- a sign in a text, as a value -/
theorem ie_inS {fa fb : EF} (ha : IE X a fa) (hb : IE X b fb) (hm : behindInMarks .In b = false := by rfl) : IE X (.Compare a [.In] [b] pos) (cOp (inSW false) fa fb) := ie_cmp op_in_sign op2_inS ha hb hm
theorem ie_notinS {fa fb : EF} (ha : IE X a fa) (hb : IE X b fb) (hm : behindInMarks .NotIn b = false := by rfl) : IE X (.Compare a [.NotIn] [b] pos) (cOp (inSW true) fa fb) := ie_cmp op_notIn_sign op2_ninS ha hb hm
end
end Lf

set_option maxHeartbeats 4000000
/-! Lf, part AK: i in range(..). -/
namespace Lf
open PySem PySem.Spec PyProof.Rows L2
section
variable {X : Cx} {a : Expr} {e : Expr} {es : List Expr} {pos : Pos}
theorem cr_rng1 : CallR X (.type "range") (fun vs H Q => ∃ j, vs = [V.int j] ∧ ∀ p, H p = none → Q (.ref p) (upd H p (.rng 0 j))) := by
  intro pins s σ H vs us Q I r h
  obtain ⟨j, rfl, q⟩ := h
  cases r with
  | cons r1 r2 =>
    cases r2
    obtain ⟨t, rfl⟩ := r1
    have hn : s.heap.objs.size ≤ s.heap.objs.size := Nat.le_refl _
    refine call_range_1 ⟨.ref s.heap.objs.size, _, I.laid (t' := s.toks + 1 + 1) (o := .rng 0 j) (fun b o e => Heap.get?_push_of_some _ e) hn ⟨_, _, _, Heap.get?_push_size _ rfl⟩, rfl, q _ (I.hok.fresh hn)⟩
/-- e in range(..) -/
def cInR (fa : EF) (g : AF) : EF := fun ρ L => match fa ρ L with
  | some (.int i, L1) => (match g ρ L1 with
    | some ([.int b], L2) => some (.bl (decide (0 ≤ i ∧ i < b)), L2)
    | some ([.int a, .int b], L2) => some (.bl (decide (a ≤ i ∧ i < b)), L2)
    | _ => none)
  | _ => none
theorem ie_inR {fa : EF} {g : AF} {p : Pos} (hg : Gl X "range") (hm : X.mg "range" = none) (ha : IE X a fa) (hb : IA X (e :: es) g) (he : starEach (e :: es) X.env = (false, eval e X.env) :: starEach es X.env := by rfl) (hpl : (backTo p (starEach es X.env)).any (·.1) = false := by rfl)
    (hmk : behindInMarks .In (.Call (.Name "range" pos) (e :: es) [] p) = false := by rfl) {pos' : Pos} : IE X (.Compare a [.In] [.Call (.Name "range" pos) (e :: es) [] p] pos') (cInR fa g) := by
  refine ⟨fun {Zx Z F φ L ρ σ H w L'} hs ss h Q q => PE.wp (pe_cmpR op_in_rng wpE wpE hmk) ?_⟩
  unfold cInR at h
  split at h
  · rename_i i L1 e1
    split at h
    · rename_i b L2 e2
      simp only [Option.some.injEq, Prod.mk.injEq] at h
      obtain ⟨rfl, rfl⟩ := h
      refine ha.run hs ss e1 _ fun F1 φ1 H1 v s1 p1 hs1 r1 => ?_
      cases r1
      refine PE.wp (pe_callTy cr_rng1 hg hm (by decide +kernel) wpA (by decide) (by decide) he hpl) ?_
      refine hb.run hs1 (ss.mono s1 p1) e2 _ fun F2 φ2 H2 vs s2 p2 hs2 r2 => ?_
      cases r2 with
      | cons r3 r4 =>
        cases r3; cases r4
        refine ⟨b, rfl, fun z hz => ⟨i, z, 0, b, rfl, rfl, upd_same, ?_⟩⟩
        exact q F2 φ2 _ _ (s1.trans s2) (List.IsPrefix.trans p1 p2) (hs2.extra hz) (.bl _)
    · rename_i a' b L2 e2
      simp only [Option.some.injEq, Prod.mk.injEq] at h
      obtain ⟨rfl, rfl⟩ := h
      refine ha.run hs ss e1 _ fun F1 φ1 H1 v s1 p1 hs1 r1 => ?_
      cases r1
      refine PE.wp (pe_callTy cr_range2 hg hm (by decide +kernel) wpA (by decide) (by decide) he hpl) ?_
      refine hb.run hs1 (ss.mono s1 p1) e2 _ fun F2 φ2 H2 vs s2 p2 hs2 r2 => ?_
      cases r2 with
      | cons r3 r4 =>
        cases r3
        cases r4 with
        | cons r5 r6 =>
          cases r5; cases r6
          refine ⟨a', b, rfl, fun z hz => ⟨i, z, a', b, rfl, rfl, upd_same, ?_⟩⟩
          exact q F2 φ2 _ _ (s1.trans s2) (List.IsPrefix.trans p1 p2) (hs2.extra hz) (.bl _)
    · cases h
  · cases h
@[simp] theorem e_cInR (fa : EF) (g : AF) (ρ : Ro) (L : Lg) : cInR fa g ρ L = (match fa ρ L with
  | some (.int i, L1) => (match g ρ L1 with
    | some ([.int b], L2) => some (.bl (decide (0 ≤ i ∧ i < b)), L2)
    | some ([.int a, .int b], L2) => some (.bl (decide (a ≤ i ∧ i < b)), L2)
    | _ => none)
  | _ => none) := id rfl
/-- e is True -/
def isBW : W → W → Option W
  | .bl x, .bl y => some (.bl (decide (x = y)))
  | _, _ => none
theorem op2_isB : Op2 X rIsB isBW := by
  intro Z F φ L H x y w vx vy hs rx ry h Q q
  unfold isBW at h
  split at h
  · cases h; cases rx; cases ry
    exact ⟨_, _, rfl, rfl, flat hs (.bl _) q⟩
  · cases h
theorem ie_isB {b : Expr} {fa fb : EF} (ha : IE X a fa) (hb : IE X b fb) : IE X (.Compare a [.Is] [b] pos) (cOp isBW fa fb) := ie_cmp op_isBl op2_isB ha hb (nomark _)
@[simp] theorem isBW_b (x y : Bool) : isBW (.bl x) (.bl y) = some (.bl (decide (x = y))) := id rfl
end
end Lf

set_option maxHeartbeats 4000000
/-! Lf, part AL: [s.replace(y, z[i]) for s in xs]: a token is out once the turn's name is stored. -/
namespace Lf
open PySem PySem.Spec PyProof.Rows L2
/-! ### a token is given out -/
def Hands {α : Type} (M : Model) (Γ : PySem.Ctx) (t : Sem α) : Prop :=
  ∀ (Q : α → Pos → Shared → Prop) (E : Value → Pos → Shared → Prop) (p : Pos) (s : Shared), Sem.wp M Γ t Q E p s → Sem.wp M Γ t (fun a p' s' => 1 ≤ s'.toks ∧ Q a p' s') E p s
theorem hands_ask {α : Type} {M : Model} {Γ : PySem.Ctx} {k : Setting → Sem α} (h : ∀ x, Hands M Γ (k x)) : Hands M Γ (.ask k) := fun Q E p s q => h _ Q E p s q
theorem hands_fresh {α : Type} {M : Model} {Γ : PySem.Ctx} {k : Tok → Sem α} : Hands M Γ (.fresh k) := fun Q E p s q =>
  Sem.wp_mono M Γ (.fresh k) (fun _ _ _ z => z) (fun _ _ _ z => z.2) p s (Sem.wp_toks M Γ 1 (k s.toks) Q E p { s with toks := s.toks + 1 } (Nat.succ_le_succ (Nat.zero_le _)) q)
theorem hands_nsSet {M : Model} {Γ : PySem.Ctx} {a : Addr} {n : Str} {v : Value} : Hands M Γ (nsSet a n v) := hands_ask fun _ => hands_fresh
section
variable {M : Model} {A : Around} {E : Value → Shared → Prop} {s : Shared}
theorem store_hands {env : Env} {x : Str} {u : Value} {Q : Unit → Shared → Prop} (hl : env.kindOf x = some .local) (hp : (env.scope.kind == .class || (env.scope.kind == .module && env.locals != env.globals)) = false)
    (h : wpAny M A (storeName env x u) Q E s) : wpAny M A (storeName env x u) (fun z s' => 1 ≤ s'.toks ∧ Q z s') E s := by
  rw [storeName_local hl hp] at h ⊢
  exact fun Γ p hΓ => hands_nsSet _ _ _ _ (h Γ p hΓ)
end
/-! ### expressions, a token being out -/
def WpET (X : Cx) (e : Expr) : TE := fun σ H Q => ∀ (pins : List (Addr × Obj)) (s : Shared), 1 ≤ s.toks → Inv X pins σ H s → wpAny (model X.prog X.w) X.A (eval e X.env) (EP X pins σ Q) X.xe s
structure IET (X : Cx) (e : Expr) (f : EF) : Prop where
  run : ∀ {Zx Z F : Hp} {φ : List Addr} {L : Lg} {ρ : Ro} {σ : L2.St} {H : Hp} {w : W} {L' : Lg}, Hs X.K X.mg Z F φ L H → Ss X.K Zx Z F φ ρ σ → f ρ L = some (w, L') →
    ∀ Q : VK, (∀ (F' : Hp) (φ' : List Addr) (H' : Hp) (v : V), Sub F F' → φ <+: φ' → Hs X.K X.mg Z F' φ' L' H' → R X.K F' φ' w v → Q v H') → WpET X e σ H Q
/-- s.replace(y, z[i]) -/
def replW (x y z : Str) (n : Int) : Option Str := match atI z.cps.toList n with
  | some c => if z.length ≤ 16777216 ∧ x.length ≤ 1048576 ∧ (y == (⟨#[c]⟩ : Str)) = false then some (Txt.replace x y ⟨#[c]⟩) else none
  | none => none
def cRepl (y z : Str) (fo fi : EF) : EF := fun ρ L => match fo ρ L with
  | some (.str x, L1) => (match fi ρ L1 with
    | some (.int n, L2) => (match replW x y z n with
      | some r => some (.str r, L2)
      | none => none)
    | _ => none)
  | _ => none
section
variable {X : Cx} {pos : Pos}
theorem iet_repl {o i : Expr} {fo fi : EF} {y z : Str} {j k : Nat} {c0 c1 p2 apos : Pos} (ho : IE X o fo) (hi : IE X i fi) (hs0 : NoSl i)
    (hst : starEach [.Constant (.str y) j c0, .Subscript (.Constant (.str z) k c1) i p2] X.env = [(false, eval (.Constant (.str y) j c0) X.env), (false, eval (.Subscript (.Constant (.str z) k c1) i p2) X.env)] := by rfl)
    (hbase : attributeBase o "replace" X.env (eval o X.env) = eval o X.env := by rfl) (hline : (apos.endLine == pos.line) = true := by rfl) :
    IET X (.Call (.Attribute o "replace" apos) [.Constant (.str y) j c0, .Subscript (.Constant (.str z) k c1) i p2] [] pos) (cRepl y z fo fi) := by
  refine ⟨fun {Zx Z F φ L ρ σ H w L'} hs ss h Q q pins s h0 I => ?_⟩
  unfold cRepl at h
  split at h
  · rename_i x L1 e1
    split at h
    · rename_i n L2 e2
      split at h
      · rename_i r e3
        simp only [Option.some.injEq, Prod.mk.injEq] at h
        obtain ⟨rfl, rfl⟩ := h
        unfold replW at e3
        split at e3
        · rename_i c e4
          split at e3
          · rename_i hc
            obtain ⟨z1, z2, z3⟩ := hc
            simp only [Option.some.injEq] at e3
            subst e3
            -- the receiver
            have k1 : Wp X o σ H (fun v H1 => v = .str x ∧ ∀ (pins : List (Addr × Obj)) (s : Shared), Inv X pins σ H1 s → wpAny (model X.prog X.w) X.A (eval i X.env) (EP X pins σ fun u H2 => u = .int n ∧ Q (.str (Txt.replace x y ⟨#[c]⟩)) H2) X.xe s) :=
              ho.run hs ss e1 _ fun F1 φ1 H1 v s1 p1 hs1 r1 => by
                cases r1
                refine ⟨rfl, hi.run hs1 (ss.mono s1 p1) e2 _ fun F2 φ2 H2 u s2 p2 hs2 r2 => ?_⟩
                cases r2
                exact ⟨rfl, q F2 φ2 H2 _ (s1.trans s2) (List.IsPrefix.trans p1 p2) hs2 (.str _)⟩
            refine PySem.Call_method2 hbase hst hline (wpAny_mono (PySem.wpAny_toks (k1 pins s I)) (fun ov s1 g => ?_) fun _ _ z => z.2)
            obtain ⟨t1, v, H1, I1, rv, rfl, k2⟩ := g
            obtain ⟨tx, rfl⟩ := rv
            refine ⟨"str", _, PySem.F.plainAttrs_str, PySem.F.slot_str_replace, PySem.F.type_str_replace, typeIs_str _ _ _, (fun _ e => nomatch e), Calls.callWith_builtin rfl (Calls.evalArgs_plain (Calls.spliced_cons (Calls.Constant_str (Calls.spliced_cons ?_))))⟩
            refine subD_of PySem.F.slot_str_getitem.lookup hs0 (Calls.Constant_str ?_)
            have I2 : Inv X pins σ H1 { s1 with toks := s1.toks + 1 + 1 } := I1.tok _
            refine wpAny_mono (PySem.wpAny_toks (k2 pins _ I2)) (fun iv s2 g => ?_) fun _ _ z => z.2
            obtain ⟨t2, u, H2, I3, ru, rfl, qq⟩ := g
            obtain ⟨tu, rfl⟩ := ru
            have t2 : s1.toks + 1 + 1 ≤ s2.toks := t2
            obtain ⟨m, h1, h2, h3, h4, h5⟩ := atI_get e4
            have hl : z.cps.toList.length = z.length := by simp [Str.length]
            rw [hl] at h1 h4 h5
            refine ⟨typeIs_str s2 z _, getItem_str (c := c) (by
              have g1 : decide (n < -(2 ^ 63 : Int)) = false := decide_eq_false (by omega)
              have g2 : decide (n ≥ 2 ^ 63) = false := decide_eq_false (by omega)
              rw [g1, g2, Bool.or_false]) (by rw [h1]; simpa using h2) (Calls.spliced_nil ?_)⟩
            exact PySem.SC.replace (by show s1.toks ≠ 0; omega) (by show s2.toks ≠ 0; omega) (by show s1.toks ≠ s2.toks; omega) z3 (by show x.length + (x.length + 1) * 1 ≤ 16777216; omega) fun t' k => ⟨.str (Txt.replace x y ⟨#[c]⟩), H2, I3.tok k, ⟨t', rfl⟩, qq⟩
          · cases e3
        · cases e3
      · cases h
    · cases h
  · cases h
end
/-! ### the turns -/
section
variable {X : Cx}
theorem lcN_core {pins : List (Addr × Obj)} {s : Shared} {σ : L2.St} {H : Hp} {Q : VK} {elt iter : Expr} {scope : Scope} {own : List (Str × Nat)} {x : Str} {i0 : Nat} {px pos pos' : Pos} {wi : TI} {te : TE} {use : Option (Value → Sem Unit)} {Qf : Value → Shared → Prop}
    (hc : X.calm = true) (hN : X.N.Nodup) (I : Inv X pins σ H s) (hi : PI X (.Name x px) iter wi) (blk : BlkOk X.N X.env.scope scope own) (hx : X.N[i0]? = some x) (hxl : scope.names.lookup x = some .local)
    (he : ∀ (s : Shared) (H : Hp) (C : Addr) (cl : List (Str × Addr)) (fp : List Addr), ∀ σ H1 Q, te σ H1 Q → WpET (X.blk s H scope (compEnvC scope cl C X.env) fp) elt σ H1 Q) (fold : ∀ x, foldedSetIterable iter X.env x = pure x)
    (h : tLc wi (gName i0) (fun _ H Q => Q true H) te (own.map (·.2)) σ H Q)
    (fin : ∀ D C s' m H', Inv X pins σ H' s' → Q (.ref D) H' → s'.heap.Ns C m → FpOk X pins H' C → compPost (model X.prog X.w) X.A X.xe use Qf (.ref D) C (.ok .next) s') :
    wpAny (model X.prog X.w) X.A (comprehension (.ListComp elt [⟨.Name x px, iter, [], 0⟩] scope pos) scope X.env pos' (newList []) false (eval iter X.env) use) Qf X.xe s := by
  refine wpAny_comprehension_free (use := use) rfl fold (closure_ok fun y hy e => (blk.free y hy e).elim (fun z => I.ok.has _ (.inl z)) fun z => I.ok.has _ (.inr z)) blk.kind (fun y hy e => by rw [blk.uniq y hy, e])
    (thn (hi.run pins s σ H _ I h) fun xv s1 hgo => thn hgo fun itv sB got => ?_)
  obtain ⟨it, fs, tn, J, H2, rfl, I2, T, tB, fr2, q⟩ := got
  refine wpAny_newObj_type (newEnv_comp ?_) (by show 0 ≤ sizeLine; decide)
  generalize eD : sB.heap.objs.size = D
  obtain ⟨W, ⟨m0, w0⟩, turn⟩ := q D (I2.hok.fresh (Nat.le_of_eq eD))
  generalize eC : ({ sB with heap := sB.heap.push { cls := .type "list", data := .seq ([] : List Value).toArray } } : Shared) = sC
  have hh3 : sC.heap = sB.heap.push { cls := .type "list", data := .seq ([] : List Value).toArray } := by rw [← eC]
  have I3 : Inv X pins σ (upd H2 D (.lst [])) sC := by
    rw [← eC]
    exact I2.laid (t' := sB.toks) (fun b o e => Heap.get?_push_of_some _ e) (Nat.le_of_eq eD) ⟨Nat.zero_le _, [], 0, .nil, by rw [← eD]; exact Heap.get?_push_size _ rfl⟩
  have fr3 : ∀ b ∈ fs, FpOk X pins (upd H2 D (.lst [])) b ∧ b < sC.heap.objs.size := fun b hb => by
    obtain ⟨o, e, _⟩ := T.obj _ _ tB b hb
    have lt := Heap.lt_size e
    exact ⟨⟨by rw [upd_ne (by rw [← eD]; exact Nat.ne_of_lt lt)]; exact (fr2 b hb).1, (fr2 b hb).2⟩, by rw [hh3, Heap.size_push]; exact Nat.lt_succ_of_lt lt⟩
  have tC : tn 0 sC.heap := T.keep _ _ _ tB fun b _ o e => by rw [hh3]; exact Heap.get?_push_of_some _ e
  have I4 := block_start I3 blk hN fr3
  obtain ⟨ce, hce⟩ : ∃ ce, compEnvC scope (cellsFrom (sC.heap.objs.size + 1) scope.names (cloFrom X.env.cells scope.names [])) sC.heap.objs.size X.env = ce := ⟨_, rfl⟩
  obtain ⟨H3, hH3⟩ : ∃ H3, upd H2 D (.lst []) = H3 := ⟨_, rfl⟩
  have pe := he sC H3 sC.heap.objs.size (cellsFrom (sC.heap.objs.size + 1) scope.names (cloFrom X.env.cells scope.names [])) fs
  have cL : ce.locals = sC.heap.objs.size := by rw [← hce]; rfl
  have cS : ce.scope.names.lookup x = some .local := by rw [← hce]; exact lookup_relabel_local hxl
  have cK : ce.scope.kind = .function := by rw [← hce]; exact blk.kind
  obtain ⟨sD, eD4⟩ : ∃ sD : Shared, ({ sC with heap := pushCells (sC.heap.push { cls := .type "dict", data := .dict #[] }) scope.names } : Shared) = sD := ⟨_, rfl⟩
  rw [hH3] at I3 I4 w0 fr3
  rw [hce] at I4 pe
  rw [eD4] at I4
  have tD : tn 0 sD.heap := T.keep _ _ _ tC fun b _ o e => by rw [← eD4]; exact pushCells_keeps _ _ _ _ (Heap.get?_push_of_some _ e)
  have own1 : ∀ {σ' : L2.St} {H' : Hp} {s' : Shared}, Inv (X.blk sC H3 scope ce fs) [] σ' H' s' → (∀ b ∈ fs, H' b = none) → ∀ b ∈ fs, FpOk (X.blk sC H3 scope ce fs) [] H' b := fun {σ' H' s'} I' hn b hb =>
    let z := I'.ok.exf b hb
    ⟨hn b hb, z.1, I'.ok.exfs b hb, .inl hb, fun x c e => z.2 x c e, fun p hp => nomatch (show p ∈ ([] : List (Addr × Obj)) from hp)⟩
  show codeAny _ _ (.compStart (.ListComp elt [⟨.Name x px, iter, [], 0⟩] scope pos) 0 (.ref it) (.ref D) (compEnvC scope (cellsFrom (sC.heap.objs.size + 1) scope.names (cloFrom X.env.cells scope.names [])) sC.heap.objs.size X.env)) (compPost (model X.prog X.w) X.A X.xe use Qf (.ref D) sC.heap.objs.size) { sC with heap := pushCells (sC.heap.push { cls := .type "dict", data := .dict #[] }) scope.names }
  rw [hce, eD4]
  refine (fun loop => codeAny_compStart_list loop (T.self X.A 0 _ _ _ tD loop)) ?_
  refine compLoop_any (fun n s' => ∃ i H', Inv (X.blk sC H3 scope ce fs) [] (wipe σ (own.map (·.2))) H' s' ∧ tn i s'.heap ∧ (∀ b ∈ fs, H' b = none) ∧ W i n H') ?_ m0 ⟨0, H3, I4, tD, fun b hb => (fr3 b hb).1.1, w0⟩
  rintro n sE ⟨i, hE, iE, tE, nE, wE⟩
  rcases turn i n hE wE with ⟨stop, qq⟩ | ⟨go, Nx, less, step⟩
  · refine thnF (T.done (X.blk sC H3 scope ce fs) rfl rfl rfl hc i [] sE _ hE (fun _ _ => False) iE (own1 iE nE) tE stop) fun r sF ⟨hr, I6⟩ => ?_
    subst hr
    have iG : Inv X pins σ hE sF := I3.call' (ch := fs) I6.os I6.base I6.hok I6.bare fun b hb => ⟨(fr3 b hb).1.2.2.2.1, (fr3 b hb).1.2.1, (fr3 b hb).1.2.2.2.2.1, (fr3 b hb).1.2.2.2.2.2⟩
    have nC : hE sC.heap.objs.size = none := by rw [← cL]; exact I6.free
    obtain ⟨m, hn, _⟩ := I6.loc
    exact fin D _ sF m hE iG qq (by rw [← cL]; exact hn) (I3.fpOk (Nat.le_refl _) nC)
  · refine thnF (T.item (X.blk sC H3 scope ce fs) rfl rfl rfl hc i [] sE _ hE (fun _ _ => False) iE (own1 iE nE) tE go) fun r sF ⟨u, hr, h6⟩ => ?_
    subst hr
    refine thnF h6 fun _ sG ⟨xv, hG, iG, rG, yG, tG, nG⟩ => ?_
    have iP := iG.pinned (own1 iG nG) (T.obj _ _ tG)
    obtain ⟨hw8, q8⟩ := step xv hG yG
    have q8 : te ((wipe σ (own.map (·.2))).set i0 (some xv)) hG fun y H4 => ∃ acc, H4 D = some (.lst acc) ∧ acc.length < sizeLine ∧ Nx (upd H4 D (.lst (acc ++ [y]))) := q8
    have kind : ce.kindOf x = some .local := cS
    have cls : (ce.scope.kind == .class || (ce.scope.kind == .module && ce.locals != ce.globals)) = false := by rw [cK]; rfl
    have locx : (X.blk sC H3 scope ce fs).env.scope.names.lookup x = some .local := cS
    refine thnF (wpAny_assign_Name (store_hands (Q := fun _ s' => Inv (X.blk sC H3 scope ce fs) ([] ++ pinsAt fs sG.heap) ((wipe σ (own.map (·.2))).set i0 (some xv)) hG s') kind cls (store_ok iP hN hx (.inl locx) rG (fun s' I' => I') (.inr locx)))) fun _ sH ⟨t8, I8⟩ => ?_
    have again : ∀ {s' : Shared} {H' : Hp}, Inv (X.blk sC H3 scope ce fs) ([] ++ pinsAt fs sG.heap) ((wipe σ (own.map (·.2))).set i0 (some xv)) H' s' → Nx H' → ∃ m, m < n ∧ ∃ i H', Inv (X.blk sC H3 scope ce fs) [] (wipe σ (own.map (·.2))) H' s' ∧ tn i s'.heap ∧ (∀ b ∈ fs, H' b = none) ∧ W i m H' := fun {s' H'} I' nx => by
      obtain ⟨m', hm, w'⟩ := less H' nx
      have held : ∀ b ∈ fs, ∀ o, sG.heap.get? b = some o → s'.heap.get? b = some o ∧ H' b = none := fun b hb o e =>
        let z := I'.pin (b, o) (by refine List.mem_append_right _ (List.mem_append_right _ ?_); exact mem_pinsAt hb e)
        ⟨z.1, z.2.1⟩
      refine ⟨m', hm, i + 1, H', (I'.unpinned (pins := [])).weak (by rw [List.length_set]) (fun j v e => ?_), T.keep _ _ _ tG fun b hb o e => (held b hb o e).1, fun b hb => ?_, w'⟩
      · rw [← hw8] at e
        exact (L2.wipe_some e).1
      · obtain ⟨o, e, _⟩ := T.obj _ _ tG b hb
        exact (held b hb o e).2
    rw [List.forIn_nil]
    refine wpAny_pure ?_
    rw [if_pos rfl]
    refine thnF (pe _ _ _ q8 _ sH t8 I8) fun z sJ ⟨yv, H10, I10, r10, acc, hD10, hz10, nx⟩ => ?_
    exact app_ok (X := X.blk sC H3 scope ce fs) I10 hD10 hz10 r10 fun sL I11 => again I11 nx
/-- name = [.. for x in ..] on one line, the parts asking for a token -/
theorem is_setLcT {i i0 : Nat} {y x : Str} {py px : Pos} {elt iter : Expr} {scope : Scope} {own : List (Str × Nat)} {pos spos : Pos} {src : AF} {te : EF} (hc : X.calm = true) (hN : X.N.Nodup) (hy : X.N[i]? = some y) (hyl : X.env.scope.names.lookup y = some .local)
    (hsw : swapsWith (.ListComp elt [⟨.Name x px, iter, [], 0⟩] scope pos) (some (.Name y py)) spos.line X.env = pure true) (hi : II X (.Name x px) iter src) (ok : BlkOk X.N X.env.scope scope own) (hx : X.N[i0]? = some x) (hxl : scope.names.lookup x = some .local) (hix : i0 ∈ own.map (·.2))
    (he : ∀ (s : Shared) (H : Hp) (C : Addr) (cl : List (Str × Addr)) (fp : List Addr), IET (X.blk s H scope (compEnvC scope cl C X.env) fp) elt te) (fold : ∀ x, foldedSetIterable iter X.env x = pure x := by intro _; rfl) :
    IS X (.Assign [.Name y py] (.ListComp elt [⟨.Name x px, iter, [], 0⟩] scope pos) spos) (cSetO i (cLc src (gN i0) cYes te (own.map (·.2)))) := by
  refine ⟨fun {Zx Z F φ L ρ σ H o} hs ss h D q => ?_⟩
  let eW : TE := fun σ H Q => ∀ (s : Shared) (H0 : Hp) (C : Addr) (cl : List (Str × Addr)) (fp : List Addr), WpET (X.blk s H0 scope (compEnvC scope cl C X.env) fp) elt σ H Q
  unfold cSetO at h
  split at h
  · cases h
  rename_i m L1 e1
  split at h
  · rename_i hi'
    simp only [Option.some.injEq] at h
    subst h
    have rd : tLc (WpI X (.Name x px) iter) (gName i0) (fun _ H Q => Q true H) eW (own.map (·.2)) σ H (fun v H1 => gName i v σ H1 D.nx) := by
      refine lc_run (ix := [i0]) (ifs := []) (elt := elt) (scope := scope) hi (fun k hk => by rw [List.mem_singleton] at hk; rw [hk]; exact hix) (gName i0) (fun _ H Q => Q true H) eW ?_ ?_ ?_ hs ss e1 _ fun F1 φ1 H1 p o s1 p1 z hs1 r1 => ?_
      · intro Zx Z F φ L ρ ρ' σ H w v h1 h2 h3 h4 Q q
        unfold gN at h4
        split at h4
        · rename_i hl
          simp only [Option.some.injEq] at h4
          subst h4
          exact q _ (h2.setva hl h3) fun vs hv => wipe_set (hv i0 (by simp))
        · cases h4
      · intro Zx Z F φ L ρ σ H w L' h1 h2 h3 Q q
        simp only [cYes, Option.some.injEq, Prod.mk.injEq] at h3
        obtain ⟨rfl, rfl⟩ := h3
        exact q F φ H (Sub.refl F) (List.prefix_refl φ) h1
      · intro _ _ _ _ _ _ _ _ _ _ h1 h2 h3 Q q s H0 C cl fp
        exact (he s H0 C cl fp).run h1 h2 h3 Q q
      · exact q _ F1 φ1 _ H1 s1 p1 hs1 ((ss.mono s1 p1).setow hi' z r1)
    intro pins s I
    rw [exec_Assign_Name_used _ _ _ _ hsw]
    refine wpAny_bind (wpAny_standAt (wpAny_bind ?_))
    show wpAny _ X.A (do let _ ← comprehension (.ListComp elt [⟨.Name x px, iter, [], 0⟩] scope pos) scope X.env (firstIterPos [⟨.Name x px, iter, [], 0⟩] pos) (newList []) false (eval iter X.env) (some (assign (.Name y py) X.env))) _ _ s
    refine wpAny_bind (thn (lcN_core (Qf := fun _ s' => SP X pins D .next s') hc hN I wpI ok hx hxl (fun s H C cl fp σ H1 Q z => z s H C cl fp) fold rd fun B C s' m H' I' qq hn fr => ?_) fun _ s' z => wpAny_pure (wpAny_pure z))
    show wpAny _ _ (assign (.Name y py) X.env (.ref B)) _ _ _
    refine wpAny_assign_Name (store_ok2 (v := V.ref B) I' hN hy (.inl hyl) rfl (fun s2 I2 ⟨a, sb, ha⟩ => ?_) (.inr hyl))
    obtain ⟨f0, f1, f2, f3, f4, f5⟩ := fr
    have ne : C ≠ a := ha.elim (fun z => by rw [z]; exact f1) fun z e => f4 y a z e.symm
    exact ⟨m, hn.sameBut sb ne, fun h3 sb3 => ⟨_, H', I2.turned (t' := s2.toks) (fun b o hb e => (sb3.2 b hb).trans e) f0 f1 f3 f4 f5, qq⟩⟩
  · cases h
end
/-! ### s.index(t), where it is found -/
def cSIdx (fs ft : EF) : EF := fun ρ L => match fs ρ L with
  | some (.str s, L1) => (match ft ρ L1 with
    | some (.str t, L2) => (match Builtin.Str.occurrences s t 0 s.length 1 with
      | i :: _ => some (.int (i : Nat), L2)
      | [] => none)
    | _ => none)
  | _ => none
section
variable {X : Cx} {o e : Expr} {pos : Pos}
theorem ie_sindex {fs ft : EF} {apos : Pos} (h1 : IE X o fs) (h2 : IE X e ft) (hs0 : starEach [e] X.env = [(false, eval e X.env)] := by rfl) (hbase : attributeBase o "index" X.env (eval o X.env) = eval o X.env := by rfl) (hline : (apos.endLine == pos.line) = true := by rfl) :
    IE X (.Call (.Attribute o "index" apos) [e] [] pos) (cSIdx fs ft) := by
  refine ⟨fun {Zx Z F φ L ρ σ H w L'} hs ss h Q q => PE.wp (pe_m1 PySem.F.slot_str_index PySem.F.type_str_index mt_sindex wpE wpE hs0 hbase hline) ?_⟩
  unfold cSIdx at h
  split at h
  · rename_i s L1 e1
    split at h
    · rename_i t L2 e2
      split at h
      · rename_i i rest e3
        simp only [Option.some.injEq, Prod.mk.injEq] at h
        obtain ⟨rfl, rfl⟩ := h
        refine h1.run hs ss e1 _ fun F1 φ1 H1 x s1 p1 hs1 r1 => ?_
        cases r1
        refine ⟨⟨_, rfl⟩, ?_⟩
        refine h2.run hs1 (ss.mono s1 p1) e2 _ fun F2 φ2 H2 y s2 p2 hs2 r2 => ?_
        cases r2
        exact ⟨_, _, _, _, rfl, rfl, e3, q F2 φ2 H2 _ (s1.trans s2) (List.IsPrefix.trans p1 p2) hs2 (.int _)⟩
      · cases h
    · cases h
  · cases h
end
end Lf

set_option maxHeartbeats 4000000
/-! Lf, part AM: s.rstrip(..), s.isdigit(), xs.extend(..), [..] * n. -/
namespace Lf
open PySem PySem.Spec PyProof.Rows L2
section
variable {X : Cx} {o e a b : Expr} {pos : Pos}
/-- s.rstrip(t) -/
def cRstrip (fs ft : EF) : EF := fun ρ L => match fs ρ L with
  | some (.str s, L1) => (match ft ρ L1 with
    | some (.str t, L2) => if s.length < 16777216 then some (.str (Txt.rstripChars s t), L2) else none
    | _ => none)
  | _ => none
@[simp] theorem e_cRstrip (fs ft : EF) (ρ : Ro) (L : Lg) : cRstrip fs ft ρ L = (match fs ρ L with
  | some (.str s, L1) => (match ft ρ L1 with
    | some (.str t, L2) => if s.length < 16777216 then some (.str (Txt.rstripChars s t), L2) else none
    | _ => none)
  | _ => none) := id rfl
theorem ie_rstrip {fs ft : EF} {apos : Pos} (h1 : IE X o fs) (h2 : IE X e ft) (hs0 : starEach [e] X.env = [(false, eval e X.env)] := by rfl) (hbase : attributeBase o "rstrip" X.env (eval o X.env) = eval o X.env := by rfl) (hline : (apos.endLine == pos.line) = true := by rfl) :
    IE X (.Call (.Attribute o "rstrip" apos) [e] [] pos) (cRstrip fs ft) := by
  refine ⟨fun {Zx Z F φ L ρ σ H w L'} hs ss h Q q => PE.wp (pe_m1 PySem.F.slot_str_rstrip PySem.F.type_str_rstrip mt_rstripChars wpE wpE hs0 hbase hline) ?_⟩
  unfold cRstrip at h
  split at h
  · rename_i s L1 e1
    split at h
    · rename_i t L2 e2
      split at h
      · rename_i hz
        simp only [Option.some.injEq, Prod.mk.injEq] at h
        obtain ⟨rfl, rfl⟩ := h
        refine h1.run hs ss e1 _ fun F1 φ1 H1 x s1 p1 hs1 r1 => ?_
        cases r1
        refine ⟨⟨_, rfl⟩, ?_⟩
        refine h2.run hs1 (ss.mono s1 p1) e2 _ fun F2 φ2 H2 y s2 p2 hs2 r2 => ?_
        cases r2
        exact ⟨_, _, rfl, rfl, by rw [sizeLine_eq]; omega, q F2 φ2 H2 _ (s1.trans s2) (List.IsPrefix.trans p1 p2) hs2 (.str _)⟩
      · cases h
    · cases h
  · cases h
/-- s.isdigit() -/
def cIsDig (fs : EF) : EF := fun ρ L => match fs ρ L with
  | some (.str s, L1) => some (.bl (Txt.isdigit s), L1)
  | _ => none
@[simp] theorem e_cIsDig (fs : EF) (ρ : Ro) (L : Lg) : cIsDig fs ρ L = (match fs ρ L with
  | some (.str s, L1) => some (.bl (Txt.isdigit s), L1)
  | _ => none) := id rfl
theorem ie_isdigit {fs : EF} {apos : Pos} (h1 : IE X o fs) (hbase : attributeBase o "isdigit" X.env (eval o X.env) = eval o X.env := by rfl) (hline : (apos.endLine == pos.line) = true := by rfl) :
    IE X (.Call (.Attribute o "isdigit" apos) [] [] pos) (cIsDig fs) := by
  refine ⟨fun {Zx Z F φ L ρ σ H w L'} hs ss h Q q => PE.wp (pe_m0 PySem.F.slot_str_isdigit PySem.F.type_str_isdigit mt_isdigit wpE hbase hline) ?_⟩
  unfold cIsDig at h
  split at h
  · rename_i s L1 e1
    simp only [Option.some.injEq, Prod.mk.injEq] at h
    obtain ⟨rfl, rfl⟩ := h
    refine h1.run hs ss e1 _ fun F1 φ1 H1 x s1 p1 hs1 r1 => ?_
    cases r1
    exact ⟨⟨_, rfl⟩, _, rfl, rfl, trivial, q F1 φ1 H1 _ s1 p1 hs1 (.bl _)⟩
  · cases h
/-- [..] * n, the list a new one -/
def nRep (fa : NF) (fb : EF) : NF := fun ρ L => match fa ρ L with
  | some (.lst ws, L1) => (match fb ρ L1 with
    | some (.int k, L2) => if k < 1000000 ∧ -1000000 < k ∧ ws.length ≤ 1 then some (.lst (List.replicate k.toNat ws).flatten, L2) else none
    | _ => none)
  | _ => none
@[simp] theorem e_nRep (fa : NF) (fb : EF) (ρ : Ro) (L : Lg) : nRep fa fb ρ L = (match fa ρ L with
  | some (.lst ws, L1) => (match fb ρ L1 with
    | some (.int k, L2) => if k < 1000000 ∧ -1000000 < k ∧ ws.length ≤ 1 then some (.lst (List.replicate k.toNat ws).flatten, L2) else none
    | _ => none)
  | _ => none) := id rfl
theorem Rs.reps {K : PySem.W.Frag} {F : Hp} {φ : List Addr} {ws : List W} {vs : List V} (r : Rs K F φ ws vs) : ∀ n : Nat, Rs K F φ (List.replicate n ws).flatten (List.replicate n vs).flatten
  | 0 => .nil
  | n + 1 => by
    rw [List.replicate_succ, List.replicate_succ, List.flatten_cons, List.flatten_cons]
    exact Rs.append r (Rs.reps r n)
theorem Ss.newZ {K : PySem.W.Frag} {Zx Z F : Hp} {φ : List Addr} {ρ : Ro} {σ : L2.St} {p : Addr} {o : HO} (h : Ss K Zx Z F φ ρ σ) (z : Z p = none) : Ss K Zx (upd Z p o) F φ ρ σ := by
  have s : Sub Z (upd Z p o) := Sub.new z
  exact ⟨h.len, h.va, fun i m e => let ⟨a, o', h1, h2, h3, h4⟩ := h.ow i m e; ⟨a, o', h1, s _ _ h2, h3, h4⟩, h.sep, h.out.trans s⟩
theorem in_rep {fa : NF} {fb : EF} (ha : IN X a fa) (hb : IE X b fb) : IN X (.BinOp a .Mult b pos) (nRep fa fb) := by
  refine ⟨fun {Zx Z F φ L ρ σ H m L'} hs ss h Q q => PE.wp (pe_op op_rep wpE wpE) ?_⟩
  unfold nRep at h
  split at h
  · rename_i ws L1 e1
    split at h
    · rename_i k L2 e2
      split at h
      · rename_i hz
        simp only [Option.some.injEq, Prod.mk.injEq] at h
        obtain ⟨rfl, rfl⟩ := h
        refine ha.run hs ss e1 _ fun F1 φ1 H1 p o s1 p1 z hs1 m1 => ?_
        cases o <;> first | exact m1.elim | skip
        rename_i vs
        have r1 : Rs X.K F1 φ1 ws vs := m1
        refine hb.run hs1 ((ss.mono s1 p1).newZ z) e2 _ fun F2 φ2 H2 y s2 p2 hs2 r2 => ?_
        cases r2
        have hH := (hs2.ext p _ upd_same).1
        refine ⟨p, k, vs, rfl, rfl, hH, by omega, by omega, ?_, fun p3 hp3 => ?_⟩
        · rw [sizeLine_eq, ← r1.length]
          obtain ⟨z1, z2, z3⟩ := hz
          have : k.toNat < 1000000 := by omega
          have : ws.length * k.toNat ≤ 1 * k.toNat := Nat.mul_le_mul_right _ z3
          omega
        · have hs3 := (hs2.weak (Sub.new z)).fresh (o := .lst (List.replicate k.toNat vs).flatten) hp3
          have z3 := ((hs2.weak (Sub.new z)).free hp3).2.1
          exact q F2 φ2 _ p3 _ (s1.trans s2) (List.IsPrefix.trans p1 p2) z3 hs3 (Rs.reps (r1.mono s2 p2) k.toNat)
      · cases h
    · cases h
  · cases h
/-- xs.extend(e), xs of the name's own, e a new list -/
def cExt (i : Nat) (f : NF) : SF := fun ρ L => match f ρ L with
  | some (.lst us, L') => (match ρ[i]? with
    | some (.ow (.lst ws)) => if ws.length + us.length < 16777216 then some (.nx (ρ.set i (.ow (.lst (ws ++ us)))) L') else none
    | _ => none)
  | _ => none
@[simp] theorem e_cExt (i : Nat) (f : NF) (ρ : Ro) (L : Lg) : cExt i f ρ L = (match f ρ L with
  | some (.lst us, L') => (match ρ[i]? with
    | some (.ow (.lst ws)) => if ws.length + us.length < 16777216 then some (.nx (ρ.set i (.ow (.lst (ws ++ us)))) L') else none
    | _ => none)
  | _ => none) := id rfl
theorem is_ext (i : Nat) {x : Str} {px apos cpos : Pos} {f : NF} (he : IN X e f) (hN : X.N[i]? = some x := by rfl) (hv : Vis X.env.scope x := by first | exact Or.inl rfl | exact Or.inr (Or.inl rfl) | exact Or.inr (Or.inr rfl)) (hd : (x == ("__debug__" : Str)) = false := by decide)
    (hcd : (x == ("__classdict__" : Str)) = false := by decide) (hs' : swapsWith (.Call (.Attribute (.Name x px) "extend" apos) [e] [] cpos) none pos.line X.env = pure false := by rfl)
    (hb : attributeBase (.Name x px) "extend" X.env (eval (.Name x px) X.env) = eval (.Name x px) X.env := by rfl)
    (hfew : ((backTo cpos (starEach (e :: []) X.env)).all (fun x => !x.1) && (backToKw cpos (keywordEach [] X.env)).all (fun x => x.1.isSome)
      && decide ((e :: []).length + ([] : List Keyword).length + (if ([] : List Keyword).isEmpty then 0 else 1) < 30)) = true := by rfl)
    (hline : (apos.endLine == cpos.line) = true := by rfl) (hst : starEach (e :: []) X.env = (false, eval e X.env) :: starEach [] X.env := by rfl) (hplain : (backTo cpos (starEach [] X.env)).any (·.1) = false := by rfl) :
    IS X (.Expr (.Call (.Attribute (.Name x px) "extend" apos) [e] [] cpos) pos) (cExt i f) := by
  refine ⟨fun {Zx Z F φ L ρ σ H o} hs ss h D q => PS.wp (ps_expr (pe_bm PySem.F.plainAttrs_list PySem.F.slot_list_extend PySem.F.type_list_extend mt_extend (pe_var hN hv hd hcd) (pa_cons wpE pa_nil hst) hb hfew hline hst hplain) hs') ?_⟩
  unfold cExt at h
  split at h
  · rename_i us L1 e1
    split at h
    · rename_i ws e2
      split at h
      · rename_i hz
        simp only [Option.some.injEq] at h
        subst h
        obtain ⟨p, ho, h1, h2, h3, h4⟩ := ss.ow i _ e2
        have hH := (hs.ext p ho h2).1
        cases ho <;> first | exact h4.elim | skip
        rename_i vs
        refine ⟨_, h1, .inl ⟨rfl, _, SqL.of hH⟩, ?_⟩
        refine he.run hs ss e1 _ fun F1 φ1 H1 p2 o2 s1 p1 z hs1 m2 => ?_
        cases o2 <;> first | exact m2.elim | skip
        rename_i us'
        have ru : Rs X.K F1 φ1 us us' := m2
        have ne : p ≠ p2 := fun e => by subst e; rw [z] at h2; cases h2
        have h2' : (upd Z p2 (.lst us')) p = some (.lst vs) := by rw [upd_ne ne]; exact h2
        have hH1 := (hs1.ext p _ h2').1
        have hH2 := (hs1.ext p2 _ upd_same).1
        have rv : Rs X.K F φ ws vs := h4
        refine ⟨p, p2, vs, us', rfl, rfl, hH1, hH2, by rw [← rv.length, ← ru.length, sizeLine_eq]; omega, ?_⟩
        have m3 : MOk X.K F1 φ1 (.lst (ws ++ us)) (.lst (vs ++ us')) := Rs.append (rv.mono s1 p1) ru
        have hs2 := hs1.turn (o' := .lst (vs ++ us')) h2'
        have sb : Sub (upd Z p (.lst (vs ++ us'))) (upd (upd Z p2 (.lst us')) p (.lst (vs ++ us'))) := fun a u e => by
          by_cases ea : a = p
          · subst ea; rw [upd_same] at e ⊢; exact e
          · rw [upd_ne ea] at e ⊢
            rw [upd_ne]
            · exact e
            · intro z'; subst z'; rw [z] at e; cases e
        exact q _ F1 φ1 σ _ s1 p1 (hs2.weak sb) ((ss.mono s1 p1).turn e2 h1 m3)
      · cases h
    · cases h
  · cases h
/-- xs == e, xs of the name's own -/
def cEqOwn (neg : Bool) (i : Nat) (fb : EF) : TF := fun ρ L => match ρ[i]? with
  | some (.ow m) => (match fb ρ L with
    | some (y, L') => (match eqB m.fz y with
      | some k => some (k != neg, L')
      | none => none)
    | none => none)
  | _ => none
@[simp] theorem e_cEqOwn (neg : Bool) (i : Nat) (fb : EF) (ρ : Ro) (L : Lg) : cEqOwn neg i fb ρ L = (match ρ[i]? with
  | some (.ow m) => (match fb ρ L with
    | some (y, L') => (match eqB m.fz y with
      | some k => some (k != neg, L')
      | none => none)
    | none => none)
  | _ => none) := id rfl
theorem eqOwn_run {neg : Bool} {i : Nat} {fb : EF} {x : Str} {p : Pos} {op : CmpOp} {r : R2} (ho : OpR X (compareOp op) r) (hr : ∀ {x y : V} {H : Hp} {k : Bool} {Q : VK}, ((scal x y = true ∧ decide (x = y) = k) ∨ ∃ d e, Dp X.K H x d ∧ Dp X.K H y e ∧ SeqAt.shaped d = true ∧ SeqAt.shaped e = true ∧ PyData.eqv d e = k) → Q (.bl (k != neg)) H → r x y H Q)
    (hb : IE X b fb) (hN : X.N[i]? = some x) (hv : Vis X.env.scope x) (hd : (x == ("__debug__" : Str)) = false) (hcd : (x == ("__classdict__" : Str)) = false) (hm : behindInMarks op b = false) : IT X (.Compare (.Name x p) [op] [b] pos) (cEqOwn neg i fb) := by
  refine ⟨fun {Zx Z F φ L ρ σ H w L'} hs ss h Q q => PT.wp (pt_cmpR ho (pe_var hN hv hd hcd) wpE hm) ?_⟩
  unfold cEqOwn at h
  split at h
  · rename_i m e0
    split at h
    · rename_i y L1 e1
      split at h
      · rename_i k e2
        simp only [Option.some.injEq, Prod.mk.injEq] at h
        obtain ⟨rfl, rfl⟩ := h
        obtain ⟨p, o, h1, h2, h3, h4⟩ := ss.ow i m e0
        refine ⟨_, h1, ?_⟩
        refine hb.run hs ss e1 _ fun F1 φ1 H1 vy s1 p1 hs1 ry => ?_
        obtain ⟨g1, g2, g3, g4⟩ := hs1.ext p o h2
        have sb : Sub F1 (upd F1 p o) := Sub.new g2
        have sH : Sub (upd F1 p o) H1 := fun a u e => by
          by_cases q : a = p
          · subst q; rw [upd_same] at e; cases e; exact g1
          · rw [upd_ne q] at e; exact hs1.sub a u e
        refine hr (eqB_ok sH ((h4.mono (s1.trans sb) p1).fz upd_same) (ry.mono sb (List.prefix_refl φ1)) e2) ?_
        exact ⟨_, rfl, q F1 φ1 H1 s1 p1 hs1⟩
      · cases h
    · cases h
  · cases h
theorem it_eqOwn (i : Nat) {fb : EF} {x : Str} {p : Pos} (hu : X.A.units + 64 < cLine) (hb : IE X b fb) (hN : X.N[i]? = some x := by rfl) (hv : Vis X.env.scope x := by first | exact Or.inl rfl | exact Or.inr (Or.inl rfl) | exact Or.inr (Or.inr rfl)) (hd : (x == ("__debug__" : Str)) = false := by decide)
    (hcd : (x == ("__classdict__" : Str)) = false := by decide) : IT X (.Compare (.Name x p) [.Eq] [b] pos) (cEqOwn false i fb) :=
  eqOwn_run (orR op_eq (op_eqD hu)) (fun {x y H k Q} h q => by
    rcases h with ⟨h1, h2⟩ | ⟨d, e', h1, h2, h3, h4, h5⟩
    · exact .inl ⟨h1, by rw [h2]; simpa using q⟩
    · exact .inr ⟨d, e', h1, h2, h3, h4, by rw [h5]; simpa using q⟩) hb hN hv hd hcd (nomark _)
end
end Lf

set_option maxHeartbeats 4000000
/-! Lf, part AN: a < b of lists and tuples that are alike. -/
namespace Lf
open PySem PySem.Spec PyProof.Rows L2
def rLtD (K : PySem.W.Frag) : R2 := fun x y H Q => ∃ d e, Dp K H x d ∧ Dp K H y e ∧ PySem.W.alike d e = true ∧ d ≠ .none ∧ d.depth ≤ 32 ∧ Q (.bl (PySem.W.dataLt d e)) H
theorem op_ltD {X : Cx} (hu : X.A.units + 100 < cLine) : OpR X (compareOp .Lt) (rLtD X.K) := by
  intro pins s σ H x y v u Q I rx ry h
  obtain ⟨d, e, hd, he, al, nn, dp, q⟩ := h
  obtain ⟨as, r1⟩ := Dp.reads I d x v hd rx
  obtain ⟨bs, r2⟩ := Dp.reads I e y u he ry
  have hr := PySem.W.rcLt_alike d e X.A s v u as bs r1 r2 al nn (by have : min d.depth e.depth ≤ d.depth := Nat.min_le_left _ _; omega)
  exact hr X.prog X.w _ _ ⟨.bl _, H, I, rfl, q⟩
def notNone : PyData → Bool
  | .none => false
  | _ => true
def ltOk (d e : PyData) : Bool := PySem.W.alike d e && notNone d && decide (d.depth ≤ 32)
def ltW (x y : W) : Option W := match toD x, toD y with
  | some d, some e => if ltOk d e = true then some (.bl (PySem.W.dataLt d e)) else none
  | _, _ => none
section
variable {X : Cx} {e a b : Expr} {pos : Pos}
theorem op2_lt : Op2 X (rLtD X.K) ltW := by
  intro Z F φ L H x y w vx vy hs rx ry h Q q
  unfold ltW at h
  split at h
  · rename_i d e e1 e2
    split at h
    · rename_i hz
      unfold ltOk at hz
      simp only [Bool.and_eq_true, decide_eq_true_eq] at hz
      obtain ⟨⟨z1, z2⟩, z3⟩ := hz
      cases h
      refine ⟨d, e, rx.dp hs.sub e1, ry.dp hs.sub e2, z1, ?_, z3, flat hs (.bl _) q⟩
      rintro rfl
      cases z2
    · cases h
  · cases h
theorem ie_ltD {fa fb : EF} (hu : X.A.units + 100 < cLine) (ha : IE X a fa) (hb : IE X b fb) : IE X (.Compare a [.Lt] [b] pos) (cOp ltW fa fb) := ie_cmp (op_ltD hu) op2_lt ha hb (nomark _)
theorem it_ltD {fa fb : EF} (hu : X.A.units + 100 < cLine) (ha : IE X a fa) (hb : IE X b fb) : IT X (.Compare a [.Lt] [b] pos) (asT (cOp ltW fa fb)) := it_cmp (op_ltD hu) op2_lt ha hb (nomark _)
end
end Lf

set_option maxHeartbeats 4000000
/-! Lf, part AO: defs that raise, try .. except. -/
namespace Lf
open PySem PySem.Spec PyProof.Rows L2
abbrev DX := List W → Lg → Option (Option W × Lg)
abbrev XF := Ro → Lg → Option (Option W × Lg)
abbrev XAF := Ro → Lg → Option (Option (List W) × Lg)
def ReOk (K : PySem.W.Frag) (mg : Str → Option Value) (Z F : Hp) (φ : List Addr) (Q : VK) (E : Hp → Prop) : Option W × Lg → Prop
  | (some w, L') => ∀ (Z' F' : Hp) (φ' : List Addr) (H' : Hp) (v : V), Sub F F' → φ <+: φ' → Sub Z Z' → Hs K mg Z' F' φ' L' H' → R K F' φ' w v → Q v H'
  | (none, L') => ∀ (Z' F' : Hp) (φ' : List Addr) (H' : Hp), Sub F F' → φ <+: φ' → Sub Z Z' → Hs K mg Z' F' φ' L' H' → E H'
def spX (K : PySem.W.Frag) (mg : Str → Option Value) (C : Addr) (n : Nat) (d : DX) : Sp := fun vs H Q E => ∃ (Z F : Hp) (φ : List Addr) (L : Lg) (ws : List W) (r : Option W × Lg), Hs K mg Z F φ L H ∧ Rs K F φ ws vs ∧ ws.length = n ∧ d ws L = some r ∧ ReOk K mg Z F φ Q (E (.ref C) none) r
def ReEnd (X : Cx) (Zx Z F : Hp) (φ : List Addr) (Q : VK) (E : Hp → Prop) : Option W × Lg → Prop
  | (some w, L') => ∀ (F' : Hp) (φ' : List Addr) (H' : Hp) (v : V), Sub F F' → φ <+: φ' → Hs X.K X.mg Z F' φ' L' H' → R X.K F' φ' w v → Q v H'
  | (none, L') => ∀ (Z' F' : Hp) (φ' : List Addr) (H' : Hp), Sub F F' → φ <+: φ' → Sub Zx Z' → Hs X.K X.mg Z' F' φ' L' H' → E H'
def ReEndA (X : Cx) (Zx Z F : Hp) (φ : List Addr) (Q : List V → Hp → Prop) (E : Hp → Prop) : Option (List W) × Lg → Prop
  | (some ws, L') => ∀ (F' : Hp) (φ' : List Addr) (H' : Hp) (vs : List V), Sub F F' → φ <+: φ' → Hs X.K X.mg Z F' φ' L' H' → Rs X.K F' φ' ws vs → Q vs H'
  | (none, L') => ∀ (Z' F' : Hp) (φ' : List Addr) (H' : Hp), Sub F F' → φ <+: φ' → Sub Zx Z' → Hs X.K X.mg Z' F' φ' L' H' → E H'
abbrev wE (E : XK) : WX := fun cls d _ H => E cls d H
structure IEX (X : Cx) (C : Addr) (E : XK) (e : Expr) (f : XF) : Prop where
  run : ∀ {Zx Z F : Hp} {φ : List Addr} {L : Lg} {ρ : Ro} {σ : L2.St} {H : Hp} {r : Option W × Lg}, Hs X.K X.mg Z F φ L H → Ss X.K Zx Z F φ ρ σ → f ρ L = some r → ∀ Q : VK, ReEnd X Zx Z F φ Q (E (.ref C) none) r → Wp X e σ H Q
structure IAX (X : Cx) (C : Addr) (E : XK) (es : List Expr) (f : XAF) : Prop where
  run : ∀ {Zx Z F : Hp} {φ : List Addr} {L : Lg} {ρ : Ro} {σ : L2.St} {H : Hp} {r : Option (List W) × Lg}, Hs X.K X.mg Z F φ L H → Ss X.K Zx Z F φ ρ σ → f ρ L = some r → ∀ Q : List V → Hp → Prop, ReEndA X Zx Z F φ Q (E (.ref C) none) r → WpA X es σ H Q
/-- a def that may raise an exception of the class at C -/
structure DefX (P : Program) (w : World) (K : PySem.W.Frag) (mg : Str → Option Value) (base : Heap) (k : Nat) (x : Str) (C : Addr) (ps : List Str) (d : DX) : Prop where
  ex : ∃ (f : Addr) (fd : FuncData), FnOk P w K mg base (L2.CX P w) k f fd ps (spX K mg C ps.length d) ∧ mg x = some (.ref f) ∧ PySem.W.keepIn K (.ref f) = true ∧ Binds K fd ps []
section
variable {X : Cx} {C : Addr} {E : XK} {e a b : Expr} {es : List Expr} {pos : Pos}
def cXCall (d : DX) (g : AF) : XF := fun ρ L => match g ρ L with
  | none => none
  | some (ws, L1) => d ws L1
theorem iex_call {k j : Nat} {x : Str} {p : Pos} {ps : List Str} {d : DX} {g : AF} (G : DefX X.prog X.w X.K X.mg X.base k x C ps d) (hr : Room j X.A) (hkj : k ≤ j) (hg : Gl X x) (tk : Takes X (wE E)) (ha : IA X (e :: es) g) (hn : ∀ ρ L ws L', g ρ L = some (ws, L') → ws.length = ps.length)
    (hdb : (x == ("__debug__" : Str)) = false := by decide) (he : starEach (e :: es) X.env = (false, eval e X.env) :: starEach es X.env := by rfl) (hpl : (backTo pos (starEach es X.env)).any (·.1) = false := by rfl) :
    IEX X C E (.Call (.Name x p) (e :: es) [] pos) (cXCall d g) := by
  obtain ⟨f, fd, F, hm, hk, hb⟩ := G.ex
  refine ⟨fun {Zx Z F1 φ L ρ σ H r} hs ss h Q q => PE.wp (pe_callS (E := WE (wE E)) F (hr.mono hkj) hg hm hk hb (fun σ => passAt tk σ) wpA hdb he hpl) ?_⟩
  unfold cXCall at h
  split at h
  · cases h
  rename_i ws L1 e1
  refine ha.run hs ss e1 _ fun F2 φ2 H2 vs s2 p2 hs2 r2 => ?_
  refine ⟨Z, F2, φ2, L1, ws, r, hs2, r2, hn _ _ _ _ e1, h, ?_⟩
  obtain ⟨rw_, L'⟩ := r
  cases rw_ with
  | some w => exact fun Z' F' φ' H' v s3 p3 z hs3 r3 => q F' φ' H' v (s2.trans s3) (List.IsPrefix.trans p2 p3) (hs3.weak z) r3
  | none => exact fun Z' F' φ' H' s3 p3 z hs3 => q Z' F' φ' H' (s2.trans s3) (List.IsPrefix.trans p2 p3) (ss.out.trans z) hs3
def xOf (f : EF) : XF := fun ρ L => match f ρ L with
  | some (w, L') => some (some w, L')
  | none => none
theorem IE.iex {f : EF} (h : IE X e f) : IEX X C E e (xOf f) := by
  refine ⟨fun {Zx Z F1 φ L ρ σ H r} hs ss h' Q q => ?_⟩
  unfold xOf at h'
  split at h'
  · rename_i w L1 e1
    simp only [Option.some.injEq] at h'
    subst h'
    exact h.run hs ss e1 Q q
  · cases h'
def cXNil : XAF := fun _ L => some (some [], L)
def cXCons (f : XF) (g : XAF) : XAF := fun ρ L => match f ρ L with
  | some (some w, L1) => (match g ρ L1 with
    | some (some ws, L2) => some (some (w :: ws), L2)
    | some (none, L2) => some (none, L2)
    | none => none)
  | some (none, L1) => some (none, L1)
  | none => none
theorem iax_nil : IAX X C E [] cXNil := by
  refine ⟨fun {Zx Z F φ L ρ σ H r} hs ss h Q q => PA.wp pa_nil ?_⟩
  simp only [cXNil, Option.some.injEq] at h
  subst h
  exact q F φ H [] (Sub.refl F) (List.prefix_refl φ) hs .nil
theorem iax_cons {f : XF} {g : XAF} (ha : IEX X C E e f) (hr : IAX X C E es g) (hs' : starEach (e :: es) X.env = (false, eval e X.env) :: starEach es X.env := by rfl) : IAX X C E (e :: es) (cXCons f g) := by
  refine ⟨fun {Zx Z F φ L ρ σ H r} hs ss h Q q => PA.wp (pa_cons wpE wpA hs') ?_⟩
  unfold cXCons at h
  split at h
  · rename_i w L1 e1
    refine ha.run hs ss e1 _ ?_
    intro F1 φ1 H1 v s1 p1 hs1 r1
    split at h
    · rename_i ws L2 e2
      simp only [Option.some.injEq] at h
      subst h
      refine hr.run hs1 (ss.mono s1 p1) e2 _ ?_
      intro F2 φ2 H2 vs s2 p2 hs2 r2
      exact q F2 φ2 H2 (v :: vs) (s1.trans s2) (List.IsPrefix.trans p1 p2) hs2 (.cons (r1.mono s2 p2) r2)
    · rename_i L2 e2
      simp only [Option.some.injEq] at h
      subst h
      refine hr.run hs1 (ss.mono s1 p1) e2 _ ?_
      intro Z2 F2 φ2 H2 s2 p2 z hs2
      exact q Z2 F2 φ2 H2 (s1.trans s2) (List.IsPrefix.trans p1 p2) z hs2
    · cases h
  · rename_i L1 e1
    simp only [Option.some.injEq] at h
    subst h
    refine ha.run hs ss e1 _ ?_
    exact q
  · cases h
/-- C(..), its arguments may raise -/
def cXMake (c : Str) (d : DF) (g : XAF) : XF := fun ρ L => match g ρ L with
  | none => none
  | some (none, L1) => some (none, L1)
  | some (some ws, L1) => match d (.ob L1.length :: ws) (L1 ++ [.ins c []]) with
    | some (.non, L2) => some (some (.ob L1.length), L2)
    | _ => none
theorem iex_make {c : Str} {k j : Nat} {ps : List Str} {d : DF} {g : XAF} {p : Pos} (D : MakD X.prog X.w X.K X.mg X.base k c ps d) (hr : Room j X.A) (hkj : k + 1 ≤ j) (hg : Gl X c) (ha : IAX X C E (e :: es) g) (hn : ∀ ρ L ws L', g ρ L = some (some ws, L') → ws.length + 1 = ps.length)
    (hdb : (c == ("__debug__" : Str)) = false := by decide) (he : starEach (e :: es) X.env = (false, eval e X.env) :: starEach es X.env := by rfl) (hpl : (backTo pos (starEach es X.env)).any (·.1) = false := by rfl) :
    IEX X C E (.Call (.Name c p) (e :: es) [] pos) (cXMake c d g) := by
  obtain ⟨C0, f, fd, cd, mk, F0, hb⟩ := D.ex
  refine ⟨fun {Zx Z F φ L ρ σ H r} hs ss h Q q => PE.wp (pe_make (E := E0) (dvs := []) mk F0 (hr.mono hkj) hg cd.at_ hb .nil pass0 wpA hdb he hpl) ?_⟩
  unfold cXMake at h
  split at h
  · cases h
  · rename_i L1 e1
    simp only [Option.some.injEq] at h
    subst h
    exact ha.run hs ss e1 _ q
  · rename_i ws L1 e1
    refine ha.run hs ss e1 _ ?_
    intro F1 φ1 H1 us s1 p1 hs1 r1 x dx hx hdx hne
    split at h
    · rename_i L2 e2
      simp only [Option.some.injEq] at h
      subst h
      have hsD : Hs X.K X.mg Z F1 φ1 L1 (upd H1 dx (.own x)) := hs1.extra hdx
      have hx2 : upd H1 dx (.own x) x = none := by rw [upd_ne (fun z => hne z.symm)]; exact hx
      have f0 := (hsD.free hx2).1
      have hsN : Hs X.K X.mg Z F1 (φ1 ++ [x]) (L1 ++ [.ins c []]) (upd (upd H1 dx (.own x)) x (.ins C0 dx [])) := hsD.push hx2 NT.ins ⟨f0, C0, dx, [], cd.at_, upd_same, rfl, .nil⟩
      have pf : φ1 <+: φ1 ++ [x] := List.prefix_append _ _
      have hat : (φ1 ++ [x])[L1.length]? = some x := by rw [← hs1.len, List.getElem?_append_right (Nat.le_refl _)]; simp
      refine ⟨Z, F1, φ1 ++ [x], L1 ++ [.ins c []], .ob L1.length :: ws, .non, L2, hsN, by rw [List.append_nil]; exact .cons (.ob hat) (Rs.mono (Sub.refl F1) pf r1), by rw [List.length_cons]; exact hn _ _ _ _ e1, e2, fun Z' F' φ' H' v s3 p3 z hs3 r3 => ?_⟩
      cases r3
      exact ⟨rfl, q F' φ' H' (.ref x) (s1.trans s3) (List.IsPrefix.trans p1 (List.IsPrefix.trans pf p3)) (hs3.weak z) (.ob (pre_get p3 hat))⟩
    · cases h
theorem xlen_nil : ∀ (ρ : Ro) (L : Lg) (ws : List W) (L' : Lg), cXNil ρ L = some (some ws, L') → ws.length = 0 := fun ρ L ws L' h => by
  simp only [cXNil, Option.some.injEq, Prod.mk.injEq] at h
  rw [← h.1]; rfl
theorem xlen_cons {f : XF} {g : XAF} {n : Nat} (hg : ∀ ρ L ws L', g ρ L = some (some ws, L') → ws.length = n) : ∀ (ρ : Ro) (L : Lg) (ws : List W) (L' : Lg), cXCons f g ρ L = some (some ws, L') → ws.length = n + 1 := fun ρ L ws L' h => by
  unfold cXCons at h
  split at h
  · rename_i w L1 e1
    split at h
    · rename_i ws' L2 e2
      simp only [Option.some.injEq, Prod.mk.injEq] at h
      rw [← h.1, List.length_cons, hg _ _ _ _ e2]
    · simp at h
    · cases h
  · simp at h
  · cases h
theorem xlen_add1 {g : XAF} {n : Nat} (hg : ∀ ρ L ws L', g ρ L = some (some ws, L') → ws.length = n) : ∀ (ρ : Ro) (L : Lg) (ws : List W) (L' : Lg), g ρ L = some (some ws, L') → ws.length + 1 = n + 1 := fun ρ L ws L' h => by rw [hg _ _ _ _ h]
end
/-! ### statements that may raise -/
inductive OX where
  | ok (o : Out) | ex (L : Lg)
abbrev SX := Ro → Lg → Option OX
def EndX (X : Cx) (Zx F : Hp) (φ : List Addr) (D : Ends) (E : Hp → Prop) : OX → Prop
  | .ok o => EndOk X Zx F φ D o
  | .ex L' => ∀ (Z' F' : Hp) (φ' : List Addr) (H' : Hp), Sub F F' → φ <+: φ' → Sub Zx Z' → Hs X.K X.mg Z' F' φ' L' H' → E H'
theorem EndX.step {X : Cx} {Zx F F1 : Hp} {φ φ1 : List Addr} {D : Ends} {E : Hp → Prop} {o : OX} (s : Sub F F1) (p : φ <+: φ1) (h : EndX X Zx F φ D E o) : EndX X Zx F1 φ1 D E o := by
  cases o with
  | ok o => exact EndOk.step s p h
  | ex L => exact fun Z' F' φ' H' s' p' z hs => h Z' F' φ' H' (s.trans s') (List.IsPrefix.trans p p') z hs
structure ISX (X : Cx) (C : Addr) (E : XK) (st : Stmt) (f : SX) : Prop where
  run : ∀ {Zx Z F : Hp} {φ : List Addr} {L : Lg} {ρ : Ro} {σ : L2.St} {H : Hp} {o : OX}, Hs X.K X.mg Z F φ L H → Ss X.K Zx Z F φ ρ σ → f ρ L = some o → ∀ D : Ends, EndX X Zx F φ D (E (.ref C) none) o → WpS X st D σ H
structure ISsX (X : Cx) (C : Addr) (E : XK) (st : List Stmt) (f : SX) : Prop where
  run : ∀ {Zx Z F : Hp} {φ : List Addr} {L : Lg} {ρ : Ro} {σ : L2.St} {H : Hp} {o : OX}, Hs X.K X.mg Z F φ L H → Ss X.K Zx Z F φ ρ σ → f ρ L = some o → ∀ D : Ends, EndX X Zx F φ D (E (.ref C) none) o → WpSs X st D σ H
section
variable {X : Cx} {C : Addr} {E : XK} {st : Stmt} {rest : List Stmt} {e a b : Expr} {es : List Expr} {pos : Pos}
def sOk (f : SF) : SX := fun ρ L => match f ρ L with
  | some o => some (.ok o)
  | none => none
theorem IS.isx {f : SF} (h : IS X st f) : ISX X C E st (sOk f) := by
  refine ⟨fun {Zx Z F φ L ρ σ H o} hs ss h' D q => ?_⟩
  unfold sOk at h'
  split at h'
  · rename_i o1 e1
    simp only [Option.some.injEq] at h'
    subst h'
    exact h.run hs ss e1 D q
  · cases h'
def xSeq (f g : SX) : SX := fun ρ L => match f ρ L with
  | some (.ok (.nx ρ1 L1)) => g ρ1 L1
  | o => o
def xNx : SX := fun ρ L => some (.ok (.nx ρ L))
theorem issx_nil : ISsX X C E [] xNx := by
  refine ⟨fun {Zx Z F φ L ρ σ H o} hs ss h D q => PSs.wp pss_nil ?_⟩
  simp only [xNx, Option.some.injEq] at h
  subst h
  exact q Z F φ σ H (Sub.refl F) (List.prefix_refl φ) hs ss
theorem issx_cons {f g : SX} (h1 : ISX X C E st f) (h2 : ISsX X C E rest g) : ISsX X C E (st :: rest) (xSeq f g) := by
  refine ⟨fun {Zx Z F φ L ρ σ H o} hs ss h D q => PSs.wp (pss_cons wpS wpSs) ?_⟩
  unfold xSeq at h
  cases e1 : f ρ L with
  | none => rw [e1] at h; cases h
  | some o1 =>
    rw [e1] at h
    refine h1.run hs ss e1 { D with nx := WpSs X rest D } ?_
    cases o1 with
    | ok o1 =>
      cases o1 with
      | nx ρ1 L1 => exact fun Z1 F1 φ1 σ1 H1 s1 p1 hs1 ss1 => h2.run hs1 ss1 h D (q.step s1 p1)
      | bk ρ1 L1 => cases h; exact q
      | ct ρ1 L1 => cases h; exact q
      | rt w L1 => cases h; exact q
    | ex L1 => cases h; exact q
theorem issx_one {f : SX} (h1 : ISX X C E st f) : ISsX X C E [st] f := ⟨fun hs ss h D q => PSs.wp (pss_one wpS) (h1.run hs ss h D q)⟩
def xIf (t : TF) (f g : SX) : SX := fun ρ L => match t ρ L with
  | none => none
  | some (true, L') => f ρ L'
  | some (false, L') => g ρ L'
theorem isx_if {c : Expr} {x y : List Stmt} {t : TF} {f g : SX} (hc : IT X c t) (ha : ISsX X C E x f) (hb : ISsX X C E y g) : ISX X C E (.If c x y pos) (xIf t f g) := by
  refine ⟨fun {Zx Z F φ L ρ σ H o} hs ss h D q => PS.wp (ps_if wpT wpSs wpSs) ?_⟩
  unfold xIf at h
  split at h
  · cases h
  · rename_i L1 e1
    refine hc.run hs ss e1 _ fun F1 φ1 H1 s1 p1 hs1 => ?_
    rw [if_pos rfl]
    exact ha.run hs1 (ss.mono s1 p1) h D (q.step s1 p1)
  · rename_i L1 e1
    refine hc.run hs ss e1 _ fun F1 φ1 H1 s1 p1 hs1 => ?_
    rw [if_neg (by decide)]
    exact hb.run hs1 (ss.mono s1 p1) h D (q.step s1 p1)
def xRet (f : XF) : SX := fun ρ L => match f ρ L with
  | none => none
  | some (some w, L') => some (.ok (.rt w L'))
  | some (none, L') => some (.ex L')
theorem isx_ret {f : XF} (he : IEX X C E e f) : ISX X C E (.Return (some e) pos) (xRet f) := by
  refine ⟨fun {Zx Z F φ L ρ σ H o} hs ss h D q => PS.wp (ps_ret wpE) ?_⟩
  unfold xRet at h
  split at h
  · cases h
  · rename_i w L1 e1
    simp only [Option.some.injEq] at h
    subst h
    refine he.run hs ss e1 _ ?_
    exact fun F1 φ1 H1 v s1 p1 hs1 r1 => q Z F1 φ1 H1 v s1 p1 ss.out hs1 r1
  · rename_i L1 e1
    simp only [Option.some.injEq] at h
    subst h
    exact he.run hs ss e1 _ q
def xRaise : SX := fun _ L => some (.ex L)
/-- what the head says of an exception's class -/
structure ExD (K : PySem.W.Frag) (mg : Str → Option Value) (c : Str) (C : Addr) : Prop where
  at_ : mg c = some (.ref C)
  xc : PySem.W.excIn K C [.type "ValueError", .type "Exception", .type "BaseException", .type "object"] "ValueError.__new__" = true
  kp : PySem.W.keepIn K (.ref C) = true
  sb : PySem.W.subIn K (.ref C) (.type "BaseException") = some true
  ty : PySem.W.typeIn K (.ref C) = some (.type "type")
theorem isx_raise {c m : Str} {j : Nat} {p p2 p3 : Pos} (D : ExD X.K X.mg c C) (hc : X.calm = true) (tk : Takes X (wE E)) (hg : Gl X c) (hdb : (c == ("__debug__" : Str)) = false := by decide) :
    ISX X C E (.Raise (some (.Call (.Name c p) [.Constant (.str m) j p2] [] p3)) none pos) xRaise := by
  refine ⟨fun {Zx Z F φ L ρ σ H o} hs ss h D' q => PS.wp (ps_raise hc tk (pmk_own PySem.F.excBase_ValueError D.xc D.at_ D.kp (raises_own D.sb D.ty) hg hdb)) ?_⟩
  simp only [xRaise, Option.some.injEq] at h
  subst h
  exact q Z F φ H (Sub.refl F) (List.prefix_refl φ) ss.out hs
/-! loops -/
def forLoopX (g : GF) (body : SX) : List W → Ro → Lg → Option OX
  | [], ρ, L => some (.ok (.nx ρ L))
  | x :: xs, ρ, L => match g x ρ with
    | none => none
    | some ρ1 => match body ρ1 L with
      | none => none
      | some (.ok (.nx ρ2 L2)) => forLoopX g body xs ρ2 L2
      | some (.ok (.ct ρ2 L2)) => forLoopX g body xs ρ2 L2
      | some (.ok (.bk ρ2 L2)) => some (.ok (.nx ρ2 L2))
      | some (.ok (.rt w L2)) => some (.ok (.rt w L2))
      | some (.ex L2) => some (.ex L2)
def xFor (src : AF) (g : GF) (body : SX) : SX := fun ρ L => match src ρ L with
  | none => none
  | some (xs, L1) => forLoopX g body xs ρ L1
theorem isx_for {tg iter : Expr} {bd : List Stmt} {src : AF} {g : GF} {body : SX} {ix : List Nat} (hp : PassesOwn (model X.prog X.w) X.A X.env X.xe) (hc : X.calm = true) (hi : II X tg iter src) (hg : IG X tg ix g) (hb : ISsX X C E bd body)
    (hs' : ∀ x, foldedSetIterable iter X.env x = pure x := by intro _; rfl) : ISX X C E (.For tg iter bd [] pos) (xFor src g body) := by
  refine ⟨fun {Zx Z F φ L ρ σ H o} hs ss h D q => PS.wp (ps_for hp hc wpI wpG wpSs hs') ?_⟩
  unfold xFor at h
  split at h
  · cases h
  rename_i xs L1 e1
  refine hi.run hs ss e1 _ fun F1 φ1 H1 J s1 p1 hs1 itok => ?_
  refine ⟨fun i mm σ' H' => mm = xs.length - i ∧ i ≤ xs.length ∧ ∃ (Z2 F2 : Hp) (φ2 : List Addr) (ρ2 : Ro) (L2 : Lg), Sub F1 F2 ∧ φ1 <+: φ2 ∧ Hs X.K X.mg Z2 F2 φ2 L2 H' ∧ Ss X.K Zx Z2 F2 φ2 ρ2 σ' ∧ forLoopX g body (xs.drop i) ρ2 L2 = some o,
    ⟨xs.length, rfl, Nat.zero_le _, Z, F1, φ1, ρ, L1, Sub.refl F1, List.prefix_refl φ1, hs1, ss.mono s1 p1, by simpa using h⟩, ?_⟩
  rintro i mm σ' H' ⟨rfl, hi', Z2, F2, φ2, ρ2, L2, s2, p2, hs2, ss2, e2⟩
  obtain ⟨it1, it2⟩ := itok i s2 p2 hs2
  by_cases hlt : i < xs.length
  · obtain ⟨go, yl⟩ := it1 _ (List.getElem?_eq_getElem hlt)
    refine .inr ⟨go, fun σ' H' => ∃ (Z2 F2 : Hp) (φ2 : List Addr) (ρ2 : Ro) (L2 : Lg), Sub F1 F2 ∧ φ1 <+: φ2 ∧ Hs X.K X.mg Z2 F2 φ2 L2 H' ∧ Ss X.K Zx Z2 F2 φ2 ρ2 σ' ∧ forLoopX g body (xs.drop (i + 1)) ρ2 L2 = some o,
      fun σ' H' n => ⟨xs.length - (i + 1), by omega, rfl, hlt, n⟩, fun v H3 y => ?_⟩
    obtain ⟨F3, s3, hs3, r3⟩ := yl v H3 y
    rw [List.drop_eq_getElem_cons hlt] at e2
    unfold forLoopX at e2
    split at e2
    · cases e2
    rename_i ρ3 g1
    refine hg.run hs3 (ss2.mono s3 (List.prefix_refl φ2)) r3 g1 _ fun σ4 ss4 _ => ?_
    have s13 := s2.trans s3
    cases e5 : body ρ3 L2 with
    | none => rw [e5] at e2; cases e2
    | some o1 =>
      rw [e5] at e2
      refine hb.run hs3 ss4 e5 _ ?_
      cases o1 with
      | ok o1 =>
        cases o1 with
        | nx ρ5 L5 => exact fun Z5 F5 φ5 σ5 H5 s5 p5 hs5 ss5 => ⟨Z5, F5, φ5, ρ5, L5, s13.trans s5, List.IsPrefix.trans p2 p5, hs5, ss5, e2⟩
        | ct ρ5 L5 => exact fun Z5 F5 φ5 σ5 H5 s5 p5 hs5 ss5 => ⟨Z5, F5, φ5, ρ5, L5, s13.trans s5, List.IsPrefix.trans p2 p5, hs5, ss5, e2⟩
        | bk ρ5 L5 =>
          cases e2
          exact fun Z5 F5 φ5 σ5 H5 s5 p5 hs5 ss5 => q Z5 F5 φ5 σ5 H5 (s1.trans (s13.trans s5)) (List.IsPrefix.trans p1 (List.IsPrefix.trans p2 p5)) hs5 ss5
        | rt w L5 =>
          cases e2
          exact fun Z5 F5 φ5 H5 v5 s5 p5 z hs5 r5 => q Z5 F5 φ5 H5 v5 (s1.trans (s13.trans s5)) (List.IsPrefix.trans p1 (List.IsPrefix.trans p2 p5)) z hs5 r5
      | ex L5 =>
        cases e2
        exact fun Z5 F5 φ5 H5 s5 p5 z hs5 => q Z5 F5 φ5 H5 (s1.trans (s13.trans s5)) (List.IsPrefix.trans p1 (List.IsPrefix.trans p2 p5)) z hs5
  · have ei : i = xs.length := by omega
    subst ei
    refine .inl ⟨it2 (Nat.le_refl _), ?_⟩
    rw [List.drop_length] at e2
    simp only [forLoopX, Option.some.injEq] at e2
    subst e2
    exact q Z2 F2 φ2 σ' H' (s1.trans s2) (List.IsPrefix.trans p1 p2) hs2 ss2
end
def runDefX (N : Nat) (body : SX) : DX := fun ws L => match body (ws.map Sl.va ++ List.replicate (N - ws.length) .un) L with
  | some (.ok (.nx _ L')) => some (some .non, L')
  | some (.ok (.rt w L')) => some (some w, L')
  | some (.ex L') => some (none, L')
  | _ => none
section
variable {P : Program} {w : World} {K : PySem.W.Frag} {mg : Str → Option Value} {base : Heap}
theorem fn_okX {x qual : Str} {st : Stmt} {f C : Addr} {fd : FuncData} {N ps : List Str} {k : Nat} {body : SX} (F : FunD K x qual (defArgs st) (defBody st) (defScope st) [] [] f fd) (S : FnScope N ps (defScope st))
    (hb : ∀ (cdv : Value) (A : Around) (outer : List Env) (s : Shared) (H : Hp) (E : XK), Room k (A.deeper (envOfC qual (defScope st) s.heap.objs.size f cdv)) → ISsX (cxOf (L2.CX P w) P w K mg base N qual (defScope st) f cdv A outer s H E) C E (defBody st) body) :
    FnOk P w K mg base (L2.CX P w) (k + 1) f fd ps (spX K mg C ps.length (runDefX N.length body)) := by
  refine F.ok S (fun vs H Q E h => ?_) (fun cdv A outer s H vs Q E hr h => ?_)
  · obtain ⟨Z, F, φ, L, ws, w, h1, h2, h3, _⟩ := h
    rw [← h2.length]; exact h3
  · obtain ⟨Z, F1, φ, L, ws, r, h1, h2, h3, h4, q⟩ := h
    refine ⟨_, wpSs, ?_⟩
    unfold runDefX at h4
    split at h4
    · rename_i ρ1 L1 e1
      simp only [Option.some.injEq] at h4
      subst h4
      exact (hb cdv A outer s H E hr).run h1 (Ss.start h2) e1 _ fun Z' F' φ' σ' H' s1 p1 hs1 ss1 => q Z' F' φ' H' .non s1 p1 ss1.out hs1 .non
    · rename_i w2 L1 e1
      simp only [Option.some.injEq] at h4
      subst h4
      exact (hb cdv A outer s H E hr).run h1 (Ss.start h2) e1 _ fun Z' F' φ' H' v s1 p1 z hs1 r1 => q Z' F' φ' H' v s1 p1 z hs1 r1
    · rename_i L1 e1
      simp only [Option.some.injEq] at h4
      subst h4
      exact (hb cdv A outer s H E hr).run h1 (Ss.start h2) e1 _ fun Z' F' φ' H' s1 p1 z hs1 => q Z' F' φ' H' s1 p1 z hs1
    · cases h4
end
end Lf

set_option maxHeartbeats 4000000
/-! Lf, part AP: try: x = f(y) except C as n: a suite that returns. -/
namespace Lf
open PySem PySem.Spec PyProof.Rows L2
theorem Ss.upZ {K : PySem.W.Frag} {Zx Z Z' F : Hp} {φ : List Addr} {ρ : Ro} {σ : L2.St} (h : Ss K Zx Z F φ ρ σ) (s : Sub Z Z') : Ss K Zx Z' F φ ρ σ :=
  ⟨h.len, h.va, fun i m e => let ⟨a, o, h1, h2, h3, h4⟩ := h.ow i m e; ⟨a, o, h1, s _ _ h2, h3, h4⟩, h.sep, h.out.trans s⟩
theorem Ss.setun {K : PySem.W.Frag} {Zx Z F : Hp} {φ : List Addr} {ρ : Ro} {σ : L2.St} {i : Nat} {v : Option V} (h : Ss K Zx Z F φ ρ σ) (e : ρ[i]? = some .un) : Ss K Zx Z F φ ρ (σ.set i v) := by
  have ne : ∀ {j : Nat} {x : Sl}, ρ[j]? = some x → x ≠ .un → i ≠ j := fun {j x} e1 hx z => by
    subst z
    rw [e] at e1
    exact hx (Option.some.inj e1).symm
  refine ⟨by rw [h.len, List.length_set], fun j w e1 => ?_, fun j m e1 => ?_, fun j k m m' a e1 e2 e3 e4 => ?_, h.out⟩
  · obtain ⟨v, h1, h2⟩ := h.va j w e1
    exact ⟨v, by rw [List.getElem?_set_ne (ne e1 (fun z => by cases z))]; exact h1, h2⟩
  · obtain ⟨a, o, h1, h2, h3, h4⟩ := h.ow j m e1
    exact ⟨a, o, by rw [List.getElem?_set_ne (ne e1 (fun z => by cases z))]; exact h1, h2, h3, h4⟩
  · rw [List.getElem?_set_ne (ne e1 (fun z => by cases z))] at e3
    rw [List.getElem?_set_ne (ne e2 (fun z => by cases z))] at e4
    exact h.sep j k m m' a e1 e2 e3 e4
/-! ### in the suite: the exception stands in slot i -/
structure JE (X : Cx) (i : Nat) (x : Addr) (e : Expr) (f : EF) : Prop where
  run : ∀ {Zx Z F : Hp} {φ : List Addr} {L : Lg} {ρ : Ro} {σ : L2.St} {H : Hp} {w : W} {L' : Lg}, Hs X.K X.mg Z F φ L H → Ss X.K Zx Z F φ ρ σ → σ[i]? = some (some (.ref x)) → f ρ L = some (w, L') →
    ∀ Q : VK, (∀ (F' : Hp) (φ' : List Addr) (H' : Hp) (v : V), Sub F F' → φ <+: φ' → Hs X.K X.mg Z F' φ' L' H' → R X.K F' φ' w v → Q v H') → Wp X e σ H Q
structure JR (X : Cx) (i : Nat) (x : Addr) (sts : List Stmt) (f : EF) : Prop where
  run : ∀ {Zx Z F : Hp} {φ : List Addr} {L : Lg} {ρ : Ro} {σ : L2.St} {H : Hp} {w : W} {L' : Lg}, Hs X.K X.mg Z F φ L H → Ss X.K Zx Z F φ ρ σ → σ[i]? = some (some (.ref x)) → f ρ L = some (w, L') →
    ∀ D : Ends, EndOk X Zx F φ D (.rt w L') → WpSs X sts D σ H
section
variable {X : Cx} {i : Nat} {x : Addr} {e a b : Expr} {es : List Expr} {pos : Pos}
theorem je_of {f : EF} (h : IE X e f) : JE X i x e f := ⟨fun hs ss _ h' Q q => h.run hs ss h' Q q⟩
theorem je_not {f : EF} (ha : JE X i x a f) : JE X i x (.UnaryOp .Not a pos) (cNotV f) := by
  refine ⟨fun {Zx Z F φ L ρ σ H w L'} hs ss hx h Q q => PE.wp (pe_not wpE) ?_⟩
  unfold cNotV at h
  split at h
  · rename_i k L1 e1
    simp only [Option.some.injEq, Prod.mk.injEq] at h
    obtain ⟨rfl, rfl⟩ := h
    refine ha.run hs ss hx e1 _ fun F' φ' H' v s1 p1 hs1 r1 => ?_
    cases r1
    exact ⟨k, rfl, q F' φ' H' _ s1 p1 hs1 (.bl _)⟩
  · cases h
theorem je_one {op} {f : EF} (ha : JE X i x a f) : JE X i x (.BoolOp op [a] pos) f := ⟨fun hs ss hx h Q q => PE.wp (pe_one wpE) (ha.run hs ss hx h Q q)⟩
theorem je_and {f g : EF} (ha : JE X i x a f) (hb : JE X i x (.BoolOp .And (b :: es) pos) g) : JE X i x (.BoolOp .And (a :: b :: es) pos) (cAndV f g) := by
  refine ⟨fun {Zx Z F φ L ρ σ H w L'} hs ss hx h Q q => PE.wp (pe_and wpE wpE) ?_⟩
  unfold cAndV at h
  split at h
  · rename_i L1 e1
    refine ha.run hs ss hx e1 _ fun F1 φ1 H1 v s1 p1 hs1 r1 => ?_
    cases r1
    refine ⟨true, rfl, ?_⟩
    rw [if_pos rfl]
    exact hb.run hs1 (ss.mono s1 p1) hx h Q fun F2 φ2 H2 v s2 p2 hs2 => q F2 φ2 H2 v (s1.trans s2) (List.IsPrefix.trans p1 p2) hs2
  · rename_i L1 e1
    simp only [Option.some.injEq, Prod.mk.injEq] at h
    obtain ⟨rfl, rfl⟩ := h
    refine ha.run hs ss hx e1 _ fun F1 φ1 H1 v s1 p1 hs1 r1 => ?_
    cases r1
    refine ⟨false, rfl, ?_⟩
    rw [if_neg (by decide)]
    exact q F1 φ1 H1 _ s1 p1 hs1 (.bl _)
  · cases h
theorem je_or {f g : EF} (ha : JE X i x a f) (hb : JE X i x (.BoolOp .Or (b :: es) pos) g) : JE X i x (.BoolOp .Or (a :: b :: es) pos) (cOrV f g) := by
  refine ⟨fun {Zx Z F φ L ρ σ H w L'} hs ss hx h Q q => PE.wp (pe_or wpE wpE) ?_⟩
  unfold cOrV at h
  split at h
  · rename_i L1 e1
    simp only [Option.some.injEq, Prod.mk.injEq] at h
    obtain ⟨rfl, rfl⟩ := h
    refine ha.run hs ss hx e1 _ fun F1 φ1 H1 v s1 p1 hs1 r1 => ?_
    cases r1
    refine ⟨true, rfl, ?_⟩
    rw [if_pos rfl]
    exact q F1 φ1 H1 _ s1 p1 hs1 (.bl _)
  · rename_i L1 e1
    refine ha.run hs ss hx e1 _ fun F1 φ1 H1 v s1 p1 hs1 r1 => ?_
    cases r1
    refine ⟨false, rfl, ?_⟩
    rw [if_neg (by decide)]
    exact hb.run hs1 (ss.mono s1 p1) hx h Q fun F2 φ2 H2 v s2 p2 hs2 => q F2 φ2 H2 v (s1.trans s2) (List.IsPrefix.trans p1 p2) hs2
  · cases h
def cSuite (f1 : EF) (j : Nat) (f2 : EF) : EF := fun ρ L => match f1 ρ L with
  | some (w, L1) => if j < ρ.length then f2 (ρ.set j (.va w)) L1 else none
  | none => none
theorem jr_two {f1 f2 : EF} {j : Nat} {y : Str} {e1 e2 : Expr} {py p1 p2 : Pos} (ne : i ≠ j) (hN : X.N.Nodup) (hi : X.N[j]? = some y) (hy : Loc X.env.scope y) (h1 : JE X i x e1 f1) (h2 : JE X i x e2 f2) (hs' : swapsWith e1 (some (.Name y py)) p1.line X.env = pure false := by rfl)
    (hf : X.fn y = true ∨ X.env.scope.names.lookup y = some .local := by first | exact .inl rfl | exact .inr rfl | assumption) : JR X i x [.Assign [.Name y py] e1 p1, .Return (some e2) p2] (cSuite f1 j f2) := by
  refine ⟨fun {Zx Z F φ L ρ σ H w L'} hs ss hx h D q => PSs.wp (pss_cons (ps_set hN hi hy wpE hs' hf) (pss_one (ps_ret wpE))) ?_⟩
  unfold cSuite at h
  split at h
  · rename_i w1 L1 k1
    split at h
    · rename_i hj
      refine h1.run hs ss hx k1 _ fun F1 φ1 H1 v s1 p1 hs1 r1 => ?_
      refine h2.run hs1 ((ss.mono s1 p1).setva hj r1) (by rw [List.getElem?_set_ne (Ne.symm ne)]; exact hx) h _ fun F2 φ2 H2 v2 s2 p2 hs2 r2 => ?_
      exact q Z F2 φ2 H2 v2 (s1.trans s2) (List.IsPrefix.trans p1 p2) ss.out hs2 r2
    · cases h
  · cases h
end
section
variable {X : Cx} {a D : Addr} {oe : Obj} {pn : List (Addr × Obj)} {pos : Pos}
/-- isinstance(n, c), c a class of the program's own -/
theorem je_isO {i : Nat} {n c : Str} {C : Addr} {b : Bool} {p p1 p2 : Pos} (Cx_ : ExcC X.K D) (hz : Zc (.ref D) none oe) (hf : ∃ vs, oe.data = .fields vs) (hg : Gl X "isinstance") (hm : X.mg "isinstance" = none) (hN : X.N[i]? = some n) (hv : Vis X.env.scope n) (hgc : Gl X c) (hc : X.mg c = some (.ref C)) (k : PySem.W.kitOne X.K (.ref D) (.ref C) = some b)
    (hd : (n == ("__debug__" : Str)) = false := by decide) (hcd : (n == ("__classdict__" : Str)) = false := by decide) (hdc : (c == ("__debug__" : Str)) = false := by decide) :
    JE (X.suite a ((a, oe) :: pn)) i a (.Call (.Name "isinstance" p) [.Name n p1, .Name c p2] [] pos) (cK (.bl b)) := by
  refine ⟨fun {Zx Z F φ L ρ σ H w L'} hs ss hx h Q q => PE.wp (pe_callB (X := X.suite a ((a, oe) :: pn)) (call_isE Cx_ hz hf) hg hm (by decide +kernel) (pa_cons (pe_var (i := i) hN hv hd hcd) (pa_cons (pe_glob (v := .ref C) hgc hc rfl hdc) pa_nil))) ?_⟩
  simp only [cK, Option.some.injEq, Prod.mk.injEq] at h
  obtain ⟨rfl, rfl⟩ := h
  exact ⟨_, hx, .ref C, .ref C, b, rfl, fun u hu => hu, k, q F φ H _ (Sub.refl F) (List.prefix_refl φ) hs (.bl b)⟩
/-- isinstance(n, T), T a built-in class -/
theorem je_isT {i : Nat} {n c : Str} {T : String} {b : Bool} {p p1 p2 : Pos} (Cx_ : ExcC X.K D) (hz : Zc (.ref D) none oe) (hf : ∃ vs, oe.data = .fields vs) (hg : Gl X "isinstance") (hm : X.mg "isinstance" = none) (hN : X.N[i]? = some n) (hv : Vis X.env.scope n) (hgc : Gl X c) (hc : X.mg c = none) (hb : bootBuiltins c = some (.type T)) (k : PySem.W.kitOne X.K (.ref D) (.type T) = some b)
    (hd : (n == ("__debug__" : Str)) = false := by decide) (hcd : (n == ("__classdict__" : Str)) = false := by decide) (hdc : (c == ("__debug__" : Str)) = false := by decide) (hnn : c ≠ "__name__" := by decide) :
    JE (X.suite a ((a, oe) :: pn)) i a (.Call (.Name "isinstance" p) [.Name n p1, .Name c p2] [] pos) (cK (.bl b)) := by
  refine ⟨fun {Zx Z F φ L ρ σ H w L'} hs ss hx h Q q => PE.wp (pe_callB (X := X.suite a ((a, oe) :: pn)) (call_isE Cx_ hz hf) hg hm (by decide +kernel) (pa_cons (pe_var (i := i) hN hv hd hcd) (pa_cons (pe_bltn (v := .ty T) hgc hc hb rfl hnn hdc) pa_nil))) ?_⟩
  simp only [cK, Option.some.injEq, Prod.mk.injEq] at h
  obtain ⟨rfl, rfl⟩ := h
  exact ⟨_, hx, .ty T, .type T, b, rfl, fun u hu => hu, k, q F φ H _ (Sub.refl F) (List.prefix_refl φ) hs (.bl b)⟩
end
/-! ### try -/
def cTry (d : DX) (y j i : Nat) (fs : EF) : SF := fun ρ L => match ρ[y]?, ρ[i]? with
  | some (.va w), some .un => (match d [w] L with
    | some (some v, L') => if j < ρ.length then some (.nx (ρ.set j (.va v)) L') else none
    | some (none, L') => (match fs ρ L' with
      | some (v, L2) => some (.rt v L2)
      | none => none)
    | none => none)
  | _, _ => none
section
variable {X : Cx}
theorem is_try {x n fn xj xy : Str} {c : Value} {C : Addr} {i j y k k' : Nat} {ps : List Str} {d : DX} {b0 : Stmt} {suite : List Stmt} {fs : EF} {np pos pos' pf pc py pj pa : Pos}
    (hst : X.stack = X.env :: X.outer) (hf : X.env.frame = some X.env.locals) (hN : X.N.Nodup) (hi : X.N[i]? = some n) (hln : X.env.kindOf n = some .local) (hc : Names X x c) (tk0 : Takes X fun _ _ _ _ => False)
    (G : DefX X.prog X.w X.K X.mg X.base k fn C ps d) (hp : ps.length = 1) (hr : Room k' X.A) (hkk : k ≤ k') (hgf : Gl X fn) (hdf : (fn == ("__debug__" : Str)) = false)
    (hy : X.N[y]? = some xy) (hvy : Vis X.env.scope xy) (hdy : (xy == ("__debug__" : Str)) = false) (hcy : (xy == ("__classdict__" : Str)) = false)
    (hj : X.N[j]? = some xj) (hlj : Loc X.env.scope xj) (hfj : X.fn xj = true ∨ X.env.scope.names.lookup xj = some .local)
    (hsw : ∀ env : Env, env = X.env → swapsWith (.Call (.Name fn pf) [.Name xy py] [] pc) (some (.Name xj pj)) pa.line env = pure false)
    (hex : PySem.W.exmOne X.K (.ref C) c = some true)
    (hsu : ∀ (a : Addr) (oe : Obj) (pn : List (Addr × Obj)), Zc (.ref C) none oe → (∃ vs, oe.data = .fields vs) → JR (X.suite a ((a, oe) :: pn)) i a (b0 :: suite) fs) :
    IS X (.Try [.Assign [.Name xj pj] (.Call (.Name fn pf) [.Name xy py] [] pc) pa] [.ExceptHandler (some (.Name x np)) (some n) (b0 :: suite) pos'] [] [] pos) (cTry d y j i fs) := by
  obtain ⟨f, fd, F0, hm, hk, hb⟩ := G.ex
  refine ⟨fun {Zx Z F φ L ρ σ H o} hs ss h D q => PS.wp (ps_try_as (tb := fun W => tAsg (tCallS (spX X.K X.mg C ps.length d) (WE W) (tCons (tVar y) tNil)) (gName j))
    (ts := fun a cls dd D σ H => ∀ (oe : Obj) (pn : List (Addr × Obj)), Zc cls dd oe → (∃ vs, oe.data = .fields vs) → WpSs (X.suite a ((a, oe) :: pn)) (b0 :: suite) D σ H) (Wout := fun _ _ _ _ => False) hst hf hN hi hln hc tk0
    (fun W pn xe tk _ => pss_one (ps_set (X := X.tr pn xe) hN hj hlj (pe_callS (X := X.tr pn xe) (E := WE W) F0 (hr.mono hkk) hgf hm hk hb (fun σ => passAt tk σ) (pa_cons (pe_var (i := y) hy hvy hdy hcy) pa_nil) hdf) (hsw _ rfl) hfj))
    (fun a oe cls dd pn hz hv => ⟨fun pins s σ H D I t => wpSs.run pins s σ H D I (t oe pn hz hv)⟩)) ?_⟩
  unfold cTry at h
  split at h
  · rename_i w k1 k2
    obtain ⟨v, hv, rv⟩ := ss.va y w k1
    have key : ∀ r, d [w] L = some r → ReOk X.K X.mg Z F φ (fun v H1 => D.nx (σ.set j (some v)) H1) (wAs X.K c i (fun a cls dd D σ H => ∀ (oe : Obj) (pn : List (Addr × Obj)), Zc cls dd oe → (∃ vs, oe.data = .fields vs) → WpSs (X.suite a ((a, oe) :: pn)) (b0 :: suite) D σ H) (fun _ _ _ _ => False) D (.ref C) none σ) r →
        tAsg (tCallS (spX X.K X.mg C ps.length d) (WE (wAs X.K c i (fun a cls dd D σ H => ∀ (oe : Obj) (pn : List (Addr × Obj)), Zc cls dd oe → (∃ vs, oe.data = .fields vs) → WpSs (X.suite a ((a, oe) :: pn)) (b0 :: suite) D σ H) (fun _ _ _ _ => False) D)) (tCons (tVar y) tNil)) (gName j) D σ H := fun r e1 ok =>
      ⟨v, hv, Z, F, φ, L, [w], r, hs, Rs.one rv, by rw [hp]; rfl, e1, ok⟩
    cases e1 : d [w] L with
    | none => rw [e1] at h; cases h
    | some r =>
      rw [e1] at h
      refine key r e1 ?_
      obtain ⟨rw_, L'⟩ := r
      cases rw_ with
      | some w2 =>
        simp only at h
        split at h
        · rename_i hjl
          simp only [Option.some.injEq] at h
          subst h
          exact fun Z' F' φ' H' v2 s1 p1 z hs1 r1 => q Z F' φ' _ H' s1 p1 (hs1.weak z) ((ss.mono s1 p1).setva hjl r1)
        · cases h
      | none =>
        simp only at h
        split at h
        · rename_i v2 L2 e2
          simp only [Option.some.injEq] at h
          subst h
          intro Z' F' φ' H' s1 p1 z hs1
          refine ⟨true, hex, fun _ a0 ha => ?_, fun z => nomatch z⟩
          intro oe pn hz hvv
          have hil : i < σ.length := by
            rw [← ss.len]; exact (List.getElem?_eq_some_iff.mp k2).1
          refine (hsu a0 oe pn hz hvv).run (Zx := Zx) hs1 (((ss.mono s1 p1).upZ z).setun k2) (by rw [List.getElem?_set_self hil]) e2 _ ?_
          exact EndOk.step s1 p1 q
        · cases h
  · cases h
end
end Lf

set_option maxHeartbeats 4000000
/-! Lf, part AQ: s.find(t), ord(c), what the head says of exceptions. -/
namespace Lf
open PySem PySem.Spec PyProof.Rows L2
section
variable {X : Cx} {o e a : Expr} {pos : Pos}
theorem ie_find {fs ft : EF} {apos : Pos} (h1 : IE X o fs) (h2 : IE X e ft) (hs0 : starEach [e] X.env = [(false, eval e X.env)] := by rfl) (hbase : attributeBase o "find" X.env (eval o X.env) = eval o X.env := by rfl) (hline : (apos.endLine == pos.line) = true := by rfl) :
    IE X (.Call (.Attribute o "find" apos) [e] [] pos) (cS1 (fun s t => .int (Txt.find s t)) fs ft) :=
  ie_s1 F.slot_str_find F.type_str_find mt_find (fun _ _ => .int _) h1 h2 hs0 hbase hline
def ordW : List W → Option W
  | [.str s] => (match s.cps.toList with
    | [c] => some (.int c)
    | _ => none)
  | _ => none
@[simp] theorem ordW_s (c : Nat) : ordW [.str (mk [c])] = some (.int c) := id rfl
theorem ie_ord {f : AF} {p : Pos} (hg : Gl X "ord") (hm : X.mg "ord" = none) (ha : IA X [a] f) (he : starEach [a] X.env = (false, eval a X.env) :: starEach [] X.env := by rfl) : IE X (.Call (.Name "ord" p) [a] [] pos) (cN ordW f) := by
  refine ie_blt call_ord (fun {Z F φ L H ws w vs} hs rs h Q q => ?_) hg hm (by decide +kernel) ha (he := he)
  unfold ordW at h
  split at h
  · rename_i s
    split at h
    · rename_i c e1
      cases h
      cases rs with
      | cons r1 r2 =>
        cases r1
        cases r2
        have es : s = mk [c] := by rw [← Lf.mk_of s, e1]
        subst es
        exact ⟨mk [c], rfl, by simp, flat hs (.int _) q⟩
    · cases h
  · cases h
end
abbrev veL : List Value := [.type "ValueError", .type "Exception", .type "BaseException", .type "object"]
def exdB (K : PySem.W.Frag) (C : Addr) : Bool := PySem.W.excIn K C veL "ValueError.__new__" && (PySem.W.keepIn K (.ref C) && (decide (PySem.W.subIn K (.ref C) (.type "BaseException") = some true) && decide (PySem.W.typeIn K (.ref C) = some (.type "type"))))
theorem exdB_ok {K : PySem.W.Frag} {mg : Str → Option Value} {c : Str} {C : Addr} (g : mg c = some (.ref C)) (h : exdB K C = true) : ExD K mg c C := by
  unfold exdB at h
  simp only [Bool.and_eq_true, decide_eq_true_eq] at h
  exact ⟨g, h.1, h.2.1, h.2.2.1, h.2.2.2⟩
def excB (K : PySem.W.Frag) (C : Addr) : Bool := decide (PySem.W.findIn K (.ref C) "__getattribute__" = some (some (.builtin "BaseException.__getattribute__"))) && (decide (PySem.W.findIn K (.ref C) "__getattr__" = some none) && (decide (PySem.W.subIn K (.ref C) (.type "BaseException") = some true) && (PySem.W.hasDictIn K C &&
  (decide (PySem.W.findIn K (.ref C) "__class__" = some (some (.builtin "object.__class__"))) && (decide (PySem.W.specialIn K (.builtin "object.__class__") "__get__" = some (some (.builtin "getset_descriptor.__get__"))) && (decide (PySem.W.takesIn K (.builtin "object.__class__") = some true) && decide (PySem.W.mroIn K C (.type "object") = some true)))))))
theorem excB_ok {K : PySem.W.Frag} {C : Addr} (h : excB K C = true) : ExcC K C := by
  unfold excB at h
  simp only [Bool.and_eq_true, decide_eq_true_eq] at h
  exact ⟨h.1, h.2.1, h.2.2.1, h.2.2.2.1, h.2.2.2.2.1, h.2.2.2.2.2.1, h.2.2.2.2.2.2.1, h.2.2.2.2.2.2.2⟩
/-! as equations -/
@[simp] theorem e_cXCall (d : DX) (g : AF) (ρ : Ro) (L : Lg) : cXCall d g ρ L = (match g ρ L with
  | none => none
  | some (ws, L1) => d ws L1) := id rfl
@[simp] theorem e_xOf (f : EF) (ρ : Ro) (L : Lg) : xOf f ρ L = (match f ρ L with
  | some (w, L') => some (some w, L')
  | none => none) := id rfl
@[simp] theorem e_cXNil (ρ : Ro) (L : Lg) : cXNil ρ L = some (some [], L) := id rfl
@[simp] theorem e_cXCons (f : XF) (g : XAF) (ρ : Ro) (L : Lg) : cXCons f g ρ L = (match f ρ L with
  | some (some w, L1) => (match g ρ L1 with
    | some (some ws, L2) => some (some (w :: ws), L2)
    | some (none, L2) => some (none, L2)
    | none => none)
  | some (none, L1) => some (none, L1)
  | none => none) := id rfl
@[simp] theorem e_cXMake (c : Str) (d : DF) (g : XAF) (ρ : Ro) (L : Lg) : cXMake c d g ρ L = (match g ρ L with
  | none => none
  | some (none, L1) => some (none, L1)
  | some (some ws, L1) => match d (.ob L1.length :: ws) (L1 ++ [.ins c []]) with
    | some (.non, L2) => some (some (.ob L1.length), L2)
    | _ => none) := id rfl
@[simp] theorem e_sOk (f : SF) (ρ : Ro) (L : Lg) : sOk f ρ L = (match f ρ L with
  | some o => some (.ok o)
  | none => none) := id rfl
@[simp] theorem e_xSeq (f g : SX) (ρ : Ro) (L : Lg) : xSeq f g ρ L = (match f ρ L with
  | some (.ok (.nx ρ1 L1)) => g ρ1 L1
  | o => o) := id rfl
@[simp] theorem e_xNx (ρ : Ro) (L : Lg) : xNx ρ L = some (.ok (.nx ρ L)) := id rfl
@[simp] theorem e_xRaise (ρ : Ro) (L : Lg) : xRaise ρ L = some (.ex L) := id rfl
@[simp] theorem e_xIf (t : TF) (f g : SX) (ρ : Ro) (L : Lg) : xIf t f g ρ L = (match t ρ L with
  | none => none
  | some (true, L') => f ρ L'
  | some (false, L') => g ρ L') := id rfl
@[simp] theorem e_xRet (f : XF) (ρ : Ro) (L : Lg) : xRet f ρ L = (match f ρ L with
  | none => none
  | some (some w, L') => some (.ok (.rt w L'))
  | some (none, L') => some (.ex L')) := id rfl
@[simp] theorem e_xFor (src : AF) (g : GF) (body : SX) (ρ : Ro) (L : Lg) : xFor src g body ρ L = (match src ρ L with
  | none => none
  | some (xs, L1) => forLoopX g body xs ρ L1) := id rfl
@[simp] theorem e_runDefX (N : Nat) (body : SX) (ws : List W) (L : Lg) : runDefX N body ws L = (match body (ws.map Sl.va ++ List.replicate (N - ws.length) .un) L with
  | some (.ok (.nx _ L')) => some (some .non, L')
  | some (.ok (.rt w L')) => some (some w, L')
  | some (.ex L') => some (none, L')
  | _ => none) := id rfl
@[simp] theorem e_cSuite (f1 : EF) (j : Nat) (f2 : EF) (ρ : Ro) (L : Lg) : cSuite f1 j f2 ρ L = (match f1 ρ L with
  | some (w, L1) => if j < ρ.length then f2 (ρ.set j (.va w)) L1 else none
  | none => none) := id rfl
@[simp] theorem e_cTry (d : DX) (y j i : Nat) (fs : EF) (ρ : Ro) (L : Lg) : cTry d y j i fs ρ L = (match ρ[y]?, ρ[i]? with
  | some (.va w), some .un => (match d [w] L with
    | some (some v, L') => if j < ρ.length then some (.nx (ρ.set j (.va v)) L') else none
    | some (none, L') => (match fs ρ L' with
      | some (v, L2) => some (.rt v L2)
      | none => none)
    | none => none)
  | _, _ => none) := id rfl
theorem forX_nx {g : GF} {body : SX} {x : W} {xs : List W} {ρ ρ1 ρ2 : Ro} {L L2 : Lg} (h1 : g x ρ = some ρ1) (h2 : body ρ1 L = some (.ok (.nx ρ2 L2))) : forLoopX g body (x :: xs) ρ L = forLoopX g body xs ρ2 L2 := by
  simp only [forLoopX, h1, h2]
theorem forX_ex {g : GF} {body : SX} {x : W} {xs : List W} {ρ ρ1 : Ro} {L L2 : Lg} (h1 : g x ρ = some ρ1) (h2 : body ρ1 L = some (.ex L2)) : forLoopX g body (x :: xs) ρ L = some (.ex L2) := by
  simp only [forLoopX, h1, h2]
theorem xseq_nx {f g : SX} {ρ ρ1 : Ro} {L L1 : Lg} (h : f ρ L = some (.ok (.nx ρ1 L1))) : xSeq f g ρ L = g ρ1 L1 := by rw [e_xSeq, h]
theorem xseq_ex {f g : SX} {ρ : Ro} {L L1 : Lg} (h : f ρ L = some (.ex L1)) : xSeq f g ρ L = some (.ex L1) := by rw [e_xSeq, h]
end Lf

/-! the law k08: its text by places, what each def computes, and that it does. Printed by a program of ours. -/
namespace Law
open PySem PySem.Spec PyProof.Rows L2 Lf
def top (i : Nat) : Stmt := PySem.Challenge.pw_longlife_k08_squares_of_a_store.main.body.getD i (.Pass ⟨0, 0, 0, 0⟩)
def clsBody : Stmt → List Stmt
  | .ClassDef _ _ _ b _ _ _ _ _ _ _ => b
  | _ => []
abbrev s_Store_joined : Stmt := ((clsBody (top 6)).getD 1 (.Pass ⟨0, 0, 0, 0⟩))
abbrev N_Store_joined : List Str := ["self", "a", "b", "c", "d", "key", "part"]
abbrev p_Store_joined : List Str := ["self", "a", "b", "c", "d"]
abbrev s_Store_empty : Stmt := ((clsBody (top 6)).getD 5 (.Pass ⟨0, 0, 0, 0⟩))
abbrev N_Store_empty : List Str := ["self", "level", "last"]
abbrev p_Store_empty : List Str := ["self", "level"]
abbrev s_Store_built : Stmt := ((clsBody (top 6)).getD 6 (.Pass ⟨0, 0, 0, 0⟩))
abbrev N_Store_built : List Str := ["self", "cells", "level", "half", "found", "row", "column", "index", "parts", "part"]
abbrev p_Store_built : List Str := ["self", "cells", "level"]
abbrev s_pattern : Stmt := top 2
abbrev N_pattern : List Str := ["cells"]
abbrev p_pattern : List Str := ["cells"]
abbrev s_Store_collect_cells : Stmt := ((clsBody (top 6)).getD 8 (.Pass ⟨0, 0, 0, 0⟩))
abbrev N_Store_collect_cells : List Str := ["self", "square", "row", "column", "result", "half", "a", "b", "c", "d"]
abbrev p_Store_collect_cells : List Str := ["self", "square", "row", "column", "result"]
abbrev s_Store_cells : Stmt := ((clsBody (top 6)).getD 7 (.Pass ⟨0, 0, 0, 0⟩))
abbrev N_Store_cells : List Str := ["self", "square", "result"]
abbrev p_Store_cells : List Str := ["self", "square"]
abbrev s_Store_level : Stmt := ((clsBody (top 6)).getD 2 (.Pass ⟨0, 0, 0, 0⟩))
abbrev N_Store_level : List Str := ["self", "square"]
abbrev p_Store_level : List Str := ["self", "square"]
abbrev s_Store_parts : Stmt := ((clsBody (top 6)).getD 3 (.Pass ⟨0, 0, 0, 0⟩))
abbrev N_Store_parts : List Str := ["self", "square"]
abbrev p_Store_parts : List Str := ["self", "square"]
abbrev s_law_integer : Stmt := top 12
abbrev N_law_integer : List Str := ["value"]
abbrev p_law_integer : List Str := ["value"]
abbrev s_law_cells : Stmt := top 13
abbrev N_law_cells : List Str := ["value", "cell"]
abbrev p_law_cells : List Str := ["value"]
abbrev s_Store_count : Stmt := ((clsBody (top 6)).getD 4 (.Pass ⟨0, 0, 0, 0⟩))
abbrev N_Store_count : List Str := ["self", "square"]
abbrev p_Store_count : List Str := ["self", "square"]
abbrev s_law_right : Stmt := top 16
abbrev N_law_right : List Str := ["store", "square", "cells", "level", "told", "half", "parts", "k", "top", "left", "quarter", "r", "c"]
abbrev p_law_right : List Str := ["store", "square", "cells", "level"]
abbrev s_law_row : Stmt := top 11
abbrev N_law_row : List Str := ["cell", "count", "bound", "rest", "mixed", "row", "k"]
abbrev p_law_row : List Str := ["cell", "count", "bound"]
abbrev s_law_some : Stmt := top 15
abbrev N_law_some : List Str := ["cell", "count", "height", "width", "x", "found", "y", "place"]
abbrev p_law_some : List Str := ["cell", "count", "height", "width"]
abbrev s_law_cell : Stmt := top 10
abbrev N_law_cell : List Str := ["script", "k"]
abbrev p_law_cell : List Str := ["script", "k"]
abbrev s_Rule_init : Stmt := ((clsBody (top 8)).getD 0 (.Pass ⟨0, 0, 0, 0⟩))
abbrev N_Rule_init : List Str := ["self", "births", "survival"]
abbrev p_Rule_init : List Str := ["self", "births", "survival"]
abbrev s_Store_init : Stmt := ((clsBody (top 6)).getD 0 (.Pass ⟨0, 0, 0, 0⟩))
abbrev N_Store_init : List Str := ["self", "rule"]
abbrev p_Store_init : List Str := ["self", "rule"]
abbrev s_law_numbers : Stmt := top 14
abbrev N_law_numbers : List Str := ["cell", "x", "births", "survival", "k"]
abbrev p_law_numbers : List Str := ["cell"]
abbrev s_law : Stmt := top 17
abbrev N_law : List Str := ["script", "births", "survival", "store", "known", "k", "x", "level", "cells", "square", "other", "others", "height"]
abbrev p_law : List Str := ["script"]
def c_ALIVE : Cv := (.int 1)
def c_DEAD : Cv := (.int 0)
structure Txt (K : PySem.W.Frag) (mg : Str → Option Value) : Prop where
  abs : mg "abs" = none
  bool : mg "bool" = none
  int : mg "int" = none
  isinstance : mg "isinstance" = none
  len : mg "len" = none
  list : mg "list" = none
  range : mg "range" = none
  set : mg "set" = none
  sorted : mg "sorted" = none
  sum : mg "sum" = none
  tuple : mg "tuple" = none
  fld_Store_empties : FldD K mg "Store" "empties"
  fld_Store_numbers : FldD K mg "Store" "numbers"
  fld_Store_counts : FldD K mg "Store" "counts"
  fld_Store_levels : FldD K mg "Store" "levels"
  fld_Store_kept_parts : FldD K mg "Store" "kept_parts"
  con_ALIVE : ConD K mg "ALIVE" c_ALIVE
  fld_Rule_survival : FldD K mg "Rule" "survival"
  fld_Rule_births : FldD K mg "Rule" "births"
  con_DEAD : ConD K mg "DEAD" c_DEAD
  fld_Store_futures : FldD K mg "Store" "futures"
  fld_Store_rule : FldD K mg "Store" "rule"
abbrev FnP (K : PySem.W.Frag) (x y : Str) (st : Stmt) (f : Addr) (fd : FuncData) : Prop := FunD K x y (defArgs st) (defBody st) (defScope st) [] [] f fd
def b_Store_joined : SF :=
      (cSeq (cSet 5 (cTup (cCons (cVar 1) (cCons (cVar 2) (cCons (cVar 3) (cCons (cVar 4) cNil))))))
      (cSeq (cIfS (asT (cDIn true (cVar 5) (cOf (cFld "Store" "numbers" (cVar 0))))) (cSeq (cPutE (cFld "Store" "numbers" (cVar 0)) (cVar 5) (cC lenW (cOf (cFld "Store" "levels" (cVar 0)))))
      (cSeq (cAppB (cFld "Store" "kept_parts" (cVar 0)) (cVar 5))
      (cSeq (cAppB (cFld "Store" "levels" (cVar 0)) (cOp addW (cIx ixW (cOf (cFld "Store" "levels" (cVar 0))) (cVar 1)) (cK (.int 1))))
      (cAppB (cFld "Store" "counts" (cVar 0)) (cC sumW (cOf (cFz (cLc (sTup (cVar 5)) (gN 6) cYes (cIx ixW (cOf (cFld "Store" "counts" (cVar 0))) (cVar 6)) (List.map (fun x => x.2) ([("part", 6)] : List (Str × Nat))))))))))) cNx)
      (cRet (cDGet (cOf (cFld "Store" "numbers" (cVar 0))) (cVar 5)))))
theorem ub_Store_joined (ρ : Ro) (L : Lg) : b_Store_joined ρ L = (cSeq (cSet 5 (cTup (cCons (cVar 1) (cCons (cVar 2) (cCons (cVar 3) (cCons (cVar 4) cNil))))))
      (cSeq (cIfS (asT (cDIn true (cVar 5) (cOf (cFld "Store" "numbers" (cVar 0))))) (cSeq (cPutE (cFld "Store" "numbers" (cVar 0)) (cVar 5) (cC lenW (cOf (cFld "Store" "levels" (cVar 0)))))
      (cSeq (cAppB (cFld "Store" "kept_parts" (cVar 0)) (cVar 5))
      (cSeq (cAppB (cFld "Store" "levels" (cVar 0)) (cOp addW (cIx ixW (cOf (cFld "Store" "levels" (cVar 0))) (cVar 1)) (cK (.int 1))))
      (cAppB (cFld "Store" "counts" (cVar 0)) (cC sumW (cOf (cFz (cLc (sTup (cVar 5)) (gN 6) cYes (cIx ixW (cOf (cFld "Store" "counts" (cVar 0))) (cVar 6)) (List.map (fun x => x.2) ([("part", 6)] : List (Str × Nat))))))))))) cNx)
      (cRet (cDGet (cOf (cFld "Store" "numbers" (cVar 0))) (cVar 5))))) ρ L := id rfl
def d_Store_joined : DF := runDef 7 b_Store_joined
theorem ud_Store_joined (ws : List W) (L : Lg) : d_Store_joined ws L = runDef 7 b_Store_joined ws L := id rfl
def while_Store_empty1 : SF :=
      (cSeq (cSet 2 (cIx ixW (cOf (cFld "Store" "empties" (cVar 0))) (cUn negW (cK (.int 1)))))
      (cAppB (cFld "Store" "empties" (cVar 0)) (cMeth "Store" "joined" d_Store_joined (cVar 0) (cCons (cVar 2) (cCons (cVar 2) (cCons (cVar 2) (cCons (cVar 2) cNil)))))))
theorem uwhile_Store_empty1 (ρ : Ro) (L : Lg) : while_Store_empty1 ρ L = (cSeq (cSet 2 (cIx ixW (cOf (cFld "Store" "empties" (cVar 0))) (cUn negW (cK (.int 1)))))
      (cAppB (cFld "Store" "empties" (cVar 0)) (cMeth "Store" "joined" d_Store_joined (cVar 0) (cCons (cVar 2) (cCons (cVar 2) (cCons (cVar 2) (cCons (cVar 2) cNil))))))) ρ L := id rfl
noncomputable def b_Store_empty : SF :=
      (cSeq (cWhile (asT (cOp (cmpI fun i j => decide (i ≤ j)) (cC lenW (cOf (cFld "Store" "empties" (cVar 0)))) (cVar 1))) while_Store_empty1)
      (cRet (cIx ixW (cOf (cFld "Store" "empties" (cVar 0))) (cVar 1))))
theorem ub_Store_empty (ρ : Ro) (L : Lg) : b_Store_empty ρ L = (cSeq (cWhile (asT (cOp (cmpI fun i j => decide (i ≤ j)) (cC lenW (cOf (cFld "Store" "empties" (cVar 0)))) (cVar 1))) while_Store_empty1)
      (cRet (cIx ixW (cOf (cFld "Store" "empties" (cVar 0))) (cVar 1)))) ρ L := id rfl
noncomputable def d_Store_empty : DF := runDef 3 b_Store_empty
theorem ud_Store_empty (ws : List W) (L : Lg) : d_Store_empty ws L = runDef 3 b_Store_empty ws L := id rfl
def for_Store_built1 (r_Store_built : DF) : SF :=
      (cSeq (cSet 7 (cOp addW (cIf (asT (cOp (cmpI fun i j => decide (j ≤ i)) (cVar 5) (cVar 3))) (cK (.int 2)) (cK (.int 0))) (cIf (asT (cOp (cmpI fun i j => decide (j ≤ i)) (cVar 6) (cVar 3))) (cK (.int 1)) (cK (.int 0)))))
      (cAppB (cIx ixW (cNm 4) (cVar 7)) (cTup (cCons (cOp bandW (cVar 5) (cOp subW (cVar 3) (cK (.int 1)))) (cCons (cOp bandW (cVar 6) (cOp subW (cVar 3) (cK (.int 1)))) cNil)))))
theorem ufor_Store_built1 (r_Store_built : DF) (ρ : Ro) (L : Lg) : for_Store_built1 r_Store_built ρ L = (cSeq (cSet 7 (cOp addW (cIf (asT (cOp (cmpI fun i j => decide (j ≤ i)) (cVar 5) (cVar 3))) (cK (.int 2)) (cK (.int 0))) (cIf (asT (cOp (cmpI fun i j => decide (j ≤ i)) (cVar 6) (cVar 3))) (cK (.int 1)) (cK (.int 0)))))
      (cAppB (cIx ixW (cNm 4) (cVar 7)) (cTup (cCons (cOp bandW (cVar 5) (cOp subW (cVar 3) (cK (.int 1)))) (cCons (cOp bandW (cVar 6) (cOp subW (cVar 3) (cK (.int 1)))) cNil))))) ρ L := id rfl
noncomputable def b_Store_built (r_Store_built : DF) : SF :=
      (cSeq (cIfS (cNot (cTruO (cNm 1))) (cRet (cMeth "Store" "empty" d_Store_empty (cVar 0) (cCons (cVar 2) cNil))) cNx)
      (cSeq (cIfS (asT (cOp eqW (cVar 2) (cK (.int 0)))) (cRet (cK (Cv.w c_ALIVE))) cNx)
      (cSeq (cSet 3 (cOp shlW (cK (.int 1)) (cOp subW (cVar 2) (cK (.int 1)))))
      (cSeq (cSet 4 (cFz (cLst (cCons (cBox (cLst cNil)) (cCons (cBox (cLst cNil)) (cCons (cBox (cLst cNil)) (cCons (cBox (cLst cNil)) cNil)))))))
      (cSeq (cFor (sLst (cVar 1)) (gTupW 2 (gsC (gN 5) (gsC (gN 6) gsN))) (for_Store_built1 r_Store_built))
      (cSeq (cFz2 8 (cSetO 8 (cLc (sLst (cVar 4)) (gN 9) cYes (cMeth "Store" "built" r_Store_built (cVar 0) (cCons (cFzE (cVar 9)) (cCons (cOp subW (cVar 2) (cK (.int 1))) cNil))) (List.map (fun x => x.2) ([("part", 9)] : List (Str × Nat))))))
      (cRet (cMeth "Store" "joined" d_Store_joined (cVar 0) (cCons (cIx ixW (cNm 8) (cK (.int 0))) (cCons (cIx ixW (cNm 8) (cK (.int 1))) (cCons (cIx ixW (cNm 8) (cK (.int 2))) (cCons (cIx ixW (cNm 8) (cK (.int 3))) cNil))))))))))))
theorem ub_Store_built (r_Store_built : DF) (ρ : Ro) (L : Lg) : b_Store_built r_Store_built ρ L = (cSeq (cIfS (cNot (cTruO (cNm 1))) (cRet (cMeth "Store" "empty" d_Store_empty (cVar 0) (cCons (cVar 2) cNil))) cNx)
      (cSeq (cIfS (asT (cOp eqW (cVar 2) (cK (.int 0)))) (cRet (cK (Cv.w c_ALIVE))) cNx)
      (cSeq (cSet 3 (cOp shlW (cK (.int 1)) (cOp subW (cVar 2) (cK (.int 1)))))
      (cSeq (cSet 4 (cFz (cLst (cCons (cBox (cLst cNil)) (cCons (cBox (cLst cNil)) (cCons (cBox (cLst cNil)) (cCons (cBox (cLst cNil)) cNil)))))))
      (cSeq (cFor (sLst (cVar 1)) (gTupW 2 (gsC (gN 5) (gsC (gN 6) gsN))) (for_Store_built1 r_Store_built))
      (cSeq (cFz2 8 (cSetO 8 (cLc (sLst (cVar 4)) (gN 9) cYes (cMeth "Store" "built" r_Store_built (cVar 0) (cCons (cFzE (cVar 9)) (cCons (cOp subW (cVar 2) (cK (.int 1))) cNil))) (List.map (fun x => x.2) ([("part", 9)] : List (Str × Nat))))))
      (cRet (cMeth "Store" "joined" d_Store_joined (cVar 0) (cCons (cIx ixW (cNm 8) (cK (.int 0))) (cCons (cIx ixW (cNm 8) (cK (.int 1))) (cCons (cIx ixW (cNm 8) (cK (.int 2))) (cCons (cIx ixW (cNm 8) (cK (.int 3))) cNil)))))))))))) ρ L := id rfl
noncomputable def dr_Store_built : Nat → DF
  | 0 => fun _ _ => none
  | n + 1 => runDef 10 (b_Store_built (dr_Store_built n))
theorem udr_Store_built (n : Nat) (ws : List W) (L : Lg) : dr_Store_built (n + 1) ws L = runDef 10 (b_Store_built (dr_Store_built n)) ws L := id (by first | rfl | rw [dr_Store_built])
noncomputable def d_Store_built : DF := dr_Store_built 40
theorem ud_Store_built : d_Store_built = dr_Store_built 40 := id rfl
def b_pattern : SF :=
      (cRet (cFz (nSsetG (cNm 0))))
theorem ub_pattern (ρ : Ro) (L : Lg) : b_pattern ρ L = (cRet (cFz (nSsetG (cNm 0)))) ρ L := id rfl
def d_pattern : DF := runDef 1 b_pattern
theorem ud_pattern (ws : List W) (L : Lg) : d_pattern ws L = runDef 1 b_pattern ws L := id rfl
def b_Store_collect_cells (r_Store_collect_cells : DF) : SF :=
      (cSeq (cIfS (asT (cOp eqW (cIx ixW (cOf (cFld "Store" "counts" (cVar 0))) (cVar 1)) (cK (.int 0)))) cRetN cNx)
      (cSeq (cIfS (asT (cOp eqW (cVar 1) (cK (Cv.w c_ALIVE)))) (cSeq (cAppB (cVar 4) (cTup (cCons (cVar 2) (cCons (cVar 3) cNil))))
      cRetN) cNx)
      (cSeq (cSet 5 (cOp shlW (cK (.int 1)) (cOp subW (cIx ixW (cOf (cFld "Store" "levels" (cVar 0))) (cVar 1)) (cK (.int 1)))))
      (cSeq (cAsg (gTupW 4 (gsC (gN 6) (gsC (gN 7) (gsC (gN 8) (gsC (gN 9) gsN))))) (cIx ixW (cOf (cFld "Store" "kept_parts" (cVar 0))) (cVar 1)))
      (cSeq (cDrop (cMeth "Store" "collect_cells" r_Store_collect_cells (cVar 0) (cCons (cVar 6) (cCons (cVar 2) (cCons (cVar 3) (cCons (cVar 4) cNil))))))
      (cSeq (cDrop (cMeth "Store" "collect_cells" r_Store_collect_cells (cVar 0) (cCons (cVar 7) (cCons (cVar 2) (cCons (cOp addW (cVar 3) (cVar 5)) (cCons (cVar 4) cNil))))))
      (cSeq (cDrop (cMeth "Store" "collect_cells" r_Store_collect_cells (cVar 0) (cCons (cVar 8) (cCons (cOp addW (cVar 2) (cVar 5)) (cCons (cVar 3) (cCons (cVar 4) cNil))))))
      (cDrop (cMeth "Store" "collect_cells" r_Store_collect_cells (cVar 0) (cCons (cVar 9) (cCons (cOp addW (cVar 2) (cVar 5)) (cCons (cOp addW (cVar 3) (cVar 5)) (cCons (cVar 4) cNil)))))))))))))
theorem ub_Store_collect_cells (r_Store_collect_cells : DF) (ρ : Ro) (L : Lg) : b_Store_collect_cells r_Store_collect_cells ρ L = (cSeq (cIfS (asT (cOp eqW (cIx ixW (cOf (cFld "Store" "counts" (cVar 0))) (cVar 1)) (cK (.int 0)))) cRetN cNx)
      (cSeq (cIfS (asT (cOp eqW (cVar 1) (cK (Cv.w c_ALIVE)))) (cSeq (cAppB (cVar 4) (cTup (cCons (cVar 2) (cCons (cVar 3) cNil))))
      cRetN) cNx)
      (cSeq (cSet 5 (cOp shlW (cK (.int 1)) (cOp subW (cIx ixW (cOf (cFld "Store" "levels" (cVar 0))) (cVar 1)) (cK (.int 1)))))
      (cSeq (cAsg (gTupW 4 (gsC (gN 6) (gsC (gN 7) (gsC (gN 8) (gsC (gN 9) gsN))))) (cIx ixW (cOf (cFld "Store" "kept_parts" (cVar 0))) (cVar 1)))
      (cSeq (cDrop (cMeth "Store" "collect_cells" r_Store_collect_cells (cVar 0) (cCons (cVar 6) (cCons (cVar 2) (cCons (cVar 3) (cCons (cVar 4) cNil))))))
      (cSeq (cDrop (cMeth "Store" "collect_cells" r_Store_collect_cells (cVar 0) (cCons (cVar 7) (cCons (cVar 2) (cCons (cOp addW (cVar 3) (cVar 5)) (cCons (cVar 4) cNil))))))
      (cSeq (cDrop (cMeth "Store" "collect_cells" r_Store_collect_cells (cVar 0) (cCons (cVar 8) (cCons (cOp addW (cVar 2) (cVar 5)) (cCons (cVar 3) (cCons (cVar 4) cNil))))))
      (cDrop (cMeth "Store" "collect_cells" r_Store_collect_cells (cVar 0) (cCons (cVar 9) (cCons (cOp addW (cVar 2) (cVar 5)) (cCons (cOp addW (cVar 3) (cVar 5)) (cCons (cVar 4) cNil))))))))))))) ρ L := id rfl
def dr_Store_collect_cells : Nat → DF
  | 0 => fun _ _ => none
  | n + 1 => runDef 10 (b_Store_collect_cells (dr_Store_collect_cells n))
theorem udr_Store_collect_cells (n : Nat) (ws : List W) (L : Lg) : dr_Store_collect_cells (n + 1) ws L = runDef 10 (b_Store_collect_cells (dr_Store_collect_cells n)) ws L := id (by first | rfl | rw [dr_Store_collect_cells])
def d_Store_collect_cells : DF := dr_Store_collect_cells 40
theorem ud_Store_collect_cells : d_Store_collect_cells = dr_Store_collect_cells 40 := id rfl
def b_Store_cells : SF :=
      (cSeq (cSet 2 (cBox (cLst cNil)))
      (cSeq (cDrop (cMeth "Store" "collect_cells" d_Store_collect_cells (cVar 0) (cCons (cVar 1) (cCons (cK (.int 0)) (cCons (cK (.int 0)) (cCons (cVar 2) cNil))))))
      (cRet (cCall d_pattern (cCons (cFzE (cVar 2)) cNil)))))
theorem ub_Store_cells (ρ : Ro) (L : Lg) : b_Store_cells ρ L = (cSeq (cSet 2 (cBox (cLst cNil)))
      (cSeq (cDrop (cMeth "Store" "collect_cells" d_Store_collect_cells (cVar 0) (cCons (cVar 1) (cCons (cK (.int 0)) (cCons (cK (.int 0)) (cCons (cVar 2) cNil))))))
      (cRet (cCall d_pattern (cCons (cFzE (cVar 2)) cNil))))) ρ L := id rfl
def d_Store_cells : DF := runDef 3 b_Store_cells
theorem ud_Store_cells (ws : List W) (L : Lg) : d_Store_cells ws L = runDef 3 b_Store_cells ws L := id rfl
def b_Store_level : SF :=
      (cRet (cIx ixW (cOf (cFld "Store" "levels" (cVar 0))) (cVar 1)))
theorem ub_Store_level (ρ : Ro) (L : Lg) : b_Store_level ρ L = (cRet (cIx ixW (cOf (cFld "Store" "levels" (cVar 0))) (cVar 1))) ρ L := id rfl
def d_Store_level : DF := runDef 2 b_Store_level
theorem ud_Store_level (ws : List W) (L : Lg) : d_Store_level ws L = runDef 2 b_Store_level ws L := id rfl
def b_Store_parts : SF :=
      (cRet (cIx ixW (cOf (cFld "Store" "kept_parts" (cVar 0))) (cVar 1)))
theorem ub_Store_parts (ρ : Ro) (L : Lg) : b_Store_parts ρ L = (cRet (cIx ixW (cOf (cFld "Store" "kept_parts" (cVar 0))) (cVar 1))) ρ L := id rfl
def d_Store_parts : DF := runDef 2 b_Store_parts
theorem ud_Store_parts (ws : List W) (L : Lg) : d_Store_parts ws L = runDef 2 b_Store_parts ws L := id rfl
def b_law_integer : SF :=
      (cRet (cAndV (cN (isiW "int") (cCons (cVar 0) (cCons (cK (.ty "int")) cNil))) (cNotV (cN (isiW "bool") (cCons (cVar 0) (cCons (cK (.ty "bool")) cNil))))))
theorem ub_law_integer (ρ : Ro) (L : Lg) : b_law_integer ρ L = (cRet (cAndV (cN (isiW "int") (cCons (cVar 0) (cCons (cK (.ty "int")) cNil))) (cNotV (cN (isiW "bool") (cCons (cVar 0) (cCons (cK (.ty "bool")) cNil)))))) ρ L := id rfl
def d_law_integer : DF := runDef 1 b_law_integer
theorem ud_law_integer (ws : List W) (L : Lg) : d_law_integer ws L = runDef 1 b_law_integer ws L := id rfl
def for_law_cells1 : SF :=
      (cIfS (cOr (cNot (cTru (cN (isiW "tuple") (cCons (cVar 1) (cCons (cK (.ty "tuple")) cNil))))) (cOr (asT (cOp neW (cC lenW (cNm 1)) (cK (.int 2)))) (cOr (cNot (cTru (cCall d_law_integer (cCons (cIx ixW (cNm 1) (cK (.int 0))) cNil)))) (cNot (cTru (cCall d_law_integer (cCons (cIx ixW (cNm 1) (cK (.int 1))) cNil))))))) (cRet (cK (.bl false))) cNx)
theorem ufor_law_cells1 (ρ : Ro) (L : Lg) : for_law_cells1 ρ L = (cIfS (cOr (cNot (cTru (cN (isiW "tuple") (cCons (cVar 1) (cCons (cK (.ty "tuple")) cNil))))) (cOr (asT (cOp neW (cC lenW (cNm 1)) (cK (.int 2)))) (cOr (cNot (cTru (cCall d_law_integer (cCons (cIx ixW (cNm 1) (cK (.int 0))) cNil)))) (cNot (cTru (cCall d_law_integer (cCons (cIx ixW (cNm 1) (cK (.int 1))) cNil))))))) (cRet (cK (.bl false))) cNx) ρ L := id rfl
def b_law_cells : SF :=
      (cSeq (cIfS (cNot (cTru (cN (isiW "list") (cCons (cVar 0) (cCons (cK (.ty "list")) cNil))))) (cRet (cK (.bl false))) cNx)
      (cSeq (cFor (sLst (cVar 0)) (gN 1) for_law_cells1)
      (cRet (cOp eqW (cVar 0) (cFz (nSort (cNm 0)))))))
theorem ub_law_cells (ρ : Ro) (L : Lg) : b_law_cells ρ L = (cSeq (cIfS (cNot (cTru (cN (isiW "list") (cCons (cVar 0) (cCons (cK (.ty "list")) cNil))))) (cRet (cK (.bl false))) cNx)
      (cSeq (cFor (sLst (cVar 0)) (gN 1) for_law_cells1)
      (cRet (cOp eqW (cVar 0) (cFz (nSort (cNm 0))))))) ρ L := id rfl
def d_law_cells : DF := runDef 2 b_law_cells
theorem ud_law_cells (ws : List W) (L : Lg) : d_law_cells ws L = runDef 2 b_law_cells ws L := id rfl
def b_Store_count : SF :=
      (cRet (cIx ixW (cOf (cFld "Store" "counts" (cVar 0))) (cVar 1)))
theorem ub_Store_count (ρ : Ro) (L : Lg) : b_Store_count ρ L = (cRet (cIx ixW (cOf (cFld "Store" "counts" (cVar 0))) (cVar 1))) ρ L := id rfl
def d_Store_count : DF := runDef 2 b_Store_count
theorem ud_Store_count (ws : List W) (L : Lg) : d_Store_count ws L = runDef 2 b_Store_count ws L := id rfl
def for_law_right1 : SF :=
      (cSeq (cSet 8 (cOp mulW (cVar 5) (cOp fdivW (cVar 7) (cK (.int 2)))))
      (cSeq (cSet 9 (cOp mulW (cVar 5) (cOp modW (cVar 7) (cK (.int 2)))))
      (cSeq (cFz2 10 (cSetO 10 (cLc (sLst (cVar 2)) (gTupW 2 (gsC (gN 11) (gsC (gN 12) gsN))) (cAnd (cChain (cVar 8) (cVar 11) (cOp addW (cVar 8) (cVar 5))) (cChain (cVar 9) (cVar 12) (cOp addW (cVar 9) (cVar 5)))) (cTup (cCons (cOp subW (cVar 11) (cVar 8)) (cCons (cOp subW (cVar 12) (cVar 9)) cNil))) (List.map (fun x => x.2) ([("r", 11), ("c", 12)] : List (Str × Nat))))))
      (cIfS (cOr (asT (cOp neW (cMeth "Store" "level" d_Store_level (cVar 0) (cCons (cIx ixW (cNm 6) (cVar 7)) cNil)) (cOp subW (cVar 3) (cK (.int 1))))) (asT (cOp neW (cMeth "Store" "cells" d_Store_cells (cVar 0) (cCons (cIx ixW (cNm 6) (cVar 7)) cNil)) (cVar 10)))) (cRet (cK (.bl false))) cNx))))
theorem ufor_law_right1 (ρ : Ro) (L : Lg) : for_law_right1 ρ L = (cSeq (cSet 8 (cOp mulW (cVar 5) (cOp fdivW (cVar 7) (cK (.int 2)))))
      (cSeq (cSet 9 (cOp mulW (cVar 5) (cOp modW (cVar 7) (cK (.int 2)))))
      (cSeq (cFz2 10 (cSetO 10 (cLc (sLst (cVar 2)) (gTupW 2 (gsC (gN 11) (gsC (gN 12) gsN))) (cAnd (cChain (cVar 8) (cVar 11) (cOp addW (cVar 8) (cVar 5))) (cChain (cVar 9) (cVar 12) (cOp addW (cVar 9) (cVar 5)))) (cTup (cCons (cOp subW (cVar 11) (cVar 8)) (cCons (cOp subW (cVar 12) (cVar 9)) cNil))) (List.map (fun x => x.2) ([("r", 11), ("c", 12)] : List (Str × Nat))))))
      (cIfS (cOr (asT (cOp neW (cMeth "Store" "level" d_Store_level (cVar 0) (cCons (cIx ixW (cNm 6) (cVar 7)) cNil)) (cOp subW (cVar 3) (cK (.int 1))))) (asT (cOp neW (cMeth "Store" "cells" d_Store_cells (cVar 0) (cCons (cIx ixW (cNm 6) (cVar 7)) cNil)) (cVar 10)))) (cRet (cK (.bl false))) cNx)))) ρ L := id rfl
def b_law_right : SF :=
      (cSeq (cIfS (cOr (cNot (cTru (cCall d_law_integer (cCons (cVar 1) cNil)))) (cOr (asT (cOp (cmpI fun i j => decide (i < j)) (cVar 1) (cK (.int 0)))) (cOr (asT (cOp neW (cMeth "Store" "level" d_Store_level (cVar 0) (cCons (cVar 1) cNil)) (cVar 3))) (asT (cOp neW (cMeth "Store" "count" d_Store_count (cVar 0) (cCons (cVar 1) cNil)) (cC lenW (cNm 2))))))) (cRet (cK (.bl false))) cNx)
      (cSeq (cSet 4 (cMeth "Store" "cells" d_Store_cells (cVar 0) (cCons (cVar 1) cNil)))
      (cSeq (cIfS (cOr (cNot (cTru (cCall d_law_cells (cCons (cVar 4) cNil)))) (asT (cOp neW (cVar 4) (cVar 2)))) (cRet (cK (.bl false))) cNx)
      (cSeq (cIfS (asT (cOp eqW (cVar 3) (cK (.int 0)))) (cRet (cOp eqW (cVar 1) (cC lenW (cNm 2)))) cNx)
      (cSeq (cSet 5 (cOp shlW (cK (.int 1)) (cOp subW (cVar 3) (cK (.int 1)))))
      (cSeq (cSet 6 (cMeth "Store" "parts" d_Store_parts (cVar 0) (cCons (cVar 1) cNil)))
      (cSeq (cIfS (cOr (cNot (cTru (cN (isiW "tuple") (cCons (cVar 6) (cCons (cK (.ty "tuple")) cNil))))) (asT (cOp neW (cC lenW (cNm 6)) (cK (.int 4))))) (cRet (cK (.bl false))) cNx)
      (cSeq (cFor (sRange1 (cCons (cK (.int 4)) cNil)) (gN 7) for_law_right1)
      (cRet (cOp eqW (cMeth "Store" "joined" d_Store_joined (cVar 0) (cCons (cIx ixW (cNm 6) (cK (.int 0))) (cCons (cIx ixW (cNm 6) (cK (.int 1))) (cCons (cIx ixW (cNm 6) (cK (.int 2))) (cCons (cIx ixW (cNm 6) (cK (.int 3))) cNil))))) (cVar 1)))))))))))
theorem ub_law_right (ρ : Ro) (L : Lg) : b_law_right ρ L = (cSeq (cIfS (cOr (cNot (cTru (cCall d_law_integer (cCons (cVar 1) cNil)))) (cOr (asT (cOp (cmpI fun i j => decide (i < j)) (cVar 1) (cK (.int 0)))) (cOr (asT (cOp neW (cMeth "Store" "level" d_Store_level (cVar 0) (cCons (cVar 1) cNil)) (cVar 3))) (asT (cOp neW (cMeth "Store" "count" d_Store_count (cVar 0) (cCons (cVar 1) cNil)) (cC lenW (cNm 2))))))) (cRet (cK (.bl false))) cNx)
      (cSeq (cSet 4 (cMeth "Store" "cells" d_Store_cells (cVar 0) (cCons (cVar 1) cNil)))
      (cSeq (cIfS (cOr (cNot (cTru (cCall d_law_cells (cCons (cVar 4) cNil)))) (asT (cOp neW (cVar 4) (cVar 2)))) (cRet (cK (.bl false))) cNx)
      (cSeq (cIfS (asT (cOp eqW (cVar 3) (cK (.int 0)))) (cRet (cOp eqW (cVar 1) (cC lenW (cNm 2)))) cNx)
      (cSeq (cSet 5 (cOp shlW (cK (.int 1)) (cOp subW (cVar 3) (cK (.int 1)))))
      (cSeq (cSet 6 (cMeth "Store" "parts" d_Store_parts (cVar 0) (cCons (cVar 1) cNil)))
      (cSeq (cIfS (cOr (cNot (cTru (cN (isiW "tuple") (cCons (cVar 6) (cCons (cK (.ty "tuple")) cNil))))) (asT (cOp neW (cC lenW (cNm 6)) (cK (.int 4))))) (cRet (cK (.bl false))) cNx)
      (cSeq (cFor (sRange1 (cCons (cK (.int 4)) cNil)) (gN 7) for_law_right1)
      (cRet (cOp eqW (cMeth "Store" "joined" d_Store_joined (cVar 0) (cCons (cIx ixW (cNm 6) (cK (.int 0))) (cCons (cIx ixW (cNm 6) (cK (.int 1))) (cCons (cIx ixW (cNm 6) (cK (.int 2))) (cCons (cIx ixW (cNm 6) (cK (.int 3))) cNil))))) (cVar 1))))))))))) ρ L := id rfl
def d_law_right : DF := runDef 13 b_law_right
theorem ud_law_right (ws : List W) (L : Lg) : d_law_right ws L = runDef 13 b_law_right ws L := id rfl
def for_law_row1 : SF :=
      (cIfS (asT (cOp (cmpI fun i j => decide (j ≤ i)) (cVar 3) (cVar 2))) (cSeq (cApp 5 (cOp modW (cN intW (cCons (cVar 3) cNil)) (cVar 2)))
      (cSet 3 (cOp fdivW (cVar 3) (cVar 2)))) (cSeq (cSet 4 (cOp modW (cN intW (cCons (cOp addW (cOp addW (cOp mulW (cVar 4) (cK (.int 48271))) (cOp mulW (cK (.int 11)) (cVar 6))) (cK (.int 7))) cNil)) (cK (.int 2147483647))))
      (cApp 5 (cOp modW (cN intW (cCons (cOp fdivW (cOp mulW (cVar 4) (cK (.int 2862933555777941757))) (cK (.int 1024))) cNil)) (cVar 2)))))
theorem ufor_law_row1 (ρ : Ro) (L : Lg) : for_law_row1 ρ L = (cIfS (asT (cOp (cmpI fun i j => decide (j ≤ i)) (cVar 3) (cVar 2))) (cSeq (cApp 5 (cOp modW (cN intW (cCons (cVar 3) cNil)) (cVar 2)))
      (cSet 3 (cOp fdivW (cVar 3) (cVar 2)))) (cSeq (cSet 4 (cOp modW (cN intW (cCons (cOp addW (cOp addW (cOp mulW (cVar 4) (cK (.int 48271))) (cOp mulW (cK (.int 11)) (cVar 6))) (cK (.int 7))) cNil)) (cK (.int 2147483647))))
      (cApp 5 (cOp modW (cN intW (cCons (cOp fdivW (cOp mulW (cVar 4) (cK (.int 2862933555777941757))) (cK (.int 1024))) cNil)) (cVar 2))))) ρ L := id rfl
def b_law_row : SF :=
      (cSeq (cSet 3 (cN absW (cCons (cN intW (cCons (cVar 0) cNil)) cNil)))
      (cSeq (cSet 4 (cOp addW (cOp modW (cN intW (cCons (cVar 0) cNil)) (cK (.int 1000003))) (cK (.int 1))))
      (cSeq (cSetO 5 (cLst cNil))
      (cSeq (cFor (sRange1 (cCons (cVar 1) cNil)) (gN 6) for_law_row1)
      (cFr 5 (cRet (cVar 5)))))))
theorem ub_law_row (ρ : Ro) (L : Lg) : b_law_row ρ L = (cSeq (cSet 3 (cN absW (cCons (cN intW (cCons (cVar 0) cNil)) cNil)))
      (cSeq (cSet 4 (cOp addW (cOp modW (cN intW (cCons (cVar 0) cNil)) (cK (.int 1000003))) (cK (.int 1))))
      (cSeq (cSetO 5 (cLst cNil))
      (cSeq (cFor (sRange1 (cCons (cVar 1) cNil)) (gN 6) for_law_row1)
      (cFr 5 (cRet (cVar 5))))))) ρ L := id rfl
def d_law_row : DF := runDef 7 b_law_row
theorem ud_law_row (ws : List W) (L : Lg) : d_law_row ws L = runDef 7 b_law_row ws L := id rfl
def for_law_some1 : SF :=
      (cPut 5 (cTup (cCons (cOp fdivW (cVar 6) (cVar 3)) (cCons (cOp modW (cVar 6) (cVar 3)) cNil))) (cK (.bl true)))
theorem ufor_law_some1 (ρ : Ro) (L : Lg) : for_law_some1 ρ L = (cPut 5 (cTup (cCons (cOp fdivW (cVar 6) (cVar 3)) (cCons (cOp modW (cVar 6) (cVar 3)) cNil))) (cK (.bl true))) ρ L := id rfl
def b_law_some : SF :=
      (cSeq (cSet 4 (cN absW (cCons (cN intW (cCons (cVar 0) cNil)) cNil)))
      (cSeq (cSetO 5 (fun _ L => some (.dT [], L)))
      (cSeq (cFor (sLst (cCall d_law_row (cCons (cVar 0) (cCons (cVar 1) (cCons (cOp mulW (cVar 2) (cVar 3)) cNil))))) (gN 6) for_law_some1)
      (cFr 5 (cRet (cFz (nSort (cOf (cFz (cLc (sKeys 5) (gN 7) cYes (cVar 7) (List.map (fun x => x.2) ([("place", 7)] : List (Str × Nat)))))))))))))
theorem ub_law_some (ρ : Ro) (L : Lg) : b_law_some ρ L = (cSeq (cSet 4 (cN absW (cCons (cN intW (cCons (cVar 0) cNil)) cNil)))
      (cSeq (cSetO 5 (fun _ L => some (.dT [], L)))
      (cSeq (cFor (sLst (cCall d_law_row (cCons (cVar 0) (cCons (cVar 1) (cCons (cOp mulW (cVar 2) (cVar 3)) cNil))))) (gN 6) for_law_some1)
      (cFr 5 (cRet (cFz (nSort (cOf (cFz (cLc (sKeys 5) (gN 7) cYes (cVar 7) (List.map (fun x => x.2) ([("place", 7)] : List (Str × Nat))))))))))))) ρ L := id rfl
def d_law_some : DF := runDef 8 b_law_some
theorem ud_law_some (ws : List W) (L : Lg) : d_law_some ws L = runDef 8 b_law_some ws L := id rfl
def b_law_cell : SF :=
      (cSeq (cIfS (asT (cOp (cmpI fun i j => decide (i < j)) (cVar 1) (cC lenW (cNm 0)))) (cRet (cN intW (cCons (cIx ixW (cNm 0) (cVar 1)) cNil))) cNx)
      (cRet (cK (.int 0))))
theorem ub_law_cell (ρ : Ro) (L : Lg) : b_law_cell ρ L = (cSeq (cIfS (asT (cOp (cmpI fun i j => decide (i < j)) (cVar 1) (cC lenW (cNm 0)))) (cRet (cN intW (cCons (cIx ixW (cNm 0) (cVar 1)) cNil))) cNx)
      (cRet (cK (.int 0)))) ρ L := id rfl
def d_law_cell : DF := runDef 2 b_law_cell
theorem ud_law_cell (ws : List W) (L : Lg) : d_law_cell ws L = runDef 2 b_law_cell ws L := id rfl
def b_Rule_init : SF :=
      (cSeq (cSFld "Rule" "births" (cVar 0) (cTupOf (cOf (cFz (nSetI (cNm 1))))))
      (cSFld "Rule" "survival" (cVar 0) (cTupOf (cOf (cFz (nSetI (cNm 2)))))))
theorem ub_Rule_init (ρ : Ro) (L : Lg) : b_Rule_init ρ L = (cSeq (cSFld "Rule" "births" (cVar 0) (cTupOf (cOf (cFz (nSetI (cNm 1))))))
      (cSFld "Rule" "survival" (cVar 0) (cTupOf (cOf (cFz (nSetI (cNm 2))))))) ρ L := id rfl
def d_Rule_init : DF := runDef 3 b_Rule_init
theorem ud_Rule_init (ws : List W) (L : Lg) : d_Rule_init ws L = runDef 3 b_Rule_init ws L := id rfl
def b_Store_init : SF :=
      (cSeq (cSFld "Store" "rule" (cVar 0) (cVar 1))
      (cSeq (cSFld "Store" "kept_parts" (cVar 0) (cBox (cLst (cCons (cTup cNil) (cCons (cTup cNil) cNil)))))
      (cSeq (cSFld "Store" "levels" (cVar 0) (cBox (cLst (cCons (cK (.int 0)) (cCons (cK (.int 0)) cNil)))))
      (cSeq (cSFld "Store" "counts" (cVar 0) (cBox (cLst (cCons (cK (.int 0)) (cCons (cK (.int 1)) cNil)))))
      (cSeq (cSFld "Store" "numbers" (cVar 0) (cBox (fun _ L => some (.dT [], L))))
      (cSeq (cSFld "Store" "futures" (cVar 0) (cBox (fun _ L => some (.dT [], L))))
      (cSFld "Store" "empties" (cVar 0) (cBox (cLst (cCons (cK (Cv.w c_DEAD)) cNil))))))))))
theorem ub_Store_init (ρ : Ro) (L : Lg) : b_Store_init ρ L = (cSeq (cSFld "Store" "rule" (cVar 0) (cVar 1))
      (cSeq (cSFld "Store" "kept_parts" (cVar 0) (cBox (cLst (cCons (cTup cNil) (cCons (cTup cNil) cNil)))))
      (cSeq (cSFld "Store" "levels" (cVar 0) (cBox (cLst (cCons (cK (.int 0)) (cCons (cK (.int 0)) cNil)))))
      (cSeq (cSFld "Store" "counts" (cVar 0) (cBox (cLst (cCons (cK (.int 0)) (cCons (cK (.int 1)) cNil)))))
      (cSeq (cSFld "Store" "numbers" (cVar 0) (cBox (fun _ L => some (.dT [], L))))
      (cSeq (cSFld "Store" "futures" (cVar 0) (cBox (fun _ L => some (.dT [], L))))
      (cSFld "Store" "empties" (cVar 0) (cBox (cLst (cCons (cK (Cv.w c_DEAD)) cNil)))))))))) ρ L := id rfl
def d_Store_init : DF := runDef 2 b_Store_init
theorem ud_Store_init (ws : List W) (L : Lg) : d_Store_init ws L = runDef 2 b_Store_init ws L := id rfl
def b_law_numbers : SF :=
      (cSeq (cSet 1 (cN absW (cCons (cN intW (cCons (cVar 0) cNil)) cNil)))
      (cSeq (cFz2 2 (cSetO 2 (cLc (sRange2 (cCons (cK (.int 1)) (cCons (cK (.int 9)) cNil))) (gN 4) (asT (cOp eqW (cOp modW (cOp fdivW (cVar 1) (cOp shlW (cK (.int 1)) (cVar 4))) (cK (.int 2))) (cK (.int 1)))) (cVar 4) (List.map (fun x => x.2) ([("k", 4)] : List (Str × Nat))))))
      (cSeq (cFz2 3 (cSetO 3 (cLc (sRange1 (cCons (cK (.int 9)) cNil)) (gN 4) (asT (cOp eqW (cOp modW (cOp fdivW (cVar 1) (cOp shlW (cK (.int 512)) (cVar 4))) (cK (.int 2))) (cK (.int 1)))) (cVar 4) (List.map (fun x => x.2) ([("k", 4)] : List (Str × Nat))))))
      (cSeq (cIfS (asT (cOp eqW (cOp modW (cOp fdivW (cVar 1) (cK (.int 262144))) (cK (.int 3))) (cK (.int 1)))) (cSeq (cSet 2 (cIx ixW (cOf (cFz (cLst (cCons (cFz (cLst (cCons (cK (.int 3)) cNil))) (cCons (cFz (cLst (cCons (cK (.int 3)) (cCons (cK (.int 6)) cNil)))) (cCons (cFz (cLst (cCons (cK (.int 2)) cNil))) (cCons (cFz (cLst (cCons (cK (.int 3)) (cCons (cK (.int 7)) (cCons (cK (.int 8)) cNil))))) (cCons (cFz (cLst (cCons (cK (.int 2)) (cCons (cK (.int 5)) cNil)))) cNil)))))))) (cOp modW (cOp fdivW (cVar 1) (cK (.int 786432))) (cK (.int 5)))))
      (cSet 3 (cIx ixW (cOf (cFz (cLst (cCons (cFz (cLst (cCons (cK (.int 2)) (cCons (cK (.int 3)) cNil)))) (cCons (cFz (cLst (cCons (cK (.int 2)) (cCons (cK (.int 3)) cNil)))) (cCons (cFz (cLst cNil)) (cCons (cFz (cLst (cCons (cK (.int 2)) (cCons (cK (.int 3)) (cCons (cK (.int 4)) (cCons (cK (.int 5)) cNil)))))) (cCons (cFz (cLst (cCons (cK (.int 3)) (cCons (cK (.int 4)) (cCons (cK (.int 6)) cNil))))) cNil)))))))) (cOp modW (cOp fdivW (cVar 1) (cK (.int 3932160))) (cK (.int 5)))))) cNx)
      (cRet (cTup (cCons (cVar 2) (cCons (cVar 3) cNil))))))))
theorem ub_law_numbers (ρ : Ro) (L : Lg) : b_law_numbers ρ L = (cSeq (cSet 1 (cN absW (cCons (cN intW (cCons (cVar 0) cNil)) cNil)))
      (cSeq (cFz2 2 (cSetO 2 (cLc (sRange2 (cCons (cK (.int 1)) (cCons (cK (.int 9)) cNil))) (gN 4) (asT (cOp eqW (cOp modW (cOp fdivW (cVar 1) (cOp shlW (cK (.int 1)) (cVar 4))) (cK (.int 2))) (cK (.int 1)))) (cVar 4) (List.map (fun x => x.2) ([("k", 4)] : List (Str × Nat))))))
      (cSeq (cFz2 3 (cSetO 3 (cLc (sRange1 (cCons (cK (.int 9)) cNil)) (gN 4) (asT (cOp eqW (cOp modW (cOp fdivW (cVar 1) (cOp shlW (cK (.int 512)) (cVar 4))) (cK (.int 2))) (cK (.int 1)))) (cVar 4) (List.map (fun x => x.2) ([("k", 4)] : List (Str × Nat))))))
      (cSeq (cIfS (asT (cOp eqW (cOp modW (cOp fdivW (cVar 1) (cK (.int 262144))) (cK (.int 3))) (cK (.int 1)))) (cSeq (cSet 2 (cIx ixW (cOf (cFz (cLst (cCons (cFz (cLst (cCons (cK (.int 3)) cNil))) (cCons (cFz (cLst (cCons (cK (.int 3)) (cCons (cK (.int 6)) cNil)))) (cCons (cFz (cLst (cCons (cK (.int 2)) cNil))) (cCons (cFz (cLst (cCons (cK (.int 3)) (cCons (cK (.int 7)) (cCons (cK (.int 8)) cNil))))) (cCons (cFz (cLst (cCons (cK (.int 2)) (cCons (cK (.int 5)) cNil)))) cNil)))))))) (cOp modW (cOp fdivW (cVar 1) (cK (.int 786432))) (cK (.int 5)))))
      (cSet 3 (cIx ixW (cOf (cFz (cLst (cCons (cFz (cLst (cCons (cK (.int 2)) (cCons (cK (.int 3)) cNil)))) (cCons (cFz (cLst (cCons (cK (.int 2)) (cCons (cK (.int 3)) cNil)))) (cCons (cFz (cLst cNil)) (cCons (cFz (cLst (cCons (cK (.int 2)) (cCons (cK (.int 3)) (cCons (cK (.int 4)) (cCons (cK (.int 5)) cNil)))))) (cCons (cFz (cLst (cCons (cK (.int 3)) (cCons (cK (.int 4)) (cCons (cK (.int 6)) cNil))))) cNil)))))))) (cOp modW (cOp fdivW (cVar 1) (cK (.int 3932160))) (cK (.int 5)))))) cNx)
      (cRet (cTup (cCons (cVar 2) (cCons (cVar 3) cNil)))))))) ρ L := id rfl
def d_law_numbers : DF := runDef 5 b_law_numbers
theorem ud_law_numbers (ws : List W) (L : Lg) : d_law_numbers ws L = runDef 5 b_law_numbers ws L := id rfl
def for_law1 : SF :=
      (cIfS (cOr (asT (cOp neW (cMeth "Store" "cells" d_Store_cells (cVar 3) (cCons (cVar 9) cNil)) (cVar 8))) (asT (cOp neW (cMeth "Store" "level" d_Store_level (cVar 3) (cCons (cVar 9) cNil)) (cVar 7)))) (cRet (cK (.bl false))) cNx)
theorem ufor_law1 (ρ : Ro) (L : Lg) : for_law1 ρ L = (cIfS (cOr (asT (cOp neW (cMeth "Store" "cells" d_Store_cells (cVar 3) (cCons (cVar 9) cNil)) (cVar 8))) (asT (cOp neW (cMeth "Store" "level" d_Store_level (cVar 3) (cCons (cVar 9) cNil)) (cVar 7)))) (cRet (cK (.bl false))) cNx) ρ L := id rfl
def for_law2 : SF :=
      (cIfS (asT (cOp neW (cOp eqW (cVar 10) (cVar 9)) (cAndV (cOp eqW (cVar 11) (cVar 8)) (cOp eqW (cVar 12) (cVar 7))))) (cRet (cK (.bl false))) cNx)
theorem ufor_law2 (ρ : Ro) (L : Lg) : for_law2 ρ L = (cIfS (asT (cOp neW (cOp eqW (cVar 10) (cVar 9)) (cAndV (cOp eqW (cVar 11) (cVar 8)) (cOp eqW (cVar 12) (cVar 7))))) (cRet (cK (.bl false))) cNx) ρ L := id rfl
noncomputable def for_law3 : SF :=
      (cSeq (cSet 6 (cN absW (cCons (cCall d_law_cell (cCons (cVar 0) (cCons (cOp addW (cK (.int 2)) (cVar 5)) cNil))) cNil)))
      (cSeq (cSet 7 (cOp modW (cVar 6) (cK (.int 6))))
      (cSeq (cSet 8 (cCall d_law_some (cCons (cOp fdivW (cVar 6) (cK (.int 18))) (cCons (cOp modW (cOp fdivW (cVar 6) (cK (.int 6))) (cK (.int 21))) (cCons (cOp shlW (cK (.int 1)) (cVar 7)) (cCons (cOp shlW (cK (.int 1)) (cVar 7)) cNil))))))
      (cSeq (cIfS (cAnd (asT (cOp eqW (cOp modW (cOp fdivW (cVar 6) (cK (.int 126))) (cK (.int 3))) (cK (.int 1)))) (asT (cOp (cmpI fun i j => decide (j < i)) (cC lenW (cNm 4)) (cK (.int 0))))) (cSeq (cSet 8 (cFz (listW (cOf (cIx ixW (cOf (cIx ixW (cNm 4) (cOp modW (cOp fdivW (cVar 6) (cK (.int 378))) (cC lenW (cNm 4))))) (cK (.int 1)))))))
      (cSet 7 (cIx ixW (cOf (cIx ixW (cNm 4) (cOp modW (cOp fdivW (cVar 6) (cK (.int 378))) (cC lenW (cNm 4))))) (cK (.int 2))))) cNx)
      (cSeq (cSet 9 (cMeth "Store" "built" d_Store_built (cVar 3) (cCons (cRev (cOf (cOp addW (cVar 8) (cSl (cNm 8) cNoP (cPart (cK (.int 2))))))) (cCons (cVar 7) cNil))))
      (cSeq (cIfS (cNot (cTru (cCall d_law_right (cCons (cVar 3) (cCons (cVar 9) (cCons (cVar 8) (cCons (cVar 7) cNil))))))) (cRet (cK (.bl false))) cNx)
      (cSeq (cForB 4 (gTupW 3 (gsC (gN 10) (gsC (gN 11) (gsC (gN 12) gsN)))) for_law2)
      (cSeq (cAppB (cVar 4) (cTup (cCons (cVar 9) (cCons (cVar 8) (cCons (cVar 7) cNil)))))
      (cIfS (cOr (asT (cOp neW (cMeth "Store" "empty" d_Store_empty (cVar 3) (cCons (cVar 7) cNil)) (cMeth "Store" "built" d_Store_built (cVar 3) (cCons (cFz (cLst cNil)) (cCons (cVar 7) cNil))))) (asT (cOp neW (cMeth "Store" "cells" d_Store_cells (cVar 3) (cCons (cMeth "Store" "empty" d_Store_empty (cVar 3) (cCons (cVar 7) cNil)) cNil)) (cFz (cLst cNil))))) (cRet (cK (.bl false))) cNx)))))))))
theorem ufor_law3 (ρ : Ro) (L : Lg) : for_law3 ρ L = (cSeq (cSet 6 (cN absW (cCons (cCall d_law_cell (cCons (cVar 0) (cCons (cOp addW (cK (.int 2)) (cVar 5)) cNil))) cNil)))
      (cSeq (cSet 7 (cOp modW (cVar 6) (cK (.int 6))))
      (cSeq (cSet 8 (cCall d_law_some (cCons (cOp fdivW (cVar 6) (cK (.int 18))) (cCons (cOp modW (cOp fdivW (cVar 6) (cK (.int 6))) (cK (.int 21))) (cCons (cOp shlW (cK (.int 1)) (cVar 7)) (cCons (cOp shlW (cK (.int 1)) (cVar 7)) cNil))))))
      (cSeq (cIfS (cAnd (asT (cOp eqW (cOp modW (cOp fdivW (cVar 6) (cK (.int 126))) (cK (.int 3))) (cK (.int 1)))) (asT (cOp (cmpI fun i j => decide (j < i)) (cC lenW (cNm 4)) (cK (.int 0))))) (cSeq (cSet 8 (cFz (listW (cOf (cIx ixW (cOf (cIx ixW (cNm 4) (cOp modW (cOp fdivW (cVar 6) (cK (.int 378))) (cC lenW (cNm 4))))) (cK (.int 1)))))))
      (cSet 7 (cIx ixW (cOf (cIx ixW (cNm 4) (cOp modW (cOp fdivW (cVar 6) (cK (.int 378))) (cC lenW (cNm 4))))) (cK (.int 2))))) cNx)
      (cSeq (cSet 9 (cMeth "Store" "built" d_Store_built (cVar 3) (cCons (cRev (cOf (cOp addW (cVar 8) (cSl (cNm 8) cNoP (cPart (cK (.int 2))))))) (cCons (cVar 7) cNil))))
      (cSeq (cIfS (cNot (cTru (cCall d_law_right (cCons (cVar 3) (cCons (cVar 9) (cCons (cVar 8) (cCons (cVar 7) cNil))))))) (cRet (cK (.bl false))) cNx)
      (cSeq (cForB 4 (gTupW 3 (gsC (gN 10) (gsC (gN 11) (gsC (gN 12) gsN)))) for_law2)
      (cSeq (cAppB (cVar 4) (cTup (cCons (cVar 9) (cCons (cVar 8) (cCons (cVar 7) cNil)))))
      (cIfS (cOr (asT (cOp neW (cMeth "Store" "empty" d_Store_empty (cVar 3) (cCons (cVar 7) cNil)) (cMeth "Store" "built" d_Store_built (cVar 3) (cCons (cFz (cLst cNil)) (cCons (cVar 7) cNil))))) (asT (cOp neW (cMeth "Store" "cells" d_Store_cells (cVar 3) (cCons (cMeth "Store" "empty" d_Store_empty (cVar 3) (cCons (cVar 7) cNil)) cNil)) (cFz (cLst cNil))))) (cRet (cK (.bl false))) cNx))))))))) ρ L := id rfl
noncomputable def b_law : SF :=
      (cSeq (cAsg (gTupW 2 (gsC (gN 1) (gsC (gN 2) gsN))) (cCall d_law_numbers (cCons (cCall d_law_cell (cCons (cVar 0) (cCons (cK (.int 0)) cNil))) cNil)))
      (cSeq (cSet 3 (cMake "Store" d_Store_init (cCons (cMake "Rule" d_Rule_init (cCons (cVar 1) (cCons (cVar 2) cNil))) cNil)))
      (cSeq (cSet 4 (cBox (cLst cNil)))
      (cSeq (cFor (sRange1 (cCons (cOp addW (cK (.int 1)) (cOp modW (cCall d_law_cell (cCons (cVar 0) (cCons (cK (.int 1)) cNil))) (cK (.int 8)))) cNil)) (gN 5) for_law3)
      (cSeq (cForB 4 (gTupW 3 (gsC (gN 9) (gsC (gN 8) (gsC (gN 7) gsN)))) for_law1)
      (cRet (cAndV (cOp eqW (cMeth "Store" "empty" d_Store_empty (cVar 3) (cCons (cK (.int 0)) cNil)) (cK (.int 0))) (cOp eqW (cMeth "Store" "built" d_Store_built (cVar 3) (cCons (cFz (cLst (cCons (cTup (cCons (cK (.int 0)) (cCons (cK (.int 0)) cNil))) cNil))) (cCons (cK (.int 0)) cNil))) (cK (.int 1))))))))))
theorem ub_law (ρ : Ro) (L : Lg) : b_law ρ L = (cSeq (cAsg (gTupW 2 (gsC (gN 1) (gsC (gN 2) gsN))) (cCall d_law_numbers (cCons (cCall d_law_cell (cCons (cVar 0) (cCons (cK (.int 0)) cNil))) cNil)))
      (cSeq (cSet 3 (cMake "Store" d_Store_init (cCons (cMake "Rule" d_Rule_init (cCons (cVar 1) (cCons (cVar 2) cNil))) cNil)))
      (cSeq (cSet 4 (cBox (cLst cNil)))
      (cSeq (cFor (sRange1 (cCons (cOp addW (cK (.int 1)) (cOp modW (cCall d_law_cell (cCons (cVar 0) (cCons (cK (.int 1)) cNil))) (cK (.int 8)))) cNil)) (gN 5) for_law3)
      (cSeq (cForB 4 (gTupW 3 (gsC (gN 9) (gsC (gN 8) (gsC (gN 7) gsN)))) for_law1)
      (cRet (cAndV (cOp eqW (cMeth "Store" "empty" d_Store_empty (cVar 3) (cCons (cK (.int 0)) cNil)) (cK (.int 0))) (cOp eqW (cMeth "Store" "built" d_Store_built (cVar 3) (cCons (cFz (cLst (cCons (cTup (cCons (cK (.int 0)) (cCons (cK (.int 0)) cNil))) cNil))) (cCons (cK (.int 0)) cNil))) (cK (.int 1)))))))))) ρ L := id rfl
noncomputable def d_law : DF := runDef 13 b_law
theorem ud_law (ws : List W) (L : Lg) : d_law ws L = runDef 13 b_law ws L := id rfl

section
variable {P : Program} {w : World} {K : PySem.W.Frag} {mg : Str → Option Value} {base : Heap}
theorem sc_Store_joined : FnScope N_Store_joined p_Store_joined (defScope s_Store_joined) := ⟨rfl, rfl, rfl, by decide +kernel, rfl, by decide +kernel, by decide +kernel⟩
theorem ok_Store_joined {f : Addr} {fd : FuncData} (F : FnP K "joined" "Store.joined" s_Store_joined f fd) (T : Txt K mg)  : FnOk P w K mg base CX0 1 f fd p_Store_joined (spI K mg 5 d_Store_joined) := by
  have sc := sc_Store_joined
  refine fn_okD (k := 0) (N := N_Store_joined) (ps := p_Store_joined) (body := b_Store_joined) F sc fun cdv A outer s H E hr => ?_
  exact (iss_cons (is_set 5 sc.nd rfl (Or.inl rfl) (ie_tup (ia_cons (ie_var 1) (ia_cons (ie_var 2) (ia_cons (ie_var 3) (ia_cons (ie_var 4) ia_nil))))))
      (iss_cons (is_if (it_dnotin (hu_of hr) (ie_var 5) (IE.io (ie_fld T.fld_Store_numbers (ie_var 0)))) (iss_cons (is_putE (hu_of hr) (ie_fld T.fld_Store_numbers (ie_var 0)) (ie_var 5) (ie_len rfl T.len (IE.io (ie_fld T.fld_Store_levels (ie_var 0)))))
      (iss_cons (is_appB (ie_fld T.fld_Store_kept_parts (ie_var 0)) (ie_var 5))
      (iss_cons (is_appB (ie_fld T.fld_Store_levels (ie_var 0)) (ie_add (ie_ix (IE.io (ie_fld T.fld_Store_levels (ie_var 0))) (ie_var 1)) ie_int))
      (iss_one (is_appB (ie_fld T.fld_Store_counts (ie_var 0)) (ie_sum rfl rfl T.sum (IE.io (IN.fz (in_lc (own := [("part", 6)]) rfl sc.nd (ii_tup (ie_var 5)) (blkOk_by (own := [("part", 6)]) (N := N_Store_joined) (sc := defScope s_Store_joined) (by decide +kernel)) (by decide) (fun _ _ _ _ _ => (ig_name 6 sc.nd rfl (Or.inl rfl))) (fun _ _ _ _ _ => its_nil) (fun _ _ _ _ _ => (ie_ix (IE.io (ie_fld T.fld_Store_counts (ie_var 0))) (ie_var 6)))))))))))) iss_nil)
      (iss_one (is_ret (ie_dget (hu_of hr) (IE.io (ie_fld T.fld_Store_numbers (ie_var 0))) (ie_var 5))))))
theorem sc_Store_empty : FnScope N_Store_empty p_Store_empty (defScope s_Store_empty) := ⟨rfl, rfl, rfl, by decide +kernel, rfl, by decide +kernel, by decide +kernel⟩
theorem ok_Store_empty {f : Addr} {fd : FuncData} (F : FnP K "empty" "Store.empty" s_Store_empty f fd) (T : Txt K mg) (M_Store_joined : MetD P w K mg base 1 "Store" "joined" p_Store_joined d_Store_joined) : FnOk P w K mg base CX0 2 f fd p_Store_empty (spI K mg 2 d_Store_empty) := by
  have sc := sc_Store_empty
  refine fn_okD (k := 1) (N := N_Store_empty) (ps := p_Store_empty) (body := b_Store_empty) F sc fun cdv A outer s H E hr => ?_
  exact (iss_cons (is_while PassesOwn.never (it_le (ie_len rfl T.len (IE.io (ie_fld T.fld_Store_empties (ie_var 0)))) (ie_var 1)) (iss_cons (is_set 2 sc.nd rfl (Or.inl rfl) (ie_ix (IE.io (ie_fld T.fld_Store_empties (ie_var 0))) (ie_neg ie_int)))
      (iss_one (is_appB (ie_fld T.fld_Store_empties (ie_var 0)) (ie_meth M_Store_joined hr (by decide) (ie_var 0) (ia_cons (ie_var 2) (ia_cons (ie_var 2) (ia_cons (ie_var 2) (ia_cons (ie_var 2) ia_nil)))) (len_add1 (len_cons (len_cons (len_cons (len_cons len_nil))))))))))
      (iss_one (is_ret (ie_ix (IE.io (ie_fld T.fld_Store_empties (ie_var 0))) (ie_var 1)))))
theorem sc_Store_built : FnScope N_Store_built p_Store_built (defScope s_Store_built) := ⟨rfl, rfl, rfl, by decide +kernel, rfl, by decide +kernel, by decide +kernel⟩
theorem ok_Store_built {f : Addr} {fd : FuncData} (F : FnP K "built" "Store.built" s_Store_built f fd) (T : Txt K mg) (j : Nat) (hj : 2 ≤ j) {r_Store_built : DF} (M_Store_joined : MetD P w K mg base 1 "Store" "joined" p_Store_joined d_Store_joined) (M_Store_built : MetD P w K mg base j "Store" "built" p_Store_built r_Store_built) (M_Store_empty : MetD P w K mg base 2 "Store" "empty" p_Store_empty d_Store_empty) : FnOk P w K mg base CX0 (j + 1) f fd p_Store_built (spI K mg 3 (runDef 10 (b_Store_built r_Store_built))) := by
  have sc := sc_Store_built
  refine fn_okD (k := j) (N := N_Store_built) (ps := p_Store_built) (body := b_Store_built r_Store_built) F sc fun cdv A outer s H E hr => ?_
  exact (iss_cons (is_if (it_not (it_truO (io_nm 1))) (iss_one (is_ret (ie_meth M_Store_empty hr (by omega) (ie_var 0) (ia_cons (ie_var 2) ia_nil) (len_add1 (len_cons len_nil))))) iss_nil)
      (iss_cons (is_if (it_eq hr.units (ie_var 2) ie_int) (iss_one (is_ret (ie_con T.con_ALIVE rfl))) iss_nil)
      (iss_cons (is_set 3 sc.nd rfl (Or.inl rfl) (ie_shl ie_int (ie_sub (ie_var 2) ie_int)))
      (iss_cons (is_set 4 sc.nd rfl (Or.inl rfl) (IN.fz (in_lst (ia_cons (IN.box (in_lst ia_nil)) (ia_cons (IN.box (in_lst ia_nil)) (ia_cons (IN.box (in_lst ia_nil)) (ia_cons (IN.box (in_lst ia_nil)) ia_nil)))))))
      (iss_cons (is_for PassesOwn.never rfl (ii_list (ie_var 1)) (ig_tup rfl (igs_cons (ig_name 5 sc.nd rfl (Or.inl rfl)) (igs_cons (ig_name 6 sc.nd rfl (Or.inl rfl)) igs_nil))) (iss_cons (is_set 7 sc.nd rfl (Or.inl rfl) (ie_add (ie_if (it_ge (ie_var 5) (ie_var 3)) ie_int ie_int) (ie_if (it_ge (ie_var 6) (ie_var 3)) ie_int ie_int)))
      (iss_one (is_appB (ie_ix (io_nm 4) (ie_var 7)) (ie_tup (ia_cons (ie_band (ie_var 5) (ie_sub (ie_var 3) ie_int)) (ia_cons (ie_band (ie_var 6) (ie_sub (ie_var 3) ie_int)) ia_nil)))))))
      (iss_cons (IS.fz2 8 (ps_setLcW (i := 8) (own := [("part", 9)]) rfl sc.nd rfl rfl (sw_true rfl rfl rfl (by decide +kernel)) (ii_list (ie_var 4)) (blkOk_by (own := [("part", 9)]) (N := N_Store_built) (sc := defScope s_Store_built) (by decide +kernel)) (by decide) (fun _ _ _ _ _ => (ig_name 9 sc.nd rfl (Or.inl rfl))) (fun _ _ _ _ _ => its_nil) (fun _ _ _ _ _ => (ie_meth M_Store_built hr (by omega) (ie_var 0) (ia_cons (IE.frB (ie_var 9)) (ia_cons (ie_sub (ie_var 2) ie_int) ia_nil)) (len_add1 (len_cons (len_cons len_nil)))))))
      (iss_one (is_ret (ie_meth M_Store_joined hr (by omega) (ie_var 0) (ia_cons (ie_ix (io_nm 8) ie_int) (ia_cons (ie_ix (io_nm 8) ie_int) (ia_cons (ie_ix (io_nm 8) ie_int) (ia_cons (ie_ix (io_nm 8) ie_int) ia_nil)))) (len_add1 (len_cons (len_cons (len_cons (len_cons len_nil))))))))))))))
theorem rec_Store_built {C_Store : Addr} (cl_Store : ClsD K mg "Store" C_Store) {f_Store_built : Addr} {fd_Store_built : FuncData} (F_Store_built : FnP K "built" "Store.built" s_Store_built f_Store_built fd_Store_built) (m_Store_built : Meth K C_Store "built" f_Store_built) (B_Store_built : Binds K fd_Store_built p_Store_built []) (T : Txt K mg) (M_Store_joined : MetD P w K mg base 1 "Store" "joined" p_Store_joined d_Store_joined) (M_Store_empty : MetD P w K mg base 2 "Store" "empty" p_Store_empty d_Store_empty) : ∀ n : Nat, (MetD P w K mg base (2 + n) "Store" "built" p_Store_built (dr_Store_built n))
  | 0 => ⟨⟨C_Store, f_Store_built, fd_Store_built, cl_Store, m_Store_built, fnok_none, B_Store_built⟩⟩
  | n + 1 => by
    have ih := rec_Store_built cl_Store F_Store_built m_Store_built B_Store_built T M_Store_joined M_Store_empty n
    have M_Store_built := ih
    exact ⟨⟨C_Store, f_Store_built, fd_Store_built, cl_Store, m_Store_built, ok_Store_built F_Store_built T (2 + n) (by omega) M_Store_joined M_Store_built M_Store_empty, B_Store_built⟩⟩
theorem sc_pattern : FnScope N_pattern p_pattern (defScope s_pattern) := ⟨rfl, rfl, rfl, by decide +kernel, rfl, by decide +kernel, by decide +kernel⟩
theorem ok_pattern {f : Addr} {fd : FuncData} (F : FnP K "pattern" "pattern" s_pattern f fd) (T : Txt K mg)  : FnOk P w K mg base CX0 1 f fd p_pattern (spI K mg 1 d_pattern) := by
  have sc := sc_pattern
  refine fn_okD (k := 0) (N := N_pattern) (ps := p_pattern) (body := b_pattern) F sc fun cdv A outer s H E hr => ?_
  exact (iss_one (is_ret (IN.fz (in_ssetG rfl (u100 hr) rfl T.sorted rfl T.set (io_nm 0)))))
theorem def_pattern {f : Addr} {fd : FuncData} (F : FnP K "pattern" "pattern" s_pattern f fd) (T : Txt K mg) (hm : mg "pattern" = some (.ref f))  : Def P w K mg base 1 "pattern" p_pattern d_pattern :=
  ⟨f, fd, ok_pattern F T , hm, F.kp, F.bindsN fun _ _ _ _ _ _ us hl => match us, hl with | [_], _ => rfl⟩
theorem sc_Store_collect_cells : FnScope N_Store_collect_cells p_Store_collect_cells (defScope s_Store_collect_cells) := ⟨rfl, rfl, rfl, by decide +kernel, rfl, by decide +kernel, by decide +kernel⟩
theorem ok_Store_collect_cells {f : Addr} {fd : FuncData} (F : FnP K "collect_cells" "Store.collect_cells" s_Store_collect_cells f fd) (T : Txt K mg) (j : Nat) (hj : 0 ≤ j) {r_Store_collect_cells : DF} (M_Store_collect_cells : MetD P w K mg base j "Store" "collect_cells" p_Store_collect_cells r_Store_collect_cells) : FnOk P w K mg base CX0 (j + 1) f fd p_Store_collect_cells (spI K mg 5 (runDef 10 (b_Store_collect_cells r_Store_collect_cells))) := by
  have sc := sc_Store_collect_cells
  refine fn_okD (k := j) (N := N_Store_collect_cells) (ps := p_Store_collect_cells) (body := b_Store_collect_cells r_Store_collect_cells) F sc fun cdv A outer s H E hr => ?_
  exact (iss_cons (is_if (it_eq hr.units (ie_ix (IE.io (ie_fld T.fld_Store_counts (ie_var 0))) (ie_var 1)) ie_int) (iss_one is_retN) iss_nil)
      (iss_cons (is_if (it_eq hr.units (ie_var 1) (ie_con T.con_ALIVE rfl)) (iss_cons (is_appB (ie_var 4) (ie_tup (ia_cons (ie_var 2) (ia_cons (ie_var 3) ia_nil))))
      (iss_one is_retN)) iss_nil)
      (iss_cons (is_set 5 sc.nd rfl (Or.inl rfl) (ie_shl ie_int (ie_sub (ie_ix (IE.io (ie_fld T.fld_Store_levels (ie_var 0))) (ie_var 1)) ie_int)))
      (iss_cons (is_asg (ie_ix (IE.io (ie_fld T.fld_Store_kept_parts (ie_var 0))) (ie_var 1)) (ig_tup rfl (igs_cons (ig_name 6 sc.nd rfl (Or.inl rfl)) (igs_cons (ig_name 7 sc.nd rfl (Or.inl rfl)) (igs_cons (ig_name 8 sc.nd rfl (Or.inl rfl)) (igs_cons (ig_name 9 sc.nd rfl (Or.inl rfl)) igs_nil))))))
      (iss_cons (is_expr (ie_meth M_Store_collect_cells hr (by omega) (ie_var 0) (ia_cons (ie_var 6) (ia_cons (ie_var 2) (ia_cons (ie_var 3) (ia_cons (ie_var 4) ia_nil)))) (len_add1 (len_cons (len_cons (len_cons (len_cons len_nil)))))))
      (iss_cons (is_expr (ie_meth M_Store_collect_cells hr (by omega) (ie_var 0) (ia_cons (ie_var 7) (ia_cons (ie_var 2) (ia_cons (ie_add (ie_var 3) (ie_var 5)) (ia_cons (ie_var 4) ia_nil)))) (len_add1 (len_cons (len_cons (len_cons (len_cons len_nil)))))))
      (iss_cons (is_expr (ie_meth M_Store_collect_cells hr (by omega) (ie_var 0) (ia_cons (ie_var 8) (ia_cons (ie_add (ie_var 2) (ie_var 5)) (ia_cons (ie_var 3) (ia_cons (ie_var 4) ia_nil)))) (len_add1 (len_cons (len_cons (len_cons (len_cons len_nil)))))))
      (iss_one (is_expr (ie_meth M_Store_collect_cells hr (by omega) (ie_var 0) (ia_cons (ie_var 9) (ia_cons (ie_add (ie_var 2) (ie_var 5)) (ia_cons (ie_add (ie_var 3) (ie_var 5)) (ia_cons (ie_var 4) ia_nil)))) (len_add1 (len_cons (len_cons (len_cons (len_cons len_nil)))))))))))))))
theorem rec_Store_collect_cells {C_Store : Addr} (cl_Store : ClsD K mg "Store" C_Store) {f_Store_collect_cells : Addr} {fd_Store_collect_cells : FuncData} (F_Store_collect_cells : FnP K "collect_cells" "Store.collect_cells" s_Store_collect_cells f_Store_collect_cells fd_Store_collect_cells) (m_Store_collect_cells : Meth K C_Store "collect_cells" f_Store_collect_cells) (B_Store_collect_cells : Binds K fd_Store_collect_cells p_Store_collect_cells []) (T : Txt K mg)  : ∀ n : Nat, (MetD P w K mg base (0 + n) "Store" "collect_cells" p_Store_collect_cells (dr_Store_collect_cells n))
  | 0 => ⟨⟨C_Store, f_Store_collect_cells, fd_Store_collect_cells, cl_Store, m_Store_collect_cells, fnok_none, B_Store_collect_cells⟩⟩
  | n + 1 => by
    have ih := rec_Store_collect_cells cl_Store F_Store_collect_cells m_Store_collect_cells B_Store_collect_cells T  n
    have M_Store_collect_cells := ih
    exact ⟨⟨C_Store, f_Store_collect_cells, fd_Store_collect_cells, cl_Store, m_Store_collect_cells, ok_Store_collect_cells F_Store_collect_cells T (0 + n) (by omega) M_Store_collect_cells, B_Store_collect_cells⟩⟩
theorem sc_Store_cells : FnScope N_Store_cells p_Store_cells (defScope s_Store_cells) := ⟨rfl, rfl, rfl, by decide +kernel, rfl, by decide +kernel, by decide +kernel⟩
theorem ok_Store_cells {f : Addr} {fd : FuncData} (F : FnP K "cells" "Store.cells" s_Store_cells f fd) (T : Txt K mg) (G_pattern : Def P w K mg base 1 "pattern" p_pattern d_pattern) (M_Store_collect_cells : MetD P w K mg base 40 "Store" "collect_cells" p_Store_collect_cells d_Store_collect_cells) : FnOk P w K mg base CX0 41 f fd p_Store_cells (spI K mg 2 d_Store_cells) := by
  have sc := sc_Store_cells
  refine fn_okD (k := 40) (N := N_Store_cells) (ps := p_Store_cells) (body := b_Store_cells) F sc fun cdv A outer s H E hr => ?_
  exact (iss_cons (is_set 2 sc.nd rfl (Or.inl rfl) (IN.box (in_lst ia_nil)))
      (iss_cons (is_expr (ie_meth M_Store_collect_cells hr (by decide) (ie_var 0) (ia_cons (ie_var 1) (ia_cons ie_int (ia_cons ie_int (ia_cons (ie_var 2) ia_nil)))) (len_add1 (len_cons (len_cons (len_cons (len_cons len_nil)))))))
      (iss_one (is_ret (ie_callD G_pattern hr (by decide) rfl (ia_cons (IE.frB (ie_var 2)) ia_nil) (len_cons len_nil))))))
theorem sc_Store_level : FnScope N_Store_level p_Store_level (defScope s_Store_level) := ⟨rfl, rfl, rfl, by decide +kernel, rfl, by decide +kernel, by decide +kernel⟩
theorem ok_Store_level {f : Addr} {fd : FuncData} (F : FnP K "level" "Store.level" s_Store_level f fd) (T : Txt K mg)  : FnOk P w K mg base CX0 1 f fd p_Store_level (spI K mg 2 d_Store_level) := by
  have sc := sc_Store_level
  refine fn_okD (k := 0) (N := N_Store_level) (ps := p_Store_level) (body := b_Store_level) F sc fun cdv A outer s H E hr => ?_
  exact (iss_one (is_ret (ie_ix (IE.io (ie_fld T.fld_Store_levels (ie_var 0))) (ie_var 1))))
theorem sc_Store_parts : FnScope N_Store_parts p_Store_parts (defScope s_Store_parts) := ⟨rfl, rfl, rfl, by decide +kernel, rfl, by decide +kernel, by decide +kernel⟩
theorem ok_Store_parts {f : Addr} {fd : FuncData} (F : FnP K "parts" "Store.parts" s_Store_parts f fd) (T : Txt K mg)  : FnOk P w K mg base CX0 1 f fd p_Store_parts (spI K mg 2 d_Store_parts) := by
  have sc := sc_Store_parts
  refine fn_okD (k := 0) (N := N_Store_parts) (ps := p_Store_parts) (body := b_Store_parts) F sc fun cdv A outer s H E hr => ?_
  exact (iss_one (is_ret (ie_ix (IE.io (ie_fld T.fld_Store_kept_parts (ie_var 0))) (ie_var 1))))
theorem sc_law_integer : FnScope N_law_integer p_law_integer (defScope s_law_integer) := ⟨rfl, rfl, rfl, by decide +kernel, rfl, by decide +kernel, by decide +kernel⟩
theorem ok_law_integer {f : Addr} {fd : FuncData} (F : FnP K "_law_integer" "_law_integer" s_law_integer f fd) (T : Txt K mg)  : FnOk P w K mg base CX0 1 f fd p_law_integer (spI K mg 1 d_law_integer) := by
  have sc := sc_law_integer
  refine fn_okD (k := 0) (N := N_law_integer) (ps := p_law_integer) (body := b_law_integer) F sc fun cdv A outer s H E hr => ?_
  exact (iss_one (is_ret (ie_and (ie_isi rfl T.isinstance (ia_cons (ie_var 0) (ia_cons (ie_ty rfl T.int (by decide +kernel)) ia_nil))) (ie_one (ie_not (ie_isi rfl T.isinstance (ia_cons (ie_var 0) (ia_cons (ie_ty rfl T.bool (by decide +kernel)) ia_nil))))))))
theorem def_law_integer {f : Addr} {fd : FuncData} (F : FnP K "_law_integer" "_law_integer" s_law_integer f fd) (T : Txt K mg) (hm : mg "_law_integer" = some (.ref f))  : Def P w K mg base 1 "_law_integer" p_law_integer d_law_integer :=
  ⟨f, fd, ok_law_integer F T , hm, F.kp, F.bindsN fun _ _ _ _ _ _ us hl => match us, hl with | [_], _ => rfl⟩
theorem sc_law_cells : FnScope N_law_cells p_law_cells (defScope s_law_cells) := ⟨rfl, rfl, rfl, by decide +kernel, rfl, by decide +kernel, by decide +kernel⟩
theorem ok_law_cells {f : Addr} {fd : FuncData} (F : FnP K "_law_cells" "_law_cells" s_law_cells f fd) (T : Txt K mg) (G_law_integer : Def P w K mg base 1 "_law_integer" p_law_integer d_law_integer) : FnOk P w K mg base CX0 2 f fd p_law_cells (spI K mg 1 d_law_cells) := by
  have sc := sc_law_cells
  refine fn_okD (k := 1) (N := N_law_cells) (ps := p_law_cells) (body := b_law_cells) F sc fun cdv A outer s H E hr => ?_
  exact (iss_cons (is_if (it_not (it_tru (ie_isi rfl T.isinstance (ia_cons (ie_var 0) (ia_cons (ie_ty rfl T.list (by decide +kernel)) ia_nil))))) (iss_one (is_ret ie_bl)) iss_nil)
      (iss_cons (is_for PassesOwn.never rfl (ii_list (ie_var 0)) (ig_name 1 sc.nd rfl (Or.inl rfl)) (iss_one (is_if (IW.it (iw_or (it_not (it_tru (ie_isi rfl T.isinstance (ia_cons (ie_var 1) (ia_cons (ie_ty rfl T.tuple (by decide +kernel)) ia_nil))))) (iw_or (it_ne hr.units (ie_len rfl T.len (io_nm 1)) ie_int) (iw_or (it_not (it_tru (ie_callD G_law_integer hr (by decide) rfl (ia_cons (ie_ix (io_nm 1) ie_int) ia_nil) (len_cons len_nil)))) (iw_or1 (it_not (it_tru (ie_callD G_law_integer hr (by decide) rfl (ia_cons (ie_ix (io_nm 1) ie_int) ia_nil) (len_cons len_nil))))))))) (iss_one (is_ret ie_bl)) iss_nil)))
      (iss_one (is_ret (ie_eq hr.units (ie_var 0) (IN.fz (in_sorted (u100 hr) rfl T.sorted (io_nm 0))))))))
theorem def_law_cells {f : Addr} {fd : FuncData} (F : FnP K "_law_cells" "_law_cells" s_law_cells f fd) (T : Txt K mg) (hm : mg "_law_cells" = some (.ref f)) (G_law_integer : Def P w K mg base 1 "_law_integer" p_law_integer d_law_integer) : Def P w K mg base 2 "_law_cells" p_law_cells d_law_cells :=
  ⟨f, fd, ok_law_cells F T G_law_integer, hm, F.kp, F.bindsN fun _ _ _ _ _ _ us hl => match us, hl with | [_], _ => rfl⟩
theorem sc_Store_count : FnScope N_Store_count p_Store_count (defScope s_Store_count) := ⟨rfl, rfl, rfl, by decide +kernel, rfl, by decide +kernel, by decide +kernel⟩
theorem ok_Store_count {f : Addr} {fd : FuncData} (F : FnP K "count" "Store.count" s_Store_count f fd) (T : Txt K mg)  : FnOk P w K mg base CX0 1 f fd p_Store_count (spI K mg 2 d_Store_count) := by
  have sc := sc_Store_count
  refine fn_okD (k := 0) (N := N_Store_count) (ps := p_Store_count) (body := b_Store_count) F sc fun cdv A outer s H E hr => ?_
  exact (iss_one (is_ret (ie_ix (IE.io (ie_fld T.fld_Store_counts (ie_var 0))) (ie_var 1))))
theorem sc_law_right : FnScope N_law_right p_law_right (defScope s_law_right) := ⟨rfl, rfl, rfl, by decide +kernel, rfl, by decide +kernel, by decide +kernel⟩
theorem ok_law_right {f : Addr} {fd : FuncData} (F : FnP K "_law_right" "_law_right" s_law_right f fd) (T : Txt K mg) (M_Store_joined : MetD P w K mg base 1 "Store" "joined" p_Store_joined d_Store_joined) (M_Store_level : MetD P w K mg base 1 "Store" "level" p_Store_level d_Store_level) (M_Store_cells : MetD P w K mg base 41 "Store" "cells" p_Store_cells d_Store_cells) (M_Store_parts : MetD P w K mg base 1 "Store" "parts" p_Store_parts d_Store_parts) (G_law_cells : Def P w K mg base 2 "_law_cells" p_law_cells d_law_cells) (G_law_integer : Def P w K mg base 1 "_law_integer" p_law_integer d_law_integer) (M_Store_count : MetD P w K mg base 1 "Store" "count" p_Store_count d_Store_count) : FnOk P w K mg base CX0 42 f fd p_law_right (spI K mg 4 d_law_right) := by
  have sc := sc_law_right
  refine fn_okD (k := 41) (N := N_law_right) (ps := p_law_right) (body := b_law_right) F sc fun cdv A outer s H E hr => ?_
  exact (iss_cons (is_if (IW.it (iw_or (it_not (it_tru (ie_callD G_law_integer hr (by decide) rfl (ia_cons (ie_var 1) ia_nil) (len_cons len_nil)))) (iw_or (it_lt (ie_var 1) ie_int) (iw_or (it_ne hr.units (ie_meth M_Store_level hr (by decide) (ie_var 0) (ia_cons (ie_var 1) ia_nil) (len_add1 (len_cons len_nil))) (ie_var 3)) (iw_or1 (it_ne hr.units (ie_meth M_Store_count hr (by decide) (ie_var 0) (ia_cons (ie_var 1) ia_nil) (len_add1 (len_cons len_nil))) (ie_len rfl T.len (io_nm 2)))))))) (iss_one (is_ret ie_bl)) iss_nil)
      (iss_cons (is_set 4 sc.nd rfl (Or.inl rfl) (ie_meth M_Store_cells hr (by decide) (ie_var 0) (ia_cons (ie_var 1) ia_nil) (len_add1 (len_cons len_nil))))
      (iss_cons (is_if (IW.it (iw_or (it_not (it_tru (ie_callD G_law_cells hr (by decide) rfl (ia_cons (ie_var 4) ia_nil) (len_cons len_nil)))) (iw_or1 (it_ne hr.units (ie_var 4) (ie_var 2))))) (iss_one (is_ret ie_bl)) iss_nil)
      (iss_cons (is_if (it_eq hr.units (ie_var 3) ie_int) (iss_one (is_ret (ie_eq hr.units (ie_var 1) (ie_len rfl T.len (io_nm 2))))) iss_nil)
      (iss_cons (is_set 5 sc.nd rfl (Or.inr rfl) (ie_shl ie_int (ie_sub (ie_var 3) ie_int)))
      (iss_cons (is_set 6 sc.nd rfl (Or.inl rfl) (ie_meth M_Store_parts hr (by decide) (ie_var 0) (ia_cons (ie_var 1) ia_nil) (len_add1 (len_cons len_nil))))
      (iss_cons (is_if (IW.it (iw_or (it_not (it_tru (ie_isi rfl T.isinstance (ia_cons (ie_var 6) (ia_cons (ie_ty rfl T.tuple (by decide +kernel)) ia_nil))))) (iw_or1 (it_ne hr.units (ie_len rfl T.len (io_nm 6)) ie_int)))) (iss_one (is_ret ie_bl)) iss_nil)
      (iss_cons (is_for PassesOwn.never rfl (ii_range1 rfl T.range (ia_cons ie_int ia_nil)) (ig_name 7 sc.nd rfl (Or.inl rfl)) (iss_cons (is_set 8 sc.nd rfl (Or.inr rfl) (ie_mul (ie_var 5) (ie_fdiv (ie_var 7) ie_int)))
      (iss_cons (is_set 9 sc.nd rfl (Or.inr rfl) (ie_mul (ie_var 5) (ie_mod (ie_var 7) ie_int)))
      (iss_cons (IS.fz2 10 (ps_setLcW (i := 10) (own := [("r", 11), ("c", 12)]) rfl sc.nd rfl rfl (sw_true rfl rfl rfl (by decide +kernel)) (ii_list (ie_var 2)) (blkOk_by (own := [("r", 11), ("c", 12)]) (N := N_law_right) (sc := defScope s_law_right) (by decide +kernel)) (by decide) (fun _ _ _ _ _ => (ig_tup rfl (igs_cons (ig_name 11 sc.nd rfl (Or.inl rfl)) (igs_cons (ig_name 12 sc.nd rfl (Or.inl rfl)) igs_nil)))) (fun _ _ _ _ _ => (its_one (IW.it (iw_and (it_chain (ie_var 8) (ie_var 11) (ie_add (ie_var 8) (ie_var 5))) (iw_and1 (it_chain (ie_var 9) (ie_var 12) (ie_add (ie_var 9) (ie_var 5)))))))) (fun _ _ _ _ _ => (ie_tup (ia_cons (ie_sub (ie_var 11) (ie_var 8)) (ia_cons (ie_sub (ie_var 12) (ie_var 9)) ia_nil))))))
      (iss_one (is_if (IW.it (iw_or (it_ne hr.units (ie_meth M_Store_level hr (by decide) (ie_var 0) (ia_cons (ie_ix (io_nm 6) (ie_var 7)) ia_nil) (len_add1 (len_cons len_nil))) (ie_sub (ie_var 3) ie_int)) (iw_or1 (it_ne hr.units (ie_meth M_Store_cells hr (by decide) (ie_var 0) (ia_cons (ie_ix (io_nm 6) (ie_var 7)) ia_nil) (len_add1 (len_cons len_nil))) (ie_var 10))))) (iss_one (is_ret ie_bl)) iss_nil))))))
      (iss_one (is_ret (ie_eq hr.units (ie_meth M_Store_joined hr (by decide) (ie_var 0) (ia_cons (ie_ix (io_nm 6) ie_int) (ia_cons (ie_ix (io_nm 6) ie_int) (ia_cons (ie_ix (io_nm 6) ie_int) (ia_cons (ie_ix (io_nm 6) ie_int) ia_nil)))) (len_add1 (len_cons (len_cons (len_cons (len_cons len_nil)))))) (ie_var 1))))))))))))
theorem def_law_right {f : Addr} {fd : FuncData} (F : FnP K "_law_right" "_law_right" s_law_right f fd) (T : Txt K mg) (hm : mg "_law_right" = some (.ref f)) (M_Store_joined : MetD P w K mg base 1 "Store" "joined" p_Store_joined d_Store_joined) (M_Store_level : MetD P w K mg base 1 "Store" "level" p_Store_level d_Store_level) (M_Store_cells : MetD P w K mg base 41 "Store" "cells" p_Store_cells d_Store_cells) (M_Store_parts : MetD P w K mg base 1 "Store" "parts" p_Store_parts d_Store_parts) (G_law_cells : Def P w K mg base 2 "_law_cells" p_law_cells d_law_cells) (G_law_integer : Def P w K mg base 1 "_law_integer" p_law_integer d_law_integer) (M_Store_count : MetD P w K mg base 1 "Store" "count" p_Store_count d_Store_count) : Def P w K mg base 42 "_law_right" p_law_right d_law_right :=
  ⟨f, fd, ok_law_right F T M_Store_joined M_Store_level M_Store_cells M_Store_parts G_law_cells G_law_integer M_Store_count, hm, F.kp, F.bindsN fun _ _ _ _ _ _ us hl => match us, hl with | [_, _, _, _], _ => rfl⟩
theorem sc_law_row : FnScope N_law_row p_law_row (defScope s_law_row) := ⟨rfl, rfl, rfl, by decide +kernel, rfl, by decide +kernel, by decide +kernel⟩
theorem ok_law_row {f : Addr} {fd : FuncData} (F : FnP K "_law_row" "_law_row" s_law_row f fd) (T : Txt K mg)  : FnOk P w K mg base CX0 1 f fd p_law_row (spI K mg 3 d_law_row) := by
  have sc := sc_law_row
  refine fn_okD (k := 0) (N := N_law_row) (ps := p_law_row) (body := b_law_row) F sc fun cdv A outer s H E hr => ?_
  exact (iss_cons (is_set 3 sc.nd rfl (Or.inl rfl) (ie_abs rfl T.abs (ia_cons (ie_int1 rfl T.int (ia_cons (ie_var 0) ia_nil)) ia_nil)))
      (iss_cons (is_set 4 sc.nd rfl (Or.inl rfl) (ie_add (ie_mod (ie_int1 rfl T.int (ia_cons (ie_var 0) ia_nil)) ie_int) ie_int))
      (iss_cons (is_setO 5 sc.nd rfl (Or.inl rfl) (in_lst ia_nil))
      (iss_cons (is_for PassesOwn.never rfl (ii_range1 rfl T.range (ia_cons (ie_var 1) ia_nil)) (ig_name 6 sc.nd rfl (Or.inl rfl)) (iss_one (is_if (it_ge (ie_var 3) (ie_var 2)) (iss_cons (is_app 5 (ie_mod (ie_int1 rfl T.int (ia_cons (ie_var 3) ia_nil)) (ie_var 2)))
      (iss_one (is_set 3 sc.nd rfl (Or.inl rfl) (ie_fdiv (ie_var 3) (ie_var 2))))) (iss_cons (is_set 4 sc.nd rfl (Or.inl rfl) (ie_mod (ie_int1 rfl T.int (ia_cons (ie_add (ie_add (ie_mul (ie_var 4) ie_int) (ie_mul ie_int (ie_var 6))) ie_int) ia_nil)) ie_int))
      (iss_one (is_app 5 (ie_mod (ie_int1 rfl T.int (ia_cons (ie_fdiv (ie_mul (ie_var 4) ie_int) ie_int) ia_nil)) (ie_var 2))))))))
      (iss_one (IS.frz 5 (is_ret (ie_var 5))))))))
theorem def_law_row {f : Addr} {fd : FuncData} (F : FnP K "_law_row" "_law_row" s_law_row f fd) (T : Txt K mg) (hm : mg "_law_row" = some (.ref f))  : Def P w K mg base 1 "_law_row" p_law_row d_law_row :=
  ⟨f, fd, ok_law_row F T , hm, F.kp, F.bindsN fun _ _ _ _ _ _ us hl => match us, hl with | [_, _, _], _ => rfl⟩
theorem sc_law_some : FnScope N_law_some p_law_some (defScope s_law_some) := ⟨rfl, rfl, rfl, by decide +kernel, rfl, by decide +kernel, by decide +kernel⟩
theorem ok_law_some {f : Addr} {fd : FuncData} (F : FnP K "_law_some" "_law_some" s_law_some f fd) (T : Txt K mg) (G_law_row : Def P w K mg base 1 "_law_row" p_law_row d_law_row) : FnOk P w K mg base CX0 2 f fd p_law_some (spI K mg 4 d_law_some) := by
  have sc := sc_law_some
  refine fn_okD (k := 1) (N := N_law_some) (ps := p_law_some) (body := b_law_some) F sc fun cdv A outer s H E hr => ?_
  exact (iss_cons (is_set 4 sc.nd rfl (Or.inl rfl) (ie_abs rfl T.abs (ia_cons (ie_int1 rfl T.int (ia_cons (ie_var 0) ia_nil)) ia_nil)))
      (iss_cons (is_setO 5 sc.nd rfl (Or.inl rfl) in_dictT)
      (iss_cons (is_for PassesOwn.never rfl (ii_list (ie_callD G_law_row hr (by decide) rfl (ia_cons (ie_var 0) (ia_cons (ie_var 1) (ia_cons (ie_mul (ie_var 2) (ie_var 3)) ia_nil))) (len_cons (len_cons (len_cons len_nil))))) (ig_name 6 sc.nd rfl (Or.inl rfl)) (iss_one (is_put 5 (hu_of hr) (ie_tup (ia_cons (ie_fdiv (ie_var 6) (ie_var 3)) (ia_cons (ie_mod (ie_var 6) (ie_var 3)) ia_nil))) ie_bl)))
      (iss_one (IS.frz 5 (is_ret (IN.fz (in_sorted (u100 hr) rfl T.sorted (IE.io (IN.fz (in_lcD (own := [("place", 7)]) 5 rfl sc.nd (blkOk_by (own := [("place", 7)]) (N := N_law_some) (sc := defScope s_law_some) (by decide +kernel)) (by decide) (fun _ _ _ _ _ => (ig_name 7 sc.nd rfl (Or.inl rfl))) (fun _ _ _ _ _ => its_nil) (fun _ _ _ _ _ => (ie_var 7)))))))))))))
theorem def_law_some {f : Addr} {fd : FuncData} (F : FnP K "_law_some" "_law_some" s_law_some f fd) (T : Txt K mg) (hm : mg "_law_some" = some (.ref f)) (G_law_row : Def P w K mg base 1 "_law_row" p_law_row d_law_row) : Def P w K mg base 2 "_law_some" p_law_some d_law_some :=
  ⟨f, fd, ok_law_some F T G_law_row, hm, F.kp, F.bindsN fun _ _ _ _ _ _ us hl => match us, hl with | [_, _, _, _], _ => rfl⟩
theorem sc_law_cell : FnScope N_law_cell p_law_cell (defScope s_law_cell) := ⟨rfl, rfl, rfl, by decide +kernel, rfl, by decide +kernel, by decide +kernel⟩
theorem ok_law_cell {f : Addr} {fd : FuncData} (F : FnP K "_law_cell" "_law_cell" s_law_cell f fd) (T : Txt K mg)  : FnOk P w K mg base CX0 1 f fd p_law_cell (spI K mg 2 d_law_cell) := by
  have sc := sc_law_cell
  refine fn_okD (k := 0) (N := N_law_cell) (ps := p_law_cell) (body := b_law_cell) F sc fun cdv A outer s H E hr => ?_
  exact (iss_cons (is_if (it_lt (ie_var 1) (ie_len rfl T.len (io_nm 0))) (iss_one (is_ret (ie_int1 rfl T.int (ia_cons (ie_ix (io_nm 0) (ie_var 1)) ia_nil)))) iss_nil)
      (iss_one (is_ret ie_int)))
theorem def_law_cell {f : Addr} {fd : FuncData} (F : FnP K "_law_cell" "_law_cell" s_law_cell f fd) (T : Txt K mg) (hm : mg "_law_cell" = some (.ref f))  : Def P w K mg base 1 "_law_cell" p_law_cell d_law_cell :=
  ⟨f, fd, ok_law_cell F T , hm, F.kp, F.bindsN fun _ _ _ _ _ _ us hl => match us, hl with | [_, _], _ => rfl⟩
theorem sc_Rule_init : FnScope N_Rule_init p_Rule_init (defScope s_Rule_init) := ⟨rfl, rfl, rfl, by decide +kernel, rfl, by decide +kernel, by decide +kernel⟩
theorem ok_Rule_init {f : Addr} {fd : FuncData} (F : FnP K "__init__" "Rule.__init__" s_Rule_init f fd) (T : Txt K mg)  : FnOk P w K mg base CX0 1 f fd p_Rule_init (spI K mg 3 d_Rule_init) := by
  have sc := sc_Rule_init
  refine fn_okD (k := 0) (N := N_Rule_init) (ps := p_Rule_init) (body := b_Rule_init) F sc fun cdv A outer s H E hr => ?_
  exact (iss_cons (is_sfld T.fld_Rule_births (ie_var 0) (ie_tupof rfl T.tuple (IE.io (IN.fz (in_seti rfl rfl T.sorted rfl T.set (io_nm 1))))))
      (iss_one (is_sfld T.fld_Rule_survival (ie_var 0) (ie_tupof rfl T.tuple (IE.io (IN.fz (in_seti rfl rfl T.sorted rfl T.set (io_nm 2))))))))
theorem sc_Store_init : FnScope N_Store_init p_Store_init (defScope s_Store_init) := ⟨rfl, rfl, rfl, by decide +kernel, rfl, by decide +kernel, by decide +kernel⟩
theorem ok_Store_init {f : Addr} {fd : FuncData} (F : FnP K "__init__" "Store.__init__" s_Store_init f fd) (T : Txt K mg)  : FnOk P w K mg base CX0 1 f fd p_Store_init (spI K mg 2 d_Store_init) := by
  have sc := sc_Store_init
  refine fn_okD (k := 0) (N := N_Store_init) (ps := p_Store_init) (body := b_Store_init) F sc fun cdv A outer s H E hr => ?_
  exact (iss_cons (is_sfld T.fld_Store_rule (ie_var 0) (ie_var 1))
      (iss_cons (is_sfld T.fld_Store_kept_parts (ie_var 0) (IN.box (in_lst (ia_cons (ie_tup ia_nil) (ia_cons (ie_tup ia_nil) ia_nil)))))
      (iss_cons (is_sfld T.fld_Store_levels (ie_var 0) (IN.box (in_lst (ia_cons ie_int (ia_cons ie_int ia_nil)))))
      (iss_cons (is_sfld T.fld_Store_counts (ie_var 0) (IN.box (in_lst (ia_cons ie_int (ia_cons ie_int ia_nil)))))
      (iss_cons (is_sfld T.fld_Store_numbers (ie_var 0) (IN.box in_dictT))
      (iss_cons (is_sfld T.fld_Store_futures (ie_var 0) (IN.box in_dictT))
      (iss_one (is_sfld T.fld_Store_empties (ie_var 0) (IN.box (in_lst (ia_cons (ie_con T.con_DEAD rfl) ia_nil)))))))))))
theorem sc_law_numbers : FnScope N_law_numbers p_law_numbers (defScope s_law_numbers) := ⟨rfl, rfl, rfl, by decide +kernel, rfl, by decide +kernel, by decide +kernel⟩
theorem ok_law_numbers {f : Addr} {fd : FuncData} (F : FnP K "_law_numbers" "_law_numbers" s_law_numbers f fd) (T : Txt K mg)  : FnOk P w K mg base CX0 1 f fd p_law_numbers (spI K mg 1 d_law_numbers) := by
  have sc := sc_law_numbers
  refine fn_okD (k := 0) (N := N_law_numbers) (ps := p_law_numbers) (body := b_law_numbers) F sc fun cdv A outer s H E hr => ?_
  exact (iss_cons (is_set 1 sc.nd rfl (Or.inr rfl) (ie_abs rfl T.abs (ia_cons (ie_int1 rfl T.int (ia_cons (ie_var 0) ia_nil)) ia_nil)))
      (iss_cons (IS.fz2 2 (ps_setLcW (i := 2) (own := [("k", 4)]) rfl sc.nd rfl rfl (sw_true rfl rfl rfl (by decide +kernel)) (ii_range2 rfl T.range (ia_cons ie_int (ia_cons ie_int ia_nil))) (blkOk_by (own := [("k", 4)]) (N := N_law_numbers) (sc := defScope s_law_numbers) (by decide +kernel)) (by decide) (fun _ _ _ _ _ => (ig_name 4 sc.nd rfl (Or.inl rfl))) (fun _ _ _ _ _ => (its_one (it_eq hr.units (ie_mod (ie_fdiv (ie_var 1) (ie_shl ie_int (ie_var 4))) ie_int) ie_int))) (fun _ _ _ _ _ => (ie_var 4))))
      (iss_cons (IS.fz2 3 (ps_setLcW (i := 3) (own := [("k", 4)]) rfl sc.nd rfl rfl (sw_true rfl rfl rfl (by decide +kernel)) (ii_range1 rfl T.range (ia_cons ie_int ia_nil)) (blkOk_by (own := [("k", 4)]) (N := N_law_numbers) (sc := defScope s_law_numbers) (by decide +kernel)) (by decide) (fun _ _ _ _ _ => (ig_name 4 sc.nd rfl (Or.inl rfl))) (fun _ _ _ _ _ => (its_one (it_eq hr.units (ie_mod (ie_fdiv (ie_var 1) (ie_shl ie_int (ie_var 4))) ie_int) ie_int))) (fun _ _ _ _ _ => (ie_var 4))))
      (iss_cons (is_if (it_eq hr.units (ie_mod (ie_fdiv (ie_var 1) ie_int) ie_int) ie_int) (iss_cons (is_set 2 sc.nd rfl (Or.inl rfl) (ie_ix (IE.io (IN.fz (in_lst (ia_cons (IN.fz (in_lst (ia_cons ie_int ia_nil))) (ia_cons (IN.fz (in_lst (ia_cons ie_int (ia_cons ie_int ia_nil)))) (ia_cons (IN.fz (in_lst (ia_cons ie_int ia_nil))) (ia_cons (IN.fz (in_lst (ia_cons ie_int (ia_cons ie_int (ia_cons ie_int ia_nil))))) (ia_cons (IN.fz (in_lst (ia_cons ie_int (ia_cons ie_int ia_nil)))) ia_nil)))))))) (ie_mod (ie_fdiv (ie_var 1) ie_int) ie_int)))
      (iss_one (is_set 3 sc.nd rfl (Or.inl rfl) (ie_ix (IE.io (IN.fz (in_lst (ia_cons (IN.fz (in_lst (ia_cons ie_int (ia_cons ie_int ia_nil)))) (ia_cons (IN.fz (in_lst (ia_cons ie_int (ia_cons ie_int ia_nil)))) (ia_cons (IN.fz (in_lst ia_nil)) (ia_cons (IN.fz (in_lst (ia_cons ie_int (ia_cons ie_int (ia_cons ie_int (ia_cons ie_int ia_nil)))))) (ia_cons (IN.fz (in_lst (ia_cons ie_int (ia_cons ie_int (ia_cons ie_int ia_nil))))) ia_nil)))))))) (ie_mod (ie_fdiv (ie_var 1) ie_int) ie_int))))) iss_nil)
      (iss_one (is_ret (ie_tup (ia_cons (ie_var 2) (ia_cons (ie_var 3) ia_nil)))))))))
theorem def_law_numbers {f : Addr} {fd : FuncData} (F : FnP K "_law_numbers" "_law_numbers" s_law_numbers f fd) (T : Txt K mg) (hm : mg "_law_numbers" = some (.ref f))  : Def P w K mg base 1 "_law_numbers" p_law_numbers d_law_numbers :=
  ⟨f, fd, ok_law_numbers F T , hm, F.kp, F.bindsN fun _ _ _ _ _ _ us hl => match us, hl with | [_], _ => rfl⟩
theorem sc_law : FnScope N_law p_law (defScope s_law) := ⟨rfl, rfl, rfl, by decide +kernel, rfl, by decide +kernel, by decide +kernel⟩
theorem ok_law {f : Addr} {fd : FuncData} (F : FnP K "law" "law" s_law f fd) (T : Txt K mg) (M_Store_empty : MetD P w K mg base 2 "Store" "empty" p_Store_empty d_Store_empty) (M_Store_built : MetD P w K mg base 42 "Store" "built" p_Store_built d_Store_built) (M_Store_cells : MetD P w K mg base 41 "Store" "cells" p_Store_cells d_Store_cells) (M_Store_level : MetD P w K mg base 1 "Store" "level" p_Store_level d_Store_level) (G_law_right : Def P w K mg base 42 "_law_right" p_law_right d_law_right) (G_law_some : Def P w K mg base 2 "_law_some" p_law_some d_law_some) (G_law_cell : Def P w K mg base 1 "_law_cell" p_law_cell d_law_cell) (K_Rule : MakD P w K mg base 1 "Rule" p_Rule_init d_Rule_init) (K_Store : MakD P w K mg base 1 "Store" p_Store_init d_Store_init) (G_law_numbers : Def P w K mg base 1 "_law_numbers" p_law_numbers d_law_numbers) : FnOk P w K mg base CX0 43 f fd p_law (spI K mg 1 d_law) := by
  have sc := sc_law
  refine fn_okD (k := 42) (N := N_law) (ps := p_law) (body := b_law) F sc fun cdv A outer s H E hr => ?_
  exact (iss_cons (is_asg (ie_callD G_law_numbers hr (by decide) rfl (ia_cons (ie_callD G_law_cell hr (by decide) rfl (ia_cons (ie_var 0) (ia_cons ie_int ia_nil)) (len_cons (len_cons len_nil))) ia_nil) (len_cons len_nil)) (ig_tup rfl (igs_cons (ig_name 1 sc.nd rfl (Or.inl rfl)) (igs_cons (ig_name 2 sc.nd rfl (Or.inl rfl)) igs_nil))))
      (iss_cons (is_set 3 sc.nd rfl (Or.inl rfl) (ie_make K_Store hr (by decide) rfl (ia_cons (ie_make K_Rule hr (by decide) rfl (ia_cons (ie_var 1) (ia_cons (ie_var 2) ia_nil)) (len_add1 (len_cons (len_cons len_nil)))) ia_nil) (len_add1 (len_cons len_nil))))
      (iss_cons (is_set 4 sc.nd rfl (Or.inl rfl) (IN.box (in_lst ia_nil)))
      (iss_cons (is_for PassesOwn.never rfl (ii_range1 rfl T.range (ia_cons (ie_add ie_int (ie_mod (ie_callD G_law_cell hr (by decide) rfl (ia_cons (ie_var 0) (ia_cons ie_int ia_nil)) (len_cons (len_cons len_nil))) ie_int)) ia_nil)) (ig_name 5 sc.nd rfl (Or.inl rfl)) (iss_cons (is_set 6 sc.nd rfl (Or.inl rfl) (ie_abs rfl T.abs (ia_cons (ie_callD G_law_cell hr (by decide) rfl (ia_cons (ie_var 0) (ia_cons (ie_add ie_int (ie_var 5)) ia_nil)) (len_cons (len_cons len_nil))) ia_nil)))
      (iss_cons (is_set 7 sc.nd rfl (Or.inl rfl) (ie_mod (ie_var 6) ie_int))
      (iss_cons (is_set 8 sc.nd rfl (Or.inl rfl) (ie_callD G_law_some hr (by decide) rfl (ia_cons (ie_fdiv (ie_var 6) ie_int) (ia_cons (ie_mod (ie_fdiv (ie_var 6) ie_int) ie_int) (ia_cons (ie_shl ie_int (ie_var 7)) (ia_cons (ie_shl ie_int (ie_var 7)) ia_nil)))) (len_cons (len_cons (len_cons (len_cons len_nil))))))
      (iss_cons (is_if (IW.it (iw_and (it_eq hr.units (ie_mod (ie_fdiv (ie_var 6) ie_int) ie_int) ie_int) (iw_and1 (it_gt (ie_len rfl T.len (io_nm 4)) ie_int)))) (iss_cons (is_set 8 sc.nd rfl (Or.inl rfl) (IN.fz (in_list rfl T.list (IE.io (ie_ix (IE.io (ie_ix (io_nm 4) (ie_mod (ie_fdiv (ie_var 6) ie_int) (ie_len rfl T.len (io_nm 4))))) ie_int)))))
      (iss_one (is_set 7 sc.nd rfl (Or.inl rfl) (ie_ix (IE.io (ie_ix (io_nm 4) (ie_mod (ie_fdiv (ie_var 6) ie_int) (ie_len rfl T.len (io_nm 4))))) ie_int)))) iss_nil)
      (iss_cons (is_set 9 sc.nd rfl (Or.inl rfl) (ie_meth M_Store_built hr (by decide) (ie_var 3) (ia_cons (ie_rev (IE.io (ie_add (ie_var 8) (ie_sl (io_nm 8) ip_none (ip_some ie_int))))) (ia_cons (ie_var 7) ia_nil)) (len_add1 (len_cons (len_cons len_nil)))))
      (iss_cons (is_if (it_not (it_tru (ie_callD G_law_right hr (by decide) rfl (ia_cons (ie_var 3) (ia_cons (ie_var 9) (ia_cons (ie_var 8) (ia_cons (ie_var 7) ia_nil)))) (len_cons (len_cons (len_cons (len_cons len_nil))))))) (iss_one (is_ret ie_bl)) iss_nil)
      (iss_cons (is_forB 4 PassesOwn.never rfl (ig_tup rfl (igs_cons (ig_name 10 sc.nd rfl (Or.inl rfl)) (igs_cons (ig_name 11 sc.nd rfl (Or.inl rfl)) (igs_cons (ig_name 12 sc.nd rfl (Or.inl rfl)) igs_nil)))) (iss_one (is_if (it_ne hr.units (ie_eq hr.units (ie_var 10) (ie_var 9)) (ie_and (ie_eq hr.units (ie_var 11) (ie_var 8)) (ie_one (ie_eq hr.units (ie_var 12) (ie_var 7))))) (iss_one (is_ret ie_bl)) iss_nil)))
      (iss_cons (is_appB (ie_var 4) (ie_tup (ia_cons (ie_var 9) (ia_cons (ie_var 8) (ia_cons (ie_var 7) ia_nil)))))
      (iss_one (is_if (IW.it (iw_or (it_ne hr.units (ie_meth M_Store_empty hr (by decide) (ie_var 3) (ia_cons (ie_var 7) ia_nil) (len_add1 (len_cons len_nil))) (ie_meth M_Store_built hr (by decide) (ie_var 3) (ia_cons (IN.fz (in_lst ia_nil)) (ia_cons (ie_var 7) ia_nil)) (len_add1 (len_cons (len_cons len_nil))))) (iw_or1 (it_ne hr.units (ie_meth M_Store_cells hr (by decide) (ie_var 3) (ia_cons (ie_meth M_Store_empty hr (by decide) (ie_var 3) (ia_cons (ie_var 7) ia_nil) (len_add1 (len_cons len_nil))) ia_nil) (len_add1 (len_cons len_nil))) (IN.fz (in_lst ia_nil)))))) (iss_one (is_ret ie_bl)) iss_nil)))))))))))
      (iss_cons (is_forB 4 PassesOwn.never rfl (ig_tup rfl (igs_cons (ig_name 9 sc.nd rfl (Or.inl rfl)) (igs_cons (ig_name 8 sc.nd rfl (Or.inl rfl)) (igs_cons (ig_name 7 sc.nd rfl (Or.inl rfl)) igs_nil)))) (iss_one (is_if (IW.it (iw_or (it_ne hr.units (ie_meth M_Store_cells hr (by decide) (ie_var 3) (ia_cons (ie_var 9) ia_nil) (len_add1 (len_cons len_nil))) (ie_var 8)) (iw_or1 (it_ne hr.units (ie_meth M_Store_level hr (by decide) (ie_var 3) (ia_cons (ie_var 9) ia_nil) (len_add1 (len_cons len_nil))) (ie_var 7))))) (iss_one (is_ret ie_bl)) iss_nil)))
      (iss_one (is_ret (ie_and (ie_eq hr.units (ie_meth M_Store_empty hr (by decide) (ie_var 3) (ia_cons ie_int ia_nil) (len_add1 (len_cons len_nil))) ie_int) (ie_one (ie_eq hr.units (ie_meth M_Store_built hr (by decide) (ie_var 3) (ia_cons (IN.fz (in_lst (ia_cons (ie_tup (ia_cons ie_int (ia_cons ie_int ia_nil))) ia_nil))) (ia_cons ie_int ia_nil)) (len_add1 (len_cons (len_cons len_nil)))) ie_int))))))))))
theorem def_law {f : Addr} {fd : FuncData} (F : FnP K "law" "law" s_law f fd) (T : Txt K mg) (hm : mg "law" = some (.ref f)) (M_Store_empty : MetD P w K mg base 2 "Store" "empty" p_Store_empty d_Store_empty) (M_Store_built : MetD P w K mg base 42 "Store" "built" p_Store_built d_Store_built) (M_Store_cells : MetD P w K mg base 41 "Store" "cells" p_Store_cells d_Store_cells) (M_Store_level : MetD P w K mg base 1 "Store" "level" p_Store_level d_Store_level) (G_law_right : Def P w K mg base 42 "_law_right" p_law_right d_law_right) (G_law_some : Def P w K mg base 2 "_law_some" p_law_some d_law_some) (G_law_cell : Def P w K mg base 1 "_law_cell" p_law_cell d_law_cell) (K_Rule : MakD P w K mg base 1 "Rule" p_Rule_init d_Rule_init) (K_Store : MakD P w K mg base 1 "Store" p_Store_init d_Store_init) (G_law_numbers : Def P w K mg base 1 "_law_numbers" p_law_numbers d_law_numbers) : Def P w K mg base 43 "law" p_law d_law :=
  ⟨f, fd, ok_law F T M_Store_empty M_Store_built M_Store_cells M_Store_level G_law_right G_law_some G_law_cell K_Rule K_Store G_law_numbers, hm, F.kp, F.bindsN fun _ _ _ _ _ _ us hl => match us, hl with | [_], _ => rfl⟩
end
def D_ (x : Str) (st : Stmt) : He.DefD := ⟨(x, none), x, x, defArgs st, defBody st, defScope st, [], []⟩
def Dm_ (c x y : Str) (st : Stmt) : He.DefD := ⟨(c, some x), x, y, defArgs st, defBody st, defScope st, [], []⟩
def fn : List He.DefD := [Dm_ "Store" "joined" "Store.joined" s_Store_joined, Dm_ "Store" "empty" "Store.empty" s_Store_empty, Dm_ "Store" "built" "Store.built" s_Store_built, D_ "pattern" s_pattern, Dm_ "Store" "collect_cells" "Store.collect_cells" s_Store_collect_cells, Dm_ "Store" "cells" "Store.cells" s_Store_cells, Dm_ "Store" "level" "Store.level" s_Store_level, Dm_ "Store" "parts" "Store.parts" s_Store_parts, D_ "_law_integer" s_law_integer, D_ "_law_cells" s_law_cells, Dm_ "Store" "count" "Store.count" s_Store_count, D_ "_law_right" s_law_right, D_ "_law_row" s_law_row, D_ "_law_some" s_law_some, D_ "_law_cell" s_law_cell, Dm_ "Rule" "__init__" "Rule.__init__" s_Rule_init, Dm_ "Store" "__init__" "Store.__init__" s_Store_init, D_ "_law_numbers" s_law_numbers, D_ "law" s_law]
def fa : List He.Fa := [.meth "Store" "joined", .meth "Store" "empty", .meth "Store" "built", .glo "pattern", .meth "Store" "collect_cells", .meth "Store" "cells", .meth "Store" "level", .meth "Store" "parts", .glo "_law_integer", .glo "_law_cells", .meth "Store" "count", .glo "_law_right", .glo "_law_row", .glo "_law_some", .glo "_law_cell", .meth "Rule" "__init__", .meth "Store" "__init__", .glo "_law_numbers", .glo "law", .free "abs", .free "bool", .free "int", .free "isinstance", .free "len", .free "list", .free "range", .free "set", .free "sorted", .free "sum", .free "tuple", .glo "Rule", .cls "Rule", .mkr "Rule", .glo "Store", .cls "Store", .mkr "Store", .noat "Store" "empties", .noat "Store" "numbers", .noat "Store" "counts", .noat "Store" "levels", .noat "Store" "kept_parts", .noat "Rule" "survival", .noat "Rule" "births", .noat "Store" "futures", .noat "Store" "rule"]
def exs : List (PySem.W.Frag → Bool) := [fun K => conB K "ALIVE" c_ALIVE, fun K => conB K "DEAD" c_DEAD, fun K => insB K (He.ga K "Rule"), fun K => decide (PySem.W.notFirst K (He.ga K "Rule") (.type "str") = true), fun K => decide (PySem.W.notFirst K (He.ga K "Rule") (.type "tuple") = true), fun K => decide (PySem.W.kitOne K (.type "str") (.ref (He.ga K "Rule")) = some false), fun K => decide (PySem.W.kitOne K (.type "tuple") (.ref (He.ga K "Rule")) = some false), fun K => insB K (He.ga K "Store"), fun K => decide (PySem.W.notFirst K (He.ga K "Store") (.type "str") = true), fun K => decide (PySem.W.notFirst K (He.ga K "Store") (.type "tuple") = true), fun K => decide (PySem.W.kitOne K (.type "str") (.ref (He.ga K "Store")) = some false), fun K => decide (PySem.W.kitOne K (.type "tuple") (.ref (He.ga K "Store")) = some false)]
def ex (K : PySem.W.Frag) : Bool := exs.all fun f => f K
theorem ex_at {K : PySem.W.Frag} (h : ex K = true) (i : Nat) {f : PySem.W.Frag → Bool} (e : exs[i]? = some f := by rfl) : f K = true := List.all_eq_true.mp h f (List.mem_of_getElem? e)
abbrev R : PySem.W.OpenRow := PySem.W.OpenLaw.row PySem.Challenge.rw_longlife_k08_squares_of_a_store
abbrev hk : PySem.W.Hook := hookE 6 fa fn ex
def ob (s : PySem.W.SharedT) : AlE := obsE 6 fa fn ex (HandSHeadRun.getT s)
theorem ob_eq (s : PySem.W.SharedT) : ob s = hk.obs s.abs := obsE_eq (HandSHeadRun.getT_eq s)
theorem run (w : World) : HandSHeadRun.RunEq R (PySem.W.view R.prog [17]) hk ob 4000 ["_wall", "pattern", "_law_cell", "_law_row", "_law_integer", "_law_cells", "_law_numbers", "_law_some", "_law_right", "DEAD", "ALIVE", "Store", "Rule"] w := by
  intro os
  kernel_rfl
theorem facts {P : Program} {w : World} {K : PySem.W.Frag} {h : Heap} {mg : Str → Option Value} {f : Addr} (X : K.In h) (G : h.Ns mainGlobals mg) (hfa : mg ("law" : Str) = some (.ref f)) (cc : He.SaysD fa fn K ∧ ex K = true) :
    ∃ fd : FuncData, (∀ (s : Shared) (v : Value), BindsTo s fd ⟨[v], []⟩ [("script", v)]) ∧ ∀ base : Heap, K.In base → base.Ns mainGlobals mg → FnOk P w K mg base CX0 43 f fd ["script"] (spI K mg 1 d_law) := by
  obtain ⟨c, cx⟩ := cc
  obtain ⟨fd_Store_joined, F_Store_joined⟩ := c.def_ 0 (d := Dm_ "Store" "joined" "Store.joined" s_Store_joined) rfl
  have m_Store_joined := He.meth_ok (c.fact 0 (f := .meth "Store" "joined") rfl)
  obtain ⟨fd_Store_empty, F_Store_empty⟩ := c.def_ 1 (d := Dm_ "Store" "empty" "Store.empty" s_Store_empty) rfl
  have m_Store_empty := He.meth_ok (c.fact 1 (f := .meth "Store" "empty") rfl)
  obtain ⟨fd_Store_built, F_Store_built⟩ := c.def_ 2 (d := Dm_ "Store" "built" "Store.built" s_Store_built) rfl
  have m_Store_built := He.meth_ok (c.fact 2 (f := .meth "Store" "built") rfl)
  obtain ⟨fd_pattern, F_pattern⟩ := c.def_ 3 (d := D_ "pattern" s_pattern) rfl
  have m_pattern := He.glo_ok X G (c.fact 3 (f := .glo "pattern") rfl)
  obtain ⟨fd_Store_collect_cells, F_Store_collect_cells⟩ := c.def_ 4 (d := Dm_ "Store" "collect_cells" "Store.collect_cells" s_Store_collect_cells) rfl
  have m_Store_collect_cells := He.meth_ok (c.fact 4 (f := .meth "Store" "collect_cells") rfl)
  obtain ⟨fd_Store_cells, F_Store_cells⟩ := c.def_ 5 (d := Dm_ "Store" "cells" "Store.cells" s_Store_cells) rfl
  have m_Store_cells := He.meth_ok (c.fact 5 (f := .meth "Store" "cells") rfl)
  obtain ⟨fd_Store_level, F_Store_level⟩ := c.def_ 6 (d := Dm_ "Store" "level" "Store.level" s_Store_level) rfl
  have m_Store_level := He.meth_ok (c.fact 6 (f := .meth "Store" "level") rfl)
  obtain ⟨fd_Store_parts, F_Store_parts⟩ := c.def_ 7 (d := Dm_ "Store" "parts" "Store.parts" s_Store_parts) rfl
  have m_Store_parts := He.meth_ok (c.fact 7 (f := .meth "Store" "parts") rfl)
  obtain ⟨fd_law_integer, F_law_integer⟩ := c.def_ 8 (d := D_ "_law_integer" s_law_integer) rfl
  have m_law_integer := He.glo_ok X G (c.fact 8 (f := .glo "_law_integer") rfl)
  obtain ⟨fd_law_cells, F_law_cells⟩ := c.def_ 9 (d := D_ "_law_cells" s_law_cells) rfl
  have m_law_cells := He.glo_ok X G (c.fact 9 (f := .glo "_law_cells") rfl)
  obtain ⟨fd_Store_count, F_Store_count⟩ := c.def_ 10 (d := Dm_ "Store" "count" "Store.count" s_Store_count) rfl
  have m_Store_count := He.meth_ok (c.fact 10 (f := .meth "Store" "count") rfl)
  obtain ⟨fd_law_right, F_law_right⟩ := c.def_ 11 (d := D_ "_law_right" s_law_right) rfl
  have m_law_right := He.glo_ok X G (c.fact 11 (f := .glo "_law_right") rfl)
  obtain ⟨fd_law_row, F_law_row⟩ := c.def_ 12 (d := D_ "_law_row" s_law_row) rfl
  have m_law_row := He.glo_ok X G (c.fact 12 (f := .glo "_law_row") rfl)
  obtain ⟨fd_law_some, F_law_some⟩ := c.def_ 13 (d := D_ "_law_some" s_law_some) rfl
  have m_law_some := He.glo_ok X G (c.fact 13 (f := .glo "_law_some") rfl)
  obtain ⟨fd_law_cell, F_law_cell⟩ := c.def_ 14 (d := D_ "_law_cell" s_law_cell) rfl
  have m_law_cell := He.glo_ok X G (c.fact 14 (f := .glo "_law_cell") rfl)
  obtain ⟨fd_Rule_init, F_Rule_init⟩ := c.def_ 15 (d := Dm_ "Rule" "__init__" "Rule.__init__" s_Rule_init) rfl
  have m_Rule_init := He.meth_ok (c.fact 15 (f := .meth "Rule" "__init__") rfl)
  obtain ⟨fd_Store_init, F_Store_init⟩ := c.def_ 16 (d := Dm_ "Store" "__init__" "Store.__init__" s_Store_init) rfl
  have m_Store_init := He.meth_ok (c.fact 16 (f := .meth "Store" "__init__") rfl)
  obtain ⟨fd_law_numbers, F_law_numbers⟩ := c.def_ 17 (d := D_ "_law_numbers" s_law_numbers) rfl
  have m_law_numbers := He.glo_ok X G (c.fact 17 (f := .glo "_law_numbers") rfl)
  obtain ⟨fd_law, F_law⟩ := c.def_ 18 (d := D_ "law" s_law) rfl
  have m_law := He.glo_ok X G (c.fact 18 (f := .glo "law") rfl)
  have e := hfa.symm.trans m_law
  cases e
  have cl_Rule : ClsD K mg "Rule" (He.ga K "Rule") := ⟨He.glo_ok X G (c.fact 30 (f := .glo "Rule") rfl), He.cls_ok (c.fact 31 (f := .cls "Rule") rfl)⟩
  have in_Rule := insB_ok cl_Rule.cls (ex_at cx 2)
  have cl_Store : ClsD K mg "Store" (He.ga K "Store") := ⟨He.glo_ok X G (c.fact 33 (f := .glo "Store") rfl), He.cls_ok (c.fact 34 (f := .cls "Store") rfl)⟩
  have in_Store := insB_ok cl_Store.cls (ex_at cx 7)
  have T : Txt K mg := ⟨He.free_ok X G (c.fact 19 (f := .free "abs") rfl), He.free_ok X G (c.fact 20 (f := .free "bool") rfl), He.free_ok X G (c.fact 21 (f := .free "int") rfl), He.free_ok X G (c.fact 22 (f := .free "isinstance") rfl), He.free_ok X G (c.fact 23 (f := .free "len") rfl), He.free_ok X G (c.fact 24 (f := .free "list") rfl), He.free_ok X G (c.fact 25 (f := .free "range") rfl), He.free_ok X G (c.fact 26 (f := .free "set") rfl), He.free_ok X G (c.fact 27 (f := .free "sorted") rfl), He.free_ok X G (c.fact 28 (f := .free "sum") rfl), He.free_ok X G (c.fact 29 (f := .free "tuple") rfl), ⟨_, cl_Store, He.noat_ok (c.fact 36 (f := .noat "Store" "empties") rfl)⟩, ⟨_, cl_Store, He.noat_ok (c.fact 37 (f := .noat "Store" "numbers") rfl)⟩, ⟨_, cl_Store, He.noat_ok (c.fact 38 (f := .noat "Store" "counts") rfl)⟩, ⟨_, cl_Store, He.noat_ok (c.fact 39 (f := .noat "Store" "levels") rfl)⟩, ⟨_, cl_Store, He.noat_ok (c.fact 40 (f := .noat "Store" "kept_parts") rfl)⟩, conB_ok X G (ex_at cx 0), ⟨_, cl_Rule, He.noat_ok (c.fact 41 (f := .noat "Rule" "survival") rfl)⟩, ⟨_, cl_Rule, He.noat_ok (c.fact 42 (f := .noat "Rule" "births") rfl)⟩, conB_ok X G (ex_at cx 1), ⟨_, cl_Store, He.noat_ok (c.fact 43 (f := .noat "Store" "futures") rfl)⟩, ⟨_, cl_Store, He.noat_ok (c.fact 44 (f := .noat "Store" "rule") rfl)⟩⟩
  have b := FunD.bindsA (ps := ["script"]) F_law fun _ _ _ _ _ _ us hl => match us, hl with | [_], _ => rfl
  refine ⟨fd_law, fun s v => b s [v] rfl, fun base _ _ => ?_⟩
  have O_Store_joined : FnOk P w K mg base CX0 1 _ fd_Store_joined p_Store_joined (spI K mg 5 d_Store_joined) := ok_Store_joined F_Store_joined T 
  have B_Store_joined : Binds K fd_Store_joined p_Store_joined [] := F_Store_joined.bindsN fun _ _ _ _ _ _ us hl => match us, hl with | [_, _, _, _, _], _ => rfl
  have M_Store_joined : MetD P w K mg base 1 "Store" "joined" p_Store_joined d_Store_joined := ⟨_, _, fd_Store_joined, cl_Store, m_Store_joined, O_Store_joined, B_Store_joined⟩
  have O_Store_empty : FnOk P w K mg base CX0 2 _ fd_Store_empty p_Store_empty (spI K mg 2 d_Store_empty) := ok_Store_empty F_Store_empty T M_Store_joined
  have B_Store_empty : Binds K fd_Store_empty p_Store_empty [] := F_Store_empty.bindsN fun _ _ _ _ _ _ us hl => match us, hl with | [_, _], _ => rfl
  have M_Store_empty : MetD P w K mg base 2 "Store" "empty" p_Store_empty d_Store_empty := ⟨_, _, fd_Store_empty, cl_Store, m_Store_empty, O_Store_empty, B_Store_empty⟩
  have B_Store_built : Binds K fd_Store_built p_Store_built [] := F_Store_built.bindsN fun _ _ _ _ _ _ us hl => match us, hl with | [_, _, _], _ => rfl
  have rec_Store_built := rec_Store_built (P := P) (w := w) (base := base) cl_Store F_Store_built m_Store_built B_Store_built T M_Store_joined M_Store_empty 40
  have M_Store_built : MetD P w K mg base 42 "Store" "built" p_Store_built d_Store_built := rec_Store_built
  have G_pattern : Def P w K mg base 1 "pattern" p_pattern d_pattern := def_pattern F_pattern T m_pattern 
  have B_Store_collect_cells : Binds K fd_Store_collect_cells p_Store_collect_cells [] := F_Store_collect_cells.bindsN fun _ _ _ _ _ _ us hl => match us, hl with | [_, _, _, _, _], _ => rfl
  have rec_Store_collect_cells := rec_Store_collect_cells (P := P) (w := w) (base := base) cl_Store F_Store_collect_cells m_Store_collect_cells B_Store_collect_cells T  40
  have M_Store_collect_cells : MetD P w K mg base 40 "Store" "collect_cells" p_Store_collect_cells d_Store_collect_cells := rec_Store_collect_cells
  have O_Store_cells : FnOk P w K mg base CX0 41 _ fd_Store_cells p_Store_cells (spI K mg 2 d_Store_cells) := ok_Store_cells F_Store_cells T G_pattern M_Store_collect_cells
  have B_Store_cells : Binds K fd_Store_cells p_Store_cells [] := F_Store_cells.bindsN fun _ _ _ _ _ _ us hl => match us, hl with | [_, _], _ => rfl
  have M_Store_cells : MetD P w K mg base 41 "Store" "cells" p_Store_cells d_Store_cells := ⟨_, _, fd_Store_cells, cl_Store, m_Store_cells, O_Store_cells, B_Store_cells⟩
  have O_Store_level : FnOk P w K mg base CX0 1 _ fd_Store_level p_Store_level (spI K mg 2 d_Store_level) := ok_Store_level F_Store_level T 
  have B_Store_level : Binds K fd_Store_level p_Store_level [] := F_Store_level.bindsN fun _ _ _ _ _ _ us hl => match us, hl with | [_, _], _ => rfl
  have M_Store_level : MetD P w K mg base 1 "Store" "level" p_Store_level d_Store_level := ⟨_, _, fd_Store_level, cl_Store, m_Store_level, O_Store_level, B_Store_level⟩
  have O_Store_parts : FnOk P w K mg base CX0 1 _ fd_Store_parts p_Store_parts (spI K mg 2 d_Store_parts) := ok_Store_parts F_Store_parts T 
  have B_Store_parts : Binds K fd_Store_parts p_Store_parts [] := F_Store_parts.bindsN fun _ _ _ _ _ _ us hl => match us, hl with | [_, _], _ => rfl
  have M_Store_parts : MetD P w K mg base 1 "Store" "parts" p_Store_parts d_Store_parts := ⟨_, _, fd_Store_parts, cl_Store, m_Store_parts, O_Store_parts, B_Store_parts⟩
  have G_law_integer : Def P w K mg base 1 "_law_integer" p_law_integer d_law_integer := def_law_integer F_law_integer T m_law_integer 
  have G_law_cells : Def P w K mg base 2 "_law_cells" p_law_cells d_law_cells := def_law_cells F_law_cells T m_law_cells G_law_integer
  have O_Store_count : FnOk P w K mg base CX0 1 _ fd_Store_count p_Store_count (spI K mg 2 d_Store_count) := ok_Store_count F_Store_count T 
  have B_Store_count : Binds K fd_Store_count p_Store_count [] := F_Store_count.bindsN fun _ _ _ _ _ _ us hl => match us, hl with | [_, _], _ => rfl
  have M_Store_count : MetD P w K mg base 1 "Store" "count" p_Store_count d_Store_count := ⟨_, _, fd_Store_count, cl_Store, m_Store_count, O_Store_count, B_Store_count⟩
  have G_law_right : Def P w K mg base 42 "_law_right" p_law_right d_law_right := def_law_right F_law_right T m_law_right M_Store_joined M_Store_level M_Store_cells M_Store_parts G_law_cells G_law_integer M_Store_count
  have G_law_row : Def P w K mg base 1 "_law_row" p_law_row d_law_row := def_law_row F_law_row T m_law_row 
  have G_law_some : Def P w K mg base 2 "_law_some" p_law_some d_law_some := def_law_some F_law_some T m_law_some G_law_row
  have G_law_cell : Def P w K mg base 1 "_law_cell" p_law_cell d_law_cell := def_law_cell F_law_cell T m_law_cell 
  have O_Rule_init : FnOk P w K mg base CX0 1 _ fd_Rule_init p_Rule_init (spI K mg 3 d_Rule_init) := ok_Rule_init F_Rule_init T 
  have B_Rule_init : Binds K fd_Rule_init p_Rule_init [] := F_Rule_init.bindsN fun _ _ _ _ _ _ us hl => match us, hl with | [_, _, _], _ => rfl
  have K_Rule : MakD P w K mg base 1 "Rule" p_Rule_init d_Rule_init := ⟨_, _, fd_Rule_init, cl_Rule, He.mkr_ok (c.fact 32 (f := .mkr "Rule") rfl), O_Rule_init, B_Rule_init⟩
  have O_Store_init : FnOk P w K mg base CX0 1 _ fd_Store_init p_Store_init (spI K mg 2 d_Store_init) := ok_Store_init F_Store_init T 
  have B_Store_init : Binds K fd_Store_init p_Store_init [] := F_Store_init.bindsN fun _ _ _ _ _ _ us hl => match us, hl with | [_, _], _ => rfl
  have K_Store : MakD P w K mg base 1 "Store" p_Store_init d_Store_init := ⟨_, _, fd_Store_init, cl_Store, He.mkr_ok (c.fact 35 (f := .mkr "Store") rfl), O_Store_init, B_Store_init⟩
  have G_law_numbers : Def P w K mg base 1 "_law_numbers" p_law_numbers d_law_numbers := def_law_numbers F_law_numbers T m_law_numbers 
  exact ok_law F_law T M_Store_empty M_Store_built M_Store_cells M_Store_level G_law_right G_law_some G_law_cell K_Rule K_Store G_law_numbers
end Law
namespace Law
open PySem PySem.Spec PyProof.Rows L2 Lf
theorem cell_eq (ns : List Int) (k : Nat) (L : Lg) : d_law_cell [.scr ns, .int k] L = some (.int (ns.getD k 0), L) := by
  by_cases h : k < ns.length
  · simp [ud_law_cell, ub_law_cell, h, atI_nat (List.getElem?_eq_getElem h)]
  · simp [ud_law_cell, ub_law_cell, h]
theorem row_loop (cell count : W) (bound : Int) (h1 : 0 < bound) (h2 : bound < 18446744073709551616) (L : Lg) : ∀ (ks : List Int) (rest mixed : Int) (acc : List Int) (kv : Sl), 0 ≤ mixed → mixed < 4611686018427387904 → acc.length + ks.length ≤ 16777216 →
    ∃ (xs : List Int) (rest' mixed' : Int) (kv' : Sl), forLoop (gN 6) for_law_row1 (ks.map W.int) [.va cell, .va count, .va (.int bound), .va (.int rest), .va (.int mixed), .ow (.lst (acc.map W.int)), kv] L =
      some (.nx [.va cell, .va count, .va (.int bound), .va (.int rest'), .va (.int mixed'), .ow (.lst ((acc ++ xs).map W.int)), kv'] L) ∧ xs.length = ks.length ∧ ∀ x ∈ xs, 0 ≤ x ∧ x < bound
  | [], rest, mixed, acc, kv, _, _, _ => ⟨[], rest, mixed, kv, by simp [forLoop], rfl, by simp⟩
  | k :: ks, rest, mixed, acc, kv, m1, m2, hl => by
    simp only [List.length_cons] at hl
    have hlt : acc.length < 16777216 := by omega
    have bnd : ∀ z : Int, 0 ≤ z % bound ∧ z % bound < bound := fun z => ⟨Int.emod_nonneg _ (by omega), Int.emod_lt_of_pos _ h1⟩
    by_cases hr : bound ≤ rest
    · obtain ⟨xs, r', mx', kv', e, el, eb⟩ := row_loop cell count bound h1 h2 L ks (rest / bound) mixed (acc ++ [rest % bound]) (.va (.int k)) m1 m2 (by simp; omega)
      refine ⟨rest % bound :: xs, r', mx', kv', ?_, by simp [el], ?_⟩
      · rw [List.map_cons, for_nx (g := gN 6) (by simp; rfl) (by simp [ufor_law_row1, hr, h1, h2, hlt]; exact ⟨rfl, rfl⟩)]
        simpa using e
      · intro x hx
        rcases List.mem_cons.mp hx with rfl | hx
        · exact bnd _
        · exact eb x hx
    · have hm1 : 0 ≤ (mixed * 48271 + 11 * k + 7) % 2147483647 := Int.emod_nonneg _ (by decide)
      have hm2 : (mixed * 48271 + 11 * k + 7) % 2147483647 < 2147483647 := Int.emod_lt_of_pos _ (by decide)
      obtain ⟨xs, r', mx', kv', e, el, eb⟩ := row_loop cell count bound h1 h2 L ks rest ((mixed * 48271 + 11 * k + 7) % 2147483647) (acc ++ [((mixed * 48271 + 11 * k + 7) % 2147483647 * 2862933555777941757 / 1024) % bound]) (.va (.int k)) hm1 (by omega) (by simp; omega)
      refine ⟨((mixed * 48271 + 11 * k + 7) % 2147483647 * 2862933555777941757 / 1024) % bound :: xs, r', mx', kv', ?_, by simp [el], ?_⟩
      · rw [List.map_cons, for_nx (g := gN 6) (by simp; rfl) (by simp [ufor_law_row1, hr, h1, h2, hlt]; exact ⟨rfl, rfl⟩)]
        simpa using e
      · intro x hx
        rcases List.mem_cons.mp hx with rfl | hx
        · exact bnd _
        · exact eb x hx
theorem row_eq (cell : Int) (count : Nat) (bound : Int) (L : Lg) (h1 : 0 < bound) (h2 : bound < 18446744073709551616) (hc : count ≤ 1000) :
    ∃ xs : List Int, d_law_row [.int cell, .int count, .int bound] L = some (.lst (xs.map W.int), L) ∧ xs.length = count ∧ ∀ x ∈ xs, 0 ≤ x ∧ x < bound := by
  obtain ⟨xs, r', m', kv', e, el, eb⟩ := row_loop (.int cell) (.int count) bound h1 h2 L ((List.range count).map fun (i : Nat) => (0 : Int) + (i : Int)) (if cell < 0 then -cell else cell) (cell % 1000003 + 1) [] .un (by omega) (by omega) (by simp; omega)
  refine ⟨xs, ?_, by simpa using el, eb⟩
  rw [← rangeW_ints] at e
  simp only [List.map_nil, List.nil_append] at e
  simp [ud_law_row, ub_law_row, show ((count : Int) ≤ 1000000) by omega, show (-1000000 ≤ (count : Int)) by omega, e]

/-- the numbers that a cell gives -/
structure Asc (lo hi : Int) (l : List Int) : Prop where
  pw : l.Pairwise (· < ·)
  bd : ∀ k ∈ l, lo ≤ k ∧ k ≤ hi
theorem Asc.filter {lo hi : Int} {l : List Int} (h : Asc lo hi l) (p : Int → Bool) : Asc lo hi (l.filter p) := ⟨h.pw.filter p, fun k hk => h.bd k ((List.mem_filter.mp hk).1)⟩
theorem Asc.len {lo hi : Int} : ∀ {l : List Int}, Asc lo hi l → lo ≤ hi + 1 → (l.length : Int) ≤ hi - lo + 1
  | [], _, h => by simp; omega
  | k :: r, a, h => by
    obtain ⟨p1, p2⟩ := List.pairwise_cons.mp a.pw
    have b := a.bd k List.mem_cons_self
    have := Asc.len (lo := k + 1) (hi := hi) (l := r) ⟨p2, fun x hx => ⟨by have := p1 x hx; omega, (a.bd x (List.mem_cons_of_mem _ hx)).2⟩⟩ (by omega)
    simp only [List.length_cons]
    omega
theorem asc_of {lo hi : Int} (l : List Int) (h : decide (l.Pairwise (· < ·) ∧ ∀ k ∈ l, lo ≤ k ∧ k ≤ hi) = true) : Asc lo hi l := ⟨(of_decide_eq_true h).1, (of_decide_eq_true h).2⟩
def ks18 : List Int := (List.range 8).map fun (i : Nat) => (1 : Int) + (i : Int)
def ks08 : List Int := (List.range 9).map fun (i : Nat) => (0 : Int) + (i : Int)
theorem asc18 : Asc 1 8 ks18 := asc_of _ (by decide)
theorem asc08 : Asc 0 8 ks08 := asc_of _ (by decide)
theorem numbers_eq (cell : Int) (L : Lg) : ∃ b s : List Int, d_law_numbers [.int cell] L = some (.tup [.lst (b.map W.int), .lst (s.map W.int)], L) ∧ Asc 1 8 b ∧ Asc 0 8 s := by
  obtain ⟨x, hx⟩ : ∃ x : Int, x = if cell < 0 then -cell else cell := ⟨_, rfl⟩
  have step : ∀ (c : Int) (ks : List Int) (ρ : Ro) (hρ : ρ[1]? = some (.va (.int x))) (h4 : ρ.length = 5), (∀ k ∈ ks, 0 ≤ k ∧ k ≤ 8) → 0 < c → c ≤ 512 →
      lcLoop (gN 4) (asT (cOp eqW (cOp modW (cOp fdivW (cVar 1) (cOp shlW (cK (.int c)) (cVar 4))) (cK (.int 2))) (cK (.int 1)))) (cVar 4) ρ (ks.map W.int) L = some ((ks.filter fun k => decide (x / (c * 2 ^ k.toNat) % 2 = 1)).map W.int, L) := by
    intro c ks ρ hρ h4 hk c1 c2
    refine lc_filter W.int _ W.int fun k hm => ?_
    obtain ⟨k1, k2⟩ := hk k hm
    have pw : (0 : Int) < 2 ^ k.toNat := Int.pow_pos (by decide)
    have pw2 : (2 : Int) ^ k.toNat ≤ 256 := by
      have : k.toNat ≤ 8 := by omega
      have := Nat.pow_le_pow_right (n := 2) (by decide) this
      exact_mod_cast this
    have q1 : 0 < c * 2 ^ k.toNat := Int.mul_pos c1 pw
    have q2 : c * 2 ^ k.toNat < 18446744073709551616 := by
      have := Int.mul_le_mul c2 pw2 (by omega) (by omega)
      omega
    refine ⟨ρ.set 4 (.va (.int k)), by simp [h4], ?_, fun _ => by simp [h4]⟩
    have e1 : (ρ.set 4 (.va (.int k)))[1]? = some (.va (.int x)) := by rw [List.getElem?_set_ne (by decide)]; exact hρ
    have e4 : (ρ.set 4 (.va (.int k)))[4]? = some (.va (.int k)) := by rw [List.getElem?_set_self (by omega)]
    simp only [e_asT, e_cOp, e_cVar, e_cK, e1, e4, shlW_i]
    rw [if_pos ⟨k1, by omega, by omega⟩]
    simp only [fdivW_i]
    rw [if_pos ⟨q1, q2⟩]
    simp
  have b18 : ∀ k ∈ ks18, 0 ≤ k ∧ k ≤ 8 := by decide
  have b08 : ∀ k ∈ ks08, 0 ≤ k ∧ k ≤ 8 := by decide
  obtain ⟨b, hb⟩ : ∃ b, b = ks18.filter fun k => decide (x / (1 * 2 ^ k.toNat) % 2 = 1) := ⟨_, rfl⟩
  obtain ⟨s, hs⟩ : ∃ s, s = ks08.filter fun k => decide (x / (512 * 2 ^ k.toNat) % 2 = 1) := ⟨_, rfl⟩
  have lb : b.length ≤ 16777216 := by rw [hb]; exact Nat.le_trans (List.length_filter_le _ _) (by decide)
  have ls : s.length ≤ 16777216 := by rw [hs]; exact Nat.le_trans (List.length_filter_le _ _) (by decide)
  have st1 := step 1 ks18 [.va (.int cell), .va (.int x), .un, .un, .un] rfl rfl b18 (by decide) (by decide)
  have st2 := step 512 ks08 [.va (.int cell), .va (.int x), .va (.lst (b.map W.int)), .un, .un] rfl rfl b08 (by decide) (by decide)
  rw [← hb] at st1
  rw [← hs] at st2
  have r1 : rangeW 1 8 = ks18.map W.int := rangeW_ints 1 8
  have r2 : rangeW 0 9 = ks08.map W.int := rangeW_ints 0 9
  have key : ∀ b' s' : List Int, Asc 1 8 b' → Asc 0 8 s' → b_law_numbers [.va (.int cell), .un, .un, .un, .un] L = some (.rt (.tup [.lst (b'.map W.int), .lst (s'.map W.int)]) L) →
      ∃ b s : List Int, d_law_numbers [.int cell] L = some (.tup [.lst (b.map W.int), .lst (s.map W.int)], L) ∧ Asc 1 8 b ∧ Asc 0 8 s := fun b' s' a1 a2 e => ⟨b', s', by simp [ud_law_numbers, e], a1, a2⟩
  have hd : b_law_numbers [.va (.int cell), .un, .un, .un, .un] L = (cSeq (cIfS (asT (cOp eqW (cOp modW (cOp fdivW (cVar 1) (cK (.int 262144))) (cK (.int 3))) (cK (.int 1)))) (cSeq (cSet 2 (cIx ixW (cOf (cFz (cLst (cCons (cFz (cLst (cCons (cK (.int 3)) cNil))) (cCons (cFz (cLst (cCons (cK (.int 3)) (cCons (cK (.int 6)) cNil)))) (cCons (cFz (cLst (cCons (cK (.int 2)) cNil))) (cCons (cFz (cLst (cCons (cK (.int 3)) (cCons (cK (.int 7)) (cCons (cK (.int 8)) cNil))))) (cCons (cFz (cLst (cCons (cK (.int 2)) (cCons (cK (.int 5)) cNil)))) cNil)))))))) (cOp modW (cOp fdivW (cVar 1) (cK (.int 786432))) (cK (.int 5)))))
      (cSet 3 (cIx ixW (cOf (cFz (cLst (cCons (cFz (cLst (cCons (cK (.int 2)) (cCons (cK (.int 3)) cNil)))) (cCons (cFz (cLst (cCons (cK (.int 2)) (cCons (cK (.int 3)) cNil)))) (cCons (cFz (cLst cNil)) (cCons (cFz (cLst (cCons (cK (.int 2)) (cCons (cK (.int 3)) (cCons (cK (.int 4)) (cCons (cK (.int 5)) cNil)))))) (cCons (cFz (cLst (cCons (cK (.int 3)) (cCons (cK (.int 4)) (cCons (cK (.int 6)) cNil))))) cNil)))))))) (cOp modW (cOp fdivW (cVar 1) (cK (.int 3932160))) (cK (.int 5)))))) cNx)
      (cRet (cTup (cCons (cVar 2) (cCons (cVar 3) cNil))))) [.va (.int cell), .va (.int x), .va (.lst (b.map W.int)), .va (.lst (s.map W.int)), .un] L := by
    rw [ub_law_numbers]
    rw [seq_nx (ρ1 := [.va (.int cell), .va (.int x), .un, .un, .un]) (L1 := L) (by simp [← hx])]
    rw [seq_nx (ρ1 := [.va (.int cell), .va (.int x), .va (.lst (b.map W.int)), .un, .un]) (L1 := L) (by simp [-List.map_map, wipeR, r1, st1, lb])]
    rw [seq_nx (ρ1 := [.va (.int cell), .va (.int x), .va (.lst (b.map W.int)), .va (.lst (s.map W.int)), .un]) (L1 := L) (by simp [-List.map_map, wipeR, r2, st2, ls])]
  by_cases hc : x / 262144 % 3 = 1
  · have m1 : x / 786432 % 5 = 0 ∨ x / 786432 % 5 = 1 ∨ x / 786432 % 5 = 2 ∨ x / 786432 % 5 = 3 ∨ x / 786432 % 5 = 4 := by omega
    have m2 : x / 3932160 % 5 = 0 ∨ x / 3932160 % 5 = 1 ∨ x / 3932160 % 5 = 2 ∨ x / 3932160 % 5 = 3 ∨ x / 3932160 % 5 = 4 := by omega
    have c1 : ∃ b' : List Int, Asc 1 8 b' ∧ atI [W.lst [.int 3], .lst [.int 3, .int 6], .lst [.int 2], .lst [.int 3, .int 7, .int 8], .lst [.int 2, .int 5]] (x / 786432 % 5) = some (.lst (b'.map W.int)) := by
      rcases m1 with e | e | e | e | e <;> rw [e]
      · exact ⟨[3], asc_of _ (by decide), rfl⟩
      · exact ⟨[3, 6], asc_of _ (by decide), rfl⟩
      · exact ⟨[2], asc_of _ (by decide), rfl⟩
      · exact ⟨[3, 7, 8], asc_of _ (by decide), rfl⟩
      · exact ⟨[2, 5], asc_of _ (by decide), rfl⟩
    have c2 : ∃ s' : List Int, Asc 0 8 s' ∧ atI [W.lst [.int 2, .int 3], .lst [.int 2, .int 3], .lst [], .lst [.int 2, .int 3, .int 4, .int 5], .lst [.int 3, .int 4, .int 6]] (x / 3932160 % 5) = some (.lst (s'.map W.int)) := by
      rcases m2 with e | e | e | e | e <;> rw [e]
      · exact ⟨[2, 3], asc_of _ (by decide), rfl⟩
      · exact ⟨[2, 3], asc_of _ (by decide), rfl⟩
      · exact ⟨[], asc_of _ (by decide), rfl⟩
      · exact ⟨[2, 3, 4, 5], asc_of _ (by decide), rfl⟩
      · exact ⟨[3, 4, 6], asc_of _ (by decide), rfl⟩
    obtain ⟨b', a1, g1⟩ := c1
    obtain ⟨s', a2, g2⟩ := c2
    refine key b' s' a1 a2 ?_
    rw [hd]
    simp [hc, g1, g2]
  · refine key b s (by rw [hb]; exact asc18.filter _) (by rw [hs]; exact asc08.filter _) ?_
    rw [hd]
    simp [hc]

theorem integer_int (i : Int) (L : Lg) : d_law_integer [.int i] L = some (.bl true, L) := by
  simp [ud_law_integer, ub_law_integer]

theorem some_loopR (a b c e : Sl) (w : Int) (h1 : 0 < w) (h2 : w < 18446744073709551616) (L : Lg) : ∀ (xs : List Int) (cs : List Cell) (x z : Sl), cs.Nodup → cs.length + xs.length ≤ 1000000 →
    ∃ (cs' : List Cell) (x' : Sl), forLoop (gN 6) for_law_some1 (xs.map W.int) [a, b, c, .va (.int w), e, .ow (.dT (setD cs)), x, z] L =
      some (.nx [a, b, c, .va (.int w), e, .ow (.dT (setD cs')), x', z] L) ∧ cs'.Nodup ∧ cs'.length ≤ cs.length + xs.length ∧ ∀ q ∈ cs', q ∈ cs ∨ ∃ k ∈ xs, q = (k / w, k % w)
  | [], cs, x, z, nd, _ => ⟨cs, x, by simp [forLoop], nd, by simp, fun q hq => .inl hq⟩
  | k :: ks, cs, x, z, nd, hl => by
    simp only [List.length_cons] at hl
    have hlt : cs.length < 16777216 := by omega
    by_cases hm : (k / w, k % w) ∈ cs
    · obtain ⟨cs', x', e1, e2, e3, e4⟩ := some_loopR a b c e w h1 h2 L ks cs (.va (.int k)) z nd (by omega)
      refine ⟨cs', x', ?_, e2, by simp; omega, fun q hq => (e4 q hq).elim .inl fun ⟨y, hy, z⟩ => .inr ⟨y, List.mem_cons_of_mem _ hy, z⟩⟩
      rw [List.map_cons, for_nx (g := gN 6) (by simp; rfl) (by simp [ufor_law_some1, h1, h2, hlt, put_set, hm]; exact ⟨rfl, rfl⟩)]
      simpa using e1
    · obtain ⟨cs', x', e1, e2, e3, e4⟩ := some_loopR a b c e w h1 h2 L ks (cs ++ [(k / w, k % w)]) (.va (.int k)) z (List.nodup_append.mpr ⟨nd, by simp, by intro p hp q hq he; simp at hq; subst hq; subst he; exact hm hp⟩) (by simp; omega)
      refine ⟨cs', x', ?_, e2, by simp at e3 ⊢; omega, fun q hq => (e4 q hq).elim (fun z => (List.mem_append.mp z).elim .inl fun z => .inr ⟨k, List.mem_cons_self, by simpa using z⟩) fun ⟨y, hy, z⟩ => .inr ⟨y, List.mem_cons_of_mem _ hy, z⟩⟩
      rw [List.map_cons, for_nx (g := gN 6) (by simp; rfl) (by simp [ufor_law_some1, h1, h2, hlt, put_set, hm]; exact ⟨rfl, rfl⟩)]
      simpa using e1
theorem some_eqR (cell : Int) (count : Nat) (h w : Int) (L : Lg) (h1 : 0 < w) (h2 : w < 4294967296) (h3 : 0 < h) (h4 : h < 4294967296) (hc : count ≤ 1000) :
    ∃ cs : List Cell, d_law_some [.int cell, .int count, .int h, .int w] L = some (cellsL cs, L) ∧ Can cs ∧ cs.length ≤ count ∧ ∀ q ∈ cs, 0 ≤ q.1 ∧ q.1 < h ∧ 0 ≤ q.2 ∧ q.2 < w := by
  have q1 : 0 < h * w := Int.mul_pos h3 h1
  have q2 : h * w < 18446744073709551616 := by
    have := Int.mul_le_mul (show h ≤ 4294967295 by omega) (show w ≤ 4294967295 by omega) (by omega) (by omega)
    omega
  obtain ⟨xs, e, el, eb⟩ := row_eq cell count (h * w) L q1 q2 hc
  obtain ⟨cs', x', e1, e2, e3, e4⟩ := some_loopR (.va (.int cell)) (.va (.int count)) (.va (.int h)) (.va (.int (if cell < 0 then -cell else cell))) w h1 (by omega) L xs [] .un .un (by simp) (by simp; omega)
  refine ⟨sortC cs', ?_, sortC_can e2, by rw [(sortC_perm cs').length_eq]; simp at e3; omega, fun q hq => ?_⟩
  rotate_left
  · rcases e4 q (mem_sortC.mp hq) with z | ⟨k, hk, rfl⟩
    · cases z
    · have kb := eb k hk
      exact ⟨Int.ediv_nonneg kb.1 (by omega), Int.ediv_lt_of_lt_mul h1 kb.2, Int.emod_nonneg _ (by omega), Int.emod_lt_of_pos _ h1⟩
  rw [show setD [] = [] from rfl] at e1
  simp [ud_law_some, ub_law_some, e, show -18446744073709551616 < w by omega, show w < 18446744073709551616 by omega, e1, keys_set]
  rw [cells_map (f := fun c => c)]
  · simp [-List.map_map, sortL_cells, show cs'.length ≤ 16777216 by simp at e3; omega]
  · intro c _
    simp [wipeR]
theorem pattern_eqW (cs : List Cell) (L : Lg) (h : cs.length < 4900) : d_pattern [cellsL cs] L = some (cellsL (canon cs), L) := by
  simp [ud_pattern, ub_pattern, cellsW_map, h]
theorem pattern_eqG (cs : List Cell) (L : Lg) (h : cs.length < 1000) : d_pattern [cellsL cs] L = some (cellsL (canon cs), L) := pattern_eqW cs L (by omega)
theorem canon_nodup {l m : List Cell} (hm : m.Nodup) (h : ∀ x, x ∈ m ↔ x ∈ l) : canon l = sortC m := canon_of hm h
theorem sortC_idem (l : List Cell) : sortC (sortC l) = sortC l := sortC_self (sortC_pw l)

theorem cells_loop (cs : List Cell) (L : Lg) : ∀ (ds : List Cell) (x : Sl), ∃ x', forLoop (gN 1) for_law_cells1 (ds.map cW) [.va (cellsL cs), x] L = some (.nx [.va (cellsL cs), x'] L)
  | [], x => ⟨x, by simp [forLoop]⟩
  | d :: ds, x => by
    obtain ⟨x', e⟩ := cells_loop cs L ds (.va (cW d))
    refine ⟨x', ?_⟩
    rw [List.map_cons, for_nx (g := gN 1) (by simp; rfl) (by simp [ufor_law_cells1, integer_int, atI_one]; exact ⟨rfl, rfl⟩)]
    simpa using e
theorem law_cells_eq (cs : List Cell) (L : Lg) : d_law_cells [cellsL cs] L = some (.bl (decide (cs = sortC cs)), L) := by
  obtain ⟨x', e⟩ := cells_loop cs L cs .un
  simp [ud_law_cells, ub_law_cells, e, sortL_cells, eqW_cells]

/-! a store: its data, and how they stand in the log -/
structure Q4 where
  a : Nat
  b : Nat
  c : Nat
  d : Nat
deriving DecidableEq
def Q4.W (q : Q4) : W := .tup [.int (q.a : Int), .int (q.b : Int), .int (q.c : Int), .int (q.d : Int)]
def Q4.K (q : Q4) : List Key := [.inl (q.a : Int), .inl (q.b : Int), .inl (q.c : Int), .inl (q.d : Int)]
theorem Q4.K_inj {p q : Q4} : p.K = q.K ↔ p = q := by
  constructor
  · intro h
    unfold Q4.K at h
    simp only [List.cons.injEq, Sum.inl.injEq, and_true] at h
    obtain ⟨h1, h2, h3, h4⟩ := h
    cases p; cases q
    simp only [Q4.mk.injEq] at *
    omega
  · rintro rfl; rfl
structure SD where
  ps : List Q4
  ls : List Nat
  cs : List Nat
  fu : List (List Key × W)
  es : List Nat
def intsN (l : List Nat) : List W := l.map fun (n : Nat) => W.int (n : Int)
def numsW : Nat → List Q4 → List (List Key × W)
  | _, [] => []
  | k, p :: r => (p.K, W.int (k : Int)) :: numsW (k + 1) r
def kpW (S : SD) : List W := .tup [] :: .tup [] :: S.ps.map Q4.W
def stoF (ri s : Nat) : List (Str × W) := [("rule", .ob ri), ("kept_parts", .ob (s + 1)), ("levels", .ob (s + 2)), ("counts", .ob (s + 3)), ("numbers", .ob (s + 4)), ("futures", .ob (s + 5)), ("empties", .ob (s + 6))]
@[simp] theorem stoF_ru (ri s : Nat) : (stoF ri s).lookup ("rule" : Str) = some (.ob ri) := by kernel_rfl
@[simp] theorem stoF_kp (ri s : Nat) : (stoF ri s).lookup ("kept_parts" : Str) = some (.ob (s + 1)) := by kernel_rfl
@[simp] theorem stoF_lv (ri s : Nat) : (stoF ri s).lookup ("levels" : Str) = some (.ob (s + 2)) := by kernel_rfl
@[simp] theorem stoF_ct (ri s : Nat) : (stoF ri s).lookup ("counts" : Str) = some (.ob (s + 3)) := by kernel_rfl
@[simp] theorem stoF_nm (ri s : Nat) : (stoF ri s).lookup ("numbers" : Str) = some (.ob (s + 4)) := by kernel_rfl
@[simp] theorem stoF_ft (ri s : Nat) : (stoF ri s).lookup ("futures" : Str) = some (.ob (s + 5)) := by kernel_rfl
@[simp] theorem stoF_em (ri s : Nat) : (stoF ri s).lookup ("empties" : Str) = some (.ob (s + 6)) := by kernel_rfl
@[simp] theorem stoF_joined (ri s : Nat) : (stoF ri s).lookup ("joined" : Str) = none := by kernel_rfl
@[simp] theorem stoF_level (ri s : Nat) : (stoF ri s).lookup ("level" : Str) = none := by kernel_rfl
@[simp] theorem stoF_parts (ri s : Nat) : (stoF ri s).lookup ("parts" : Str) = none := by kernel_rfl
@[simp] theorem stoF_count (ri s : Nat) : (stoF ri s).lookup ("count" : Str) = none := by kernel_rfl
@[simp] theorem stoF_empty (ri s : Nat) : (stoF ri s).lookup ("empty" : Str) = none := by kernel_rfl
@[simp] theorem stoF_built (ri s : Nat) : (stoF ri s).lookup ("built" : Str) = none := by kernel_rfl
@[simp] theorem stoF_cells (ri s : Nat) : (stoF ri s).lookup ("cells" : Str) = none := by kernel_rfl
@[simp] theorem stoF_collect_cells (ri s : Nat) : (stoF ri s).lookup ("collect_cells" : Str) = none := by kernel_rfl
/-- the store at s -/
structure AtS (L : Lg) (ri s : Nat) (S : SD) : Prop where
  st : L[s]? = some (.ins "Store" (stoF ri s))
  kp : L[s + 1]? = some (.box (.lst (kpW S)))
  lv : L[s + 2]? = some (.box (.lst (intsN S.ls)))
  ct : L[s + 3]? = some (.box (.lst (intsN S.cs)))
  nm : L[s + 4]? = some (.box (.dT (numsW 2 S.ps)))
  ft : L[s + 5]? = some (.box (.dT S.fu))
  em : L[s + 6]? = some (.box (.lst (intsN S.es)))
/-- behind a step: the store's data are S, what stood elsewhere stands -/
structure Ext (L : Lg) (ri s : Nat) (S : SD) (L' : Lg) : Prop where
  at_ : AtS L' ri s S
  len : L.length ≤ L'.length
  old : ∀ i : Nat, i < L.length → i ≤ s ∨ s + 7 ≤ i → L'[i]? = L[i]?
theorem AtS.lt {L : Lg} {ri s : Nat} {S : SD} (h : AtS L ri s S) : s + 6 < L.length := (List.getElem?_eq_some_iff.mp h.em).1
theorem Ext.refl {L : Lg} {ri s : Nat} {S : SD} (h : AtS L ri s S) : Ext L ri s S L := ⟨h, Nat.le_refl _, fun _ _ _ => rfl⟩
theorem Ext.trans {L M N : Lg} {ri s : Nat} {A B : SD} (h : Ext L ri s A M) (k : Ext M ri s B N) : Ext L ri s B N :=
  ⟨k.at_, Nat.le_trans h.len k.len, fun i hi ho => (k.old i (Nat.lt_of_lt_of_le hi h.len) ho).trans (h.old i hi ho)⟩
theorem AtS.app {L : Lg} {ri s : Nat} {S : SD} (h : AtS L ri s S) (X : Lg) : AtS (L ++ X) ri s S := by
  have lt := h.lt
  have g : ∀ i, i ≤ 6 → (L ++ X)[s + i]? = L[s + i]? := fun i hi => List.getElem?_append_left (by omega)
  exact ⟨(g 0 (by omega)).trans h.st, (g 1 (by omega)).trans h.kp, (g 2 (by omega)).trans h.lv, (g 3 (by omega)).trans h.ct, (g 4 (by omega)).trans h.nm, (g 5 (by omega)).trans h.ft, (g 6 (by omega)).trans h.em⟩
theorem Ext.app {L : Lg} {ri s : Nat} {S : SD} (h : AtS L ri s S) (X : Lg) : Ext L ri s S (L ++ X) := ⟨h.app X, by rw [List.length_append]; omega, fun i hi _ => List.getElem?_append_left hi⟩
/-- an own box changes -/
theorem AtS.setx {L : Lg} {ri s : Nat} {S : SD} (h : AtS L ri s S) (j : Nat) (o : Ob) (hj : j < s ∨ s + 7 ≤ j) : AtS (L.set j o) ri s S := by
  have g : ∀ i, i ≤ 6 → (L.set j o)[s + i]? = L[s + i]? := fun i hi => List.getElem?_set_ne (by omega)
  exact ⟨(g 0 (by omega)).trans h.st, (g 1 (by omega)).trans h.kp, (g 2 (by omega)).trans h.lv, (g 3 (by omega)).trans h.ct, (g 4 (by omega)).trans h.nm, (g 5 (by omega)).trans h.ft, (g 6 (by omega)).trans h.em⟩
/-! where a square of four parts stands -/
def idx : List Q4 → Q4 → Option Nat
  | [], _ => none
  | p :: r, q => if p = q then some 0 else (idx r q).map (· + 1)
theorem idx_some : ∀ {ps : List Q4} {q : Q4} {i : Nat}, idx ps q = some i → ps[i]? = some q
  | [], _, _, h => by cases h
  | p :: r, q, i, h => by
    unfold idx at h
    split at h
    · rename_i e
      cases h
      subst e
      rfl
    · cases e : idx r q with
      | none => rw [e] at h; cases h
      | some j =>
        rw [e] at h
        simp only [Option.map_some, Option.some.injEq] at h
        subst h
        simpa using idx_some e
theorem idx_none : ∀ {ps : List Q4} {q : Q4}, idx ps q = none → q ∉ ps
  | [], _, _ => by simp
  | p :: r, q, h => by
    unfold idx at h
    split at h
    · cases h
    · rename_i ne
      have : idx r q = none := by simpa using h
      intro hm
      rcases List.mem_cons.mp hm with e | e
      · exact ne e.symm
      · exact idx_none this e
theorem look_nums (q : Q4) : ∀ (ps : List Q4) (k : Nat), lookD (numsW k ps) q.K = (idx ps q).map fun i => W.int ((k + i : Nat) : Int)
  | [], k => rfl
  | p :: r, k => by
    have ih := look_nums q r (k + 1)
    unfold lookD at ih ⊢
    rw [numsW, List.find?_cons]
    unfold idx
    by_cases e : p = q
    · subst e
      simp
    · have e2 : ¬ p.K = q.K := fun z => e (Q4.K_inj.mp z)
      simp only [e2, decide_false, e, if_false]
      rw [ih]
      cases idx r q with
      | none => rfl
      | some j => simp only [Option.map_some]; rw [show k + 1 + j = k + (j + 1) by omega]
theorem nums_app (q : Q4) : ∀ (ps : List Q4) (k : Nat), numsW k (ps ++ [q]) = numsW k ps ++ [(q.K, W.int ((k + ps.length : Nat) : Int))]
  | [], k => rfl
  | p :: r, k => by
    rw [List.cons_append, numsW, numsW, nums_app q r (k + 1), List.cons_append, List.length_cons, show k + 1 + r.length = k + (r.length + 1) by omega]
theorem nums_any (q : Q4) : ∀ (ps : List Q4) (k : Nat), idx ps q = none → ((numsW k ps).any fun kv => decide (kv.1 = q.K)) = false
  | [], _, _ => rfl
  | p :: r, k, h => by
    unfold idx at h
    split at h
    · cases h
    · rename_i ne
      have hr : idx r q = none := by simpa using h
      have e2 : ¬ p.K = q.K := fun z => ne (Q4.K_inj.mp z)
      rw [numsW, List.any_cons, nums_any q r (k + 1) hr]
      simp [e2]
theorem nums_len : ∀ (ps : List Q4) (k : Nat), (numsW k ps).length = ps.length
  | [], _ => rfl
  | _ :: r, k => by rw [numsW, List.length_cons, List.length_cons, nums_len r]
def SD.add (S : SD) (q : Q4) : SD := { S with ps := S.ps ++ [q], ls := S.ls ++ [S.ls.getD q.a 0 + 1], cs := S.cs ++ [S.cs.getD q.a 0 + S.cs.getD q.b 0 + S.cs.getD q.c 0 + S.cs.getD q.d 0] }
def SD.join (S : SD) (q : Q4) : SD × Nat := match idx S.ps q with
  | some i => (S, 2 + i)
  | none => (S.add q, 2 + S.ps.length)
theorem intsN_at {l : List Nat} {i n : Nat} (h : l[i]? = some n) : atI (intsN l) ((i : Nat) : Int) = some (.int (n : Int)) := atI_nat (by unfold intsN; rw [List.getElem?_map, h]; rfl)
theorem intsN_len (l : List Nat) : (intsN l).length = l.length := by simp [intsN]
theorem intsN_app (l : List Nat) (n : Nat) : intsN (l ++ [n]) = intsN l ++ [.int (n : Int)] := by simp [intsN]
theorem get_of {l : List Nat} {i : Nat} (h : i < l.length) : l[i]? = some (l.getD i 0) := by
  rw [List.getD_eq_getElem?_getD, List.getElem?_eq_getElem h]; rfl

/-! joined -/
theorem join_some {S : SD} {q : Q4} {i : Nat} (h : idx S.ps q = some i) : S.join q = (S, 2 + i) := by unfold SD.join; rw [h]
theorem join_none {S : SD} {q : Q4} (h : idx S.ps q = none) : S.join q = (S.add q, 2 + S.ps.length) := by unfold SD.join; rw [h]
theorem gn_of {S : SD} {q : Q4} {i : Option Nat} (h : idx S.ps q = i) : getW (.dT (numsW 2 S.ps)) (.tup [.int (q.a : Int), .int (q.b : Int), .int (q.c : Int), .int (q.d : Int)]) = some (i.map fun i => W.int ((2 + i : Nat) : Int)) := by
  subst h
  show some (lookD (numsW 2 S.ps) q.K) = _
  rw [look_nums]
theorem fz_dT (d : List (List Key × W)) : (M.dT d).fz = W.dT d := rfl
theorem fz_lst (d : List W) : (M.lst d).fz = W.lst d := rfl
theorem joined_old {L : Lg} {ri s : Nat} {S : SD} (h : AtS L ri s S) (q : Q4) {i : Nat} (hn : idx S.ps q = some i) :
    d_Store_joined [.ob s, .int (q.a : Int), .int (q.b : Int), .int (q.c : Int), .int (q.d : Int)] L = some (.int ((2 + i : Nat) : Int), L) := by
  have gn := gn_of hn
  obtain ⟨g0, g1, g2, g3, g4, g5, g6⟩ := h
  rw [ud_Store_joined]
  simp only [Option.map_some] at gn
  simp [ub_Store_joined, g0, g4, fz_dT, gn]
theorem intsW_ints (l : List Nat) : intsW (intsN l) = some (l.map fun (n : Nat) => (n : Int)) := by
  have := intsW_map (l.map fun (n : Nat) => (n : Int))
  rw [List.map_map] at this
  exact this
theorem put_num {S : SD} {q : Q4} (h : idx S.ps q = none) (hz : S.ps.length < 16000000) (w : Nat) (hw : w = 2 + S.ps.length) : putM (.dT (numsW 2 S.ps)) (.tup [.int (q.a : Int), .int (q.b : Int), .int (q.c : Int), .int (q.d : Int)]) (.int (w : Int)) = some (.dT (numsW 2 (S.ps ++ [q]))) := by
  show (if (numsW 2 S.ps).length < 16777216 then some (M.dT (putD (numsW 2 S.ps) q.K (.int (w : Int)))) else none) = _
  rw [nums_len, if_pos (by omega)]
  unfold putD
  rw [if_neg (by rw [nums_any q S.ps 2 h]; decide), nums_app, hw]
theorem getD_nums {S : SD} {q : Q4} (h : idx S.ps q = none) : getW (.dT (numsW 2 (S.ps ++ [q]))) (.tup [.int (q.a : Int), .int (q.b : Int), .int (q.c : Int), .int (q.d : Int)]) = some (some (.int ((2 + S.ps.length : Nat) : Int))) := by
  show some (lookD (numsW 2 (S.ps ++ [q])) q.K) = _
  have : ∀ (ps : List Q4), idx ps q = none → idx (ps ++ [q]) q = some ps.length := by
    intro ps
    induction ps with
    | nil => intro _; simp [idx]
    | cons p r ih =>
      intro hn
      unfold idx at hn
      split at hn
      · cases hn
      · rename_i ne
        have hr : idx r q = none := by simpa using hn
        rw [List.cons_append, idx, if_neg ne, ih hr]
        rfl
  rw [look_nums, this S.ps h]
  rfl
theorem joined_new {L : Lg} {ri s : Nat} {S : SD} (h : AtS L ri s S) (q : Q4) (hl : S.ls.length = S.ps.length + 2) (hc : S.cs.length = S.ps.length + 2) (h1 : q.a < S.ls.length) (h2 : q.b < S.ls.length) (h3 : q.c < S.ls.length) (h4 : q.d < S.ls.length) (hz : S.ps.length < 16000000) (hn : idx S.ps q = none) :
    ∃ L', d_Store_joined [.ob s, .int (q.a : Int), .int (q.b : Int), .int (q.c : Int), .int (q.d : Int)] L = some (.int ((2 + S.ps.length : Nat) : Int), L') ∧ Ext L ri s (S.add q) L' := by
  have gn := gn_of hn
  have g0 := h.st
  have g1 := h.kp
  have g2 := h.lv
  have g3 := h.ct
  have g4 := h.nm
  have ha := intsN_at (get_of h1)
  have ca := intsN_at (get_of (hc.trans hl.symm ▸ h1 : q.a < S.cs.length))
  have cb := intsN_at (get_of (hc.trans hl.symm ▸ h2 : q.b < S.cs.length))
  have cc := intsN_at (get_of (hc.trans hl.symm ▸ h3 : q.c < S.cs.length))
  have cd := intsN_at (get_of (hc.trans hl.symm ▸ h4 : q.d < S.cs.length))
  have pn := put_num hn hz S.ls.length (by omega)
  have gd := getD_nums hn
  have le1 := intsN_len S.ls
  have le2 := intsN_len S.cs
  have le3 : (kpW S).length = S.ps.length + 2 := by simp [kpW]
  simp only [Option.map_none] at gn
  generalize hA : S.ls.getD q.a 0 = xa at *
  generalize hB : S.cs.getD q.a 0 = ya at *
  generalize hC : S.cs.getD q.b 0 = yb at *
  generalize hD : S.cs.getD q.c 0 = yc at *
  generalize hE : S.cs.getD q.d 0 = yd at *
  refine ⟨(((L.set (s + 4) (.box (.dT (numsW 2 (S.ps ++ [q]))))).set (s + 1) (.box (.lst (kpW S ++ [q.W])))).set (s + 2) (.box (.lst (intsN S.ls ++ [.int ((xa : Int) + 1)])))).set (s + 3) (.box (.lst (intsN S.cs ++ [.int ((ya : Int) + ((yb : Int) + ((yc : Int) + ((yd : Int) + 0))))]))), ?_, ?_⟩
  · rw [ud_Store_joined]
    have z1 : S.ps.length + 2 < 16777216 := by omega
    have z2 : S.ls.length < 16777216 := by omega
    have z3 : S.cs.length < 16777216 := by omega
    simp [ub_Store_joined, g0, g1, g2, g3, g4, fz_dT, fz_lst, gn, lenW, le1, le2, le3, pn, z1, z2, z3, ha, addW, wipeR, lcLoop, cYes, ca, cb, cc, cd, sumW, intsW, gd, List.getElem?_set_self', List.getElem?_set_ne]
    rfl
  · have lt := h.lt
    have e2 : intsN (S.add q).ls = intsN S.ls ++ [.int ((xa : Int) + 1)] := by
      show intsN (S.ls ++ [S.ls.getD q.a 0 + 1]) = _
      rw [intsN_app, hA]; rfl
    have e3 : intsN (S.add q).cs = intsN S.cs ++ [.int ((ya : Int) + ((yb : Int) + ((yc : Int) + ((yd : Int) + 0))))] := by
      show intsN (S.cs ++ [S.cs.getD q.a 0 + S.cs.getD q.b 0 + S.cs.getD q.c 0 + S.cs.getD q.d 0]) = _
      rw [intsN_app, hB, hC, hD, hE]
      have : ((ya + yb + yc + yd : Nat) : Int) = (ya : Int) + ((yb : Int) + ((yc : Int) + ((yd : Int) + 0))) := by omega
      rw [this]
    have e1 : kpW (S.add q) = kpW S ++ [q.W] := by simp [kpW, SD.add]
    have e4 : (S.add q).ps = S.ps ++ [q] := rfl
    refine ⟨⟨?_, ?_, ?_, ?_, ?_, ?_, ?_⟩, by simp, fun i hi ho => ?_⟩
    · rw [List.getElem?_set_ne (by omega), List.getElem?_set_ne (by omega), List.getElem?_set_ne (by omega), List.getElem?_set_ne (by omega)]; exact h.st
    · rw [List.getElem?_set_ne (by omega), List.getElem?_set_ne (by omega), List.getElem?_set_self (by simp; omega), e1]
    · rw [List.getElem?_set_ne (by omega), List.getElem?_set_self (by simp; omega), e2]
    · rw [List.getElem?_set_self (by simp; omega), e3]
    · rw [List.getElem?_set_ne (by omega), List.getElem?_set_ne (by omega), List.getElem?_set_ne (by omega), List.getElem?_set_self (by omega), e4]
    · rw [List.getElem?_set_ne (by omega), List.getElem?_set_ne (by omega), List.getElem?_set_ne (by omega), List.getElem?_set_ne (by omega)]; exact h.ft
    · rw [List.getElem?_set_ne (by omega), List.getElem?_set_ne (by omega), List.getElem?_set_ne (by omega), List.getElem?_set_ne (by omega)]; exact h.em
    · rw [List.getElem?_set_ne (by omega), List.getElem?_set_ne (by omega), List.getElem?_set_ne (by omega), List.getElem?_set_ne (by omega)]
/-- joined -/
theorem joined_run {L : Lg} {ri s : Nat} {S : SD} (h : AtS L ri s S) (q : Q4) (hl : S.ls.length = S.ps.length + 2) (hc : S.cs.length = S.ps.length + 2) (h1 : q.a < S.ls.length) (h2 : q.b < S.ls.length) (h3 : q.c < S.ls.length) (h4 : q.d < S.ls.length) (hz : S.ps.length < 16000000) :
    ∃ L', d_Store_joined [.ob s, .int (q.a : Int), .int (q.b : Int), .int (q.c : Int), .int (q.d : Int)] L = some (.int ((S.join q).2 : Int), L') ∧ Ext L ri s (S.join q).1 L' := by
  cases hn : idx S.ps q with
  | none =>
    obtain ⟨L', e, x⟩ := joined_new h q hl hc h1 h2 h3 h4 hz hn
    rw [join_none hn]
    exact ⟨L', e, x⟩
  | some i =>
    rw [join_some hn]
    exact ⟨L, joined_old h q hn, Ext.refl h⟩
/-! level, count, parts -/
theorem level_run {L : Lg} {ri s : Nat} {S : SD} (h : AtS L ri s S) {n : Nat} (hn : n < S.ls.length) : d_Store_level [.ob s, .int (n : Int)] L = some (.int (S.ls.getD n 0 : Nat), L) := by
  have g0 := h.st
  have g2 := h.lv
  have := intsN_at (get_of hn)
  rw [ud_Store_level]
  simp [ub_Store_level, g0, g2, fz_lst, this]
theorem count_run {L : Lg} {ri s : Nat} {S : SD} (h : AtS L ri s S) {n : Nat} (hn : n < S.cs.length) : d_Store_count [.ob s, .int (n : Int)] L = some (.int (S.cs.getD n 0 : Nat), L) := by
  have g0 := h.st
  have g2 := h.ct
  have := intsN_at (get_of hn)
  rw [ud_Store_count]
  simp [ub_Store_count, g0, g2, fz_lst, this]
theorem kp_at {S : SD} {i : Nat} {q : Q4} (h : S.ps[i]? = some q) : atI (kpW S) ((2 + i : Nat) : Int) = some q.W := by
  refine atI_nat ?_
  unfold kpW
  rw [show 2 + i = i + 1 + 1 by omega, List.getElem?_cons_succ, List.getElem?_cons_succ, List.getElem?_map, h]
  rfl
theorem parts_run {L : Lg} {ri s : Nat} {S : SD} (h : AtS L ri s S) {i : Nat} {q : Q4} (hq : S.ps[i]? = some q) : d_Store_parts [.ob s, .int ((2 + i : Nat) : Int)] L = some (q.W, L) := by
  have g0 := h.st
  have g2 := h.kp
  have := kp_at hq
  rw [ud_Store_parts]
  generalize ((2 + i : Nat) : Int) = z at *
  simp [ub_Store_parts, g0, g2, fz_lst, this]

/-! what squares hold: plain part -/
def lev (S : SD) (i : Nat) : Nat := S.ls.getD i 0
def cnt (S : SD) (i : Nat) : Nat := S.cs.getD i 0
def liv (ps : List Q4) : Nat → Nat → Int → Int → Bool
  | 0, i, r, c => decide (i = 1 ∧ r = 0 ∧ c = 0)
  | l + 1, i, r, c => match i with
    | k + 2 => (match ps[k]? with
      | some q => liv ps l q.a r c || liv ps l q.b r (c - 2 ^ l) || liv ps l q.c (r - 2 ^ l) c || liv ps l q.d (r - 2 ^ l) (c - 2 ^ l)
      | none => false)
    | _ => false
def cel (ps : List Q4) : Nat → Nat → Int → Int → List Cell
  | 0, i, r, c => if i = 1 then [(r, c)] else []
  | l + 1, i, r, c => match i with
    | k + 2 => (match ps[k]? with
      | some q => cel ps l q.a r c ++ (cel ps l q.b r (c + 2 ^ l) ++ (cel ps l q.c (r + 2 ^ l) c ++ cel ps l q.d (r + 2 ^ l) (c + 2 ^ l)))
      | none => [])
    | _ => []
theorem liv_at {ps : List Q4} {l k : Nat} {q : Q4} (h : ps[k]? = some q) (r c : Int) : liv ps (l + 1) (k + 2) r c = (liv ps l q.a r c || liv ps l q.b r (c - 2 ^ l) || liv ps l q.c (r - 2 ^ l) c || liv ps l q.d (r - 2 ^ l) (c - 2 ^ l)) := by
  rw [liv]; simp only [h]
theorem cel_at {ps : List Q4} {l k : Nat} {q : Q4} (h : ps[k]? = some q) (r c : Int) : cel ps (l + 1) (k + 2) r c = cel ps l q.a r c ++ (cel ps l q.b r (c + 2 ^ l) ++ (cel ps l q.c (r + 2 ^ l) c ++ cel ps l q.d (r + 2 ^ l) (c + 2 ^ l))) := by
  rw [cel]; simp only [h]
theorem liv_s0 (ps : List Q4) (l : Nat) (r c : Int) : liv ps (l + 1) 0 r c = false := rfl
theorem liv_s1 (ps : List Q4) (l : Nat) (r c : Int) : liv ps (l + 1) 1 r c = false := rfl
theorem cel_s0 (ps : List Q4) (l : Nat) (r c : Int) : cel ps (l + 1) 0 r c = [] := rfl
theorem cel_s1 (ps : List Q4) (l : Nat) (r c : Int) : cel ps (l + 1) 1 r c = [] := rfl
theorem two_pos (l : Nat) : (0 : Int) < 2 ^ l := Int.pow_pos (by decide)
theorem two_succ (l : Nat) : (2 : Int) ^ (l + 1) = 2 ^ l + 2 ^ l := by rw [Int.pow_succ]; omega
theorem liv_in (ps : List Q4) : ∀ (l i : Nat) (r c : Int), liv ps l i r c = true → 0 ≤ r ∧ r < 2 ^ l ∧ 0 ≤ c ∧ c < 2 ^ l
  | 0, i, r, c, h => by
    have := of_decide_eq_true h
    obtain ⟨_, rfl, rfl⟩ := this
    decide
  | l + 1, i, r, c, h => by
    have hp := two_pos l
    rw [two_succ]
    match i, h with
    | k + 2, h =>
      cases e : ps[k]? with
      | none => rw [liv] at h; simp only [e] at h; cases h
      | some q =>
        rw [liv_at e] at h
        simp only [Bool.or_eq_true] at h
        rcases h with ((h | h) | h) | h <;> have := liv_in ps l _ _ _ h <;> omega
    | 0, h => rw [liv_s0] at h; cases h
    | 1, h => rw [liv_s1] at h; cases h
theorem mem_cel (ps : List Q4) : ∀ (l i : Nat) (r c : Int) (x : Cell), x ∈ cel ps l i r c ↔ liv ps l i (x.1 - r) (x.2 - c) = true
  | 0, i, r, c, x => by
    rw [cel, liv]
    by_cases e : i = 1
    · simp only [e, if_true, List.mem_singleton, true_and, decide_eq_true_eq]
      constructor
      · rintro rfl; simp
      · rintro ⟨a, b⟩
        exact Prod.ext (by simp only; omega) (by simp only; omega)
    · simp [e]
  | l + 1, i, r, c, x => by
    match i with
    | 0 => rw [cel_s0, liv_s0]; simp
    | 1 => rw [cel_s1, liv_s1]; simp
    | k + 2 =>
      cases e : ps[k]? with
      | none => rw [cel, liv]; simp only [e]; simp
      | some q =>
        rw [liv_at e, cel_at e]
        simp only [List.mem_append, mem_cel ps l, Bool.or_eq_true, show ∀ a b h : Int, a - (b + h) = a - b - h by intro a b h; omega]
        simp only [or_assoc]
theorem nodup_cel (ps : List Q4) : ∀ (l i : Nat) (r c : Int), (cel ps l i r c).Nodup
  | 0, i, r, c => by
    rw [cel]
    split
    · simp
    · exact List.nodup_nil
  | l + 1, i, r, c => by
    have hp := two_pos l
    match i with
    | 0 => rw [cel_s0]; exact List.nodup_nil
    | 1 => rw [cel_s1]; exact List.nodup_nil
    | k + 2 =>
      cases e : ps[k]? with
      | none => rw [cel]; simp only [e]; exact List.nodup_nil
      | some q =>
        rw [cel_at e]
        have ds : ∀ {i j : Nat} {r c r' c' : Int}, (r' = r + 2 ^ l ∨ r = r' + 2 ^ l) ∨ (c' = c + 2 ^ l ∨ c = c' + 2 ^ l) → ∀ a ∈ cel ps l i r c, ∀ b ∈ cel ps l j r' c', a ≠ b := by
          intro i j r c r' c' h a ha b hb he
          subst he
          have x := liv_in ps l _ _ _ ((mem_cel ps l _ _ _ _).mp ha)
          have y := liv_in ps l _ _ _ ((mem_cel ps l _ _ _ _).mp hb)
          omega
        refine List.nodup_append.mpr ⟨nodup_cel ps l _ _ _, List.nodup_append.mpr ⟨nodup_cel ps l _ _ _, List.nodup_append.mpr ⟨nodup_cel ps l _ _ _, nodup_cel ps l _ _ _, ds (by simp)⟩, fun a ha b hb => ?_⟩, fun a ha b hb => ?_⟩
        · rcases List.mem_append.mp hb with hb | hb
          · exact ds (by simp) a ha b hb
          · exact ds (by simp) a ha b hb
        · rcases List.mem_append.mp hb with hb | hb
          · exact ds (by simp) a ha b hb
          · rcases List.mem_append.mp hb with hb | hb
            · exact ds (by simp) a ha b hb
            · exact ds (by simp) a ha b hb
/-- a store as it should be -/
structure Good (S : SD) : Prop where
  hl : S.ls.length = S.ps.length + 2
  hc : S.cs.length = S.ps.length + 2
  l0 : lev S 0 = 0
  l1 : lev S 1 = 0
  c0 : cnt S 0 = 0
  c1 : cnt S 1 = 1
  lt : ∀ k q, S.ps[k]? = some q → q.a < 2 + k ∧ q.b < 2 + k ∧ q.c < 2 + k ∧ q.d < 2 + k
  le : ∀ k q, S.ps[k]? = some q → lev S q.b = lev S q.a ∧ lev S q.c = lev S q.a ∧ lev S q.d = lev S q.a ∧ lev S (2 + k) = lev S q.a + 1
  ct : ∀ k q, S.ps[k]? = some q → cnt S (2 + k) = cnt S q.a + cnt S q.b + cnt S q.c + cnt S q.d
  nd : S.ps.Nodup
  e1 : 1 ≤ S.es.length
  em : ∀ k e, S.es[k]? = some e → e < S.ls.length ∧ lev S e = k ∧ ∀ r c, liv S.ps k e r c = false
structure Le (A B : SD) : Prop where
  ps : A.ps <+: B.ps
  ls : A.ls <+: B.ls
  cs : A.cs <+: B.cs
  es : A.es <+: B.es
theorem Le.refl (A : SD) : Le A A := ⟨List.prefix_refl _, List.prefix_refl _, List.prefix_refl _, List.prefix_refl _⟩
theorem Le.trans {A B C : SD} (h : Le A B) (k : Le B C) : Le A C := ⟨h.ps.trans k.ps, h.ls.trans k.ls, h.cs.trans k.cs, h.es.trans k.es⟩
theorem pre_get {α : Type} {a b : List α} (h : a <+: b) {i : Nat} {x : α} (e : a[i]? = some x) : b[i]? = some x := by
  obtain ⟨t, rfl⟩ := h
  rw [List.getElem?_append_left (List.getElem?_eq_some_iff.mp e).1, e]
theorem pre_getD {a b : List Nat} (h : a <+: b) {i : Nat} (hi : i < a.length) : b.getD i 0 = a.getD i 0 := by
  obtain ⟨t, rfl⟩ := h
  rw [List.getD_eq_getElem?_getD, List.getD_eq_getElem?_getD, List.getElem?_append_left hi]
theorem Le.lev {A B : SD} (h : Le A B) {i : Nat} (hi : i < A.ls.length) : lev B i = lev A i := pre_getD h.ls hi
theorem Le.cnt {A B : SD} (h : Le A B) {i : Nat} (hi : i < A.cs.length) : cnt B i = cnt A i := pre_getD h.cs hi
theorem Le.lt {A B : SD} (h : Le A B) {i : Nat} (hi : i < A.ls.length) : i < B.ls.length := Nat.lt_of_lt_of_le hi h.ls.length_le
theorem Good.split {S : SD} (G : Good S) {i : Nat} (hi : i < S.ls.length) : i = 0 ∨ i = 1 ∨ ∃ k q, i = k + 2 ∧ S.ps[k]? = some q := by
  match i, hi with
  | 0, _ => exact Or.inl rfl
  | 1, _ => exact Or.inr (Or.inl rfl)
  | k + 2, hi =>
    have := G.hl
    have hk : k < S.ps.length := by omega
    exact Or.inr (Or.inr ⟨k, _, rfl, List.getElem?_eq_getElem hk⟩)
theorem Good.part {S : SD} (G : Good S) {l i : Nat} (hi : i < S.ls.length) (h : lev S i = l + 1) : ∃ k q, i = k + 2 ∧ S.ps[k]? = some q ∧ (q.a < S.ls.length ∧ lev S q.a = l) ∧ (q.b < S.ls.length ∧ lev S q.b = l) ∧ (q.c < S.ls.length ∧ lev S q.c = l) ∧ (q.d < S.ls.length ∧ lev S q.d = l) := by
  rcases G.split hi with rfl | rfl | ⟨k, q, rfl, e⟩
  · rw [G.l0] at h; cases h
  · rw [G.l1] at h; cases h
  · obtain ⟨a1, a2, a3, a4⟩ := G.lt k q e
    obtain ⟨b1, b2, b3, b4⟩ := G.le k q e
    rw [show 2 + k = k + 2 by omega] at b4
    exact ⟨k, q, rfl, e, ⟨by omega, by omega⟩, ⟨by omega, by omega⟩, ⟨by omega, by omega⟩, ⟨by omega, by omega⟩⟩
theorem Good.flat {S : SD} (G : Good S) {i : Nat} (hi : i < S.ls.length) (h : lev S i = 0) : i = 0 ∨ i = 1 := by
  rcases G.split hi with rfl | rfl | ⟨k, q, rfl, e⟩
  · exact Or.inl rfl
  · exact Or.inr rfl
  · have := (G.le k q e).2.2.2
    rw [show 2 + k = k + 2 by omega, h] at this
    omega
theorem Good.liv_le {A B : SD} (G : Good A) (h : Le A B) : ∀ (l i : Nat), i < A.ls.length → lev A i = l → ∀ r c, liv B.ps l i r c = liv A.ps l i r c
  | 0, _, _, _, _, _ => rfl
  | l + 1, i, hi, hl, r, c => by
    obtain ⟨k, q, rfl, e, ⟨a1, a2⟩, ⟨b1, b2⟩, ⟨c1, c2⟩, ⟨d1, d2⟩⟩ := G.part hi hl
    rw [liv_at e, liv_at (pre_get h.ps e), Good.liv_le G h l _ a1 a2, Good.liv_le G h l _ b1 b2, Good.liv_le G h l _ c1 c2, Good.liv_le G h l _ d1 d2]
theorem Good.len_cel {S : SD} (G : Good S) : ∀ (l i : Nat), i < S.ls.length → lev S i = l → ∀ r c, (cel S.ps l i r c).length = cnt S i
  | 0, i, hi, hl, r, c => by
    rcases G.flat hi hl with rfl | rfl
    · rw [cel, G.c0]; rfl
    · rw [cel, G.c1]; rfl
  | l + 1, i, hi, hl, r, c => by
    obtain ⟨k, q, rfl, e, ⟨a1, a2⟩, ⟨b1, b2⟩, ⟨c1, c2⟩, ⟨d1, d2⟩⟩ := G.part hi hl
    have := G.ct k q e
    rw [show 2 + k = k + 2 by omega] at this
    rw [cel_at e, List.length_append, List.length_append, List.length_append, Good.len_cel G l _ a1 a2, Good.len_cel G l _ b1 b2, Good.len_cel G l _ c1 c2, Good.len_cel G l _ d1 d2, this]
    omega
/-- quarters -/
theorem liv_a {ps : List Q4} {l : Nat} {q : Q4} {r c : Int} (h1 : r < 2 ^ l) (h2 : c < 2 ^ l) : (liv ps l q.a r c || liv ps l q.b r (c - 2 ^ l) || liv ps l q.c (r - 2 ^ l) c || liv ps l q.d (r - 2 ^ l) (c - 2 ^ l)) = liv ps l q.a r c := by
  have n1 : liv ps l q.b r (c - 2 ^ l) = false := by
    cases e : liv ps l q.b r (c - 2 ^ l) with
    | false => rfl
    | true => have := liv_in ps l _ _ _ e; omega
  have n2 : liv ps l q.c (r - 2 ^ l) c = false := by
    cases e : liv ps l q.c (r - 2 ^ l) c with
    | false => rfl
    | true => have := liv_in ps l _ _ _ e; omega
  have n3 : liv ps l q.d (r - 2 ^ l) (c - 2 ^ l) = false := by
    cases e : liv ps l q.d (r - 2 ^ l) (c - 2 ^ l) with
    | false => rfl
    | true => have := liv_in ps l _ _ _ e; omega
  rw [n1, n2, n3, Bool.or_false, Bool.or_false, Bool.or_false]
theorem liv_b {ps : List Q4} {l : Nat} {q : Q4} {r c : Int} (h1 : r < 2 ^ l) (h2 : 2 ^ l ≤ c) : (liv ps l q.a r c || liv ps l q.b r (c - 2 ^ l) || liv ps l q.c (r - 2 ^ l) c || liv ps l q.d (r - 2 ^ l) (c - 2 ^ l)) = liv ps l q.b r (c - 2 ^ l) := by
  have n1 : liv ps l q.a r c = false := by
    cases e : liv ps l q.a r c with
    | false => rfl
    | true => have := liv_in ps l _ _ _ e; omega
  have n2 : liv ps l q.c (r - 2 ^ l) c = false := by
    cases e : liv ps l q.c (r - 2 ^ l) c with
    | false => rfl
    | true => have := liv_in ps l _ _ _ e; omega
  have n3 : liv ps l q.d (r - 2 ^ l) (c - 2 ^ l) = false := by
    cases e : liv ps l q.d (r - 2 ^ l) (c - 2 ^ l) with
    | false => rfl
    | true => have := liv_in ps l _ _ _ e; omega
  rw [n1, n2, n3, Bool.or_false, Bool.or_false, Bool.false_or]
theorem liv_c {ps : List Q4} {l : Nat} {q : Q4} {r c : Int} (h1 : 2 ^ l ≤ r) (h2 : c < 2 ^ l) : (liv ps l q.a r c || liv ps l q.b r (c - 2 ^ l) || liv ps l q.c (r - 2 ^ l) c || liv ps l q.d (r - 2 ^ l) (c - 2 ^ l)) = liv ps l q.c (r - 2 ^ l) c := by
  have n1 : liv ps l q.a r c = false := by
    cases e : liv ps l q.a r c with
    | false => rfl
    | true => have := liv_in ps l _ _ _ e; omega
  have n2 : liv ps l q.b r (c - 2 ^ l) = false := by
    cases e : liv ps l q.b r (c - 2 ^ l) with
    | false => rfl
    | true => have := liv_in ps l _ _ _ e; omega
  have n3 : liv ps l q.d (r - 2 ^ l) (c - 2 ^ l) = false := by
    cases e : liv ps l q.d (r - 2 ^ l) (c - 2 ^ l) with
    | false => rfl
    | true => have := liv_in ps l _ _ _ e; omega
  rw [n1, n2, n3, Bool.or_false, Bool.false_or, Bool.false_or]
theorem liv_d {ps : List Q4} {l : Nat} {q : Q4} {r c : Int} (h1 : 2 ^ l ≤ r) (h2 : 2 ^ l ≤ c) : (liv ps l q.a r c || liv ps l q.b r (c - 2 ^ l) || liv ps l q.c (r - 2 ^ l) c || liv ps l q.d (r - 2 ^ l) (c - 2 ^ l)) = liv ps l q.d (r - 2 ^ l) (c - 2 ^ l) := by
  have n1 : liv ps l q.a r c = false := by
    cases e : liv ps l q.a r c with
    | false => rfl
    | true => have := liv_in ps l _ _ _ e; omega
  have n2 : liv ps l q.b r (c - 2 ^ l) = false := by
    cases e : liv ps l q.b r (c - 2 ^ l) with
    | false => rfl
    | true => have := liv_in ps l _ _ _ e; omega
  have n3 : liv ps l q.c (r - 2 ^ l) c = false := by
    cases e : liv ps l q.c (r - 2 ^ l) c with
    | false => rfl
    | true => have := liv_in ps l _ _ _ e; omega
  rw [n1, n2, n3, Bool.false_or, Bool.false_or, Bool.false_or]
theorem liv_out {ps : List Q4} {l i : Nat} {r c : Int} (h : ¬ (0 ≤ r ∧ r < 2 ^ l ∧ 0 ≤ c ∧ c < 2 ^ l)) : liv ps l i r c = false := by
  cases e : liv ps l i r c with
  | false => rfl
  | true => exact absurd (liv_in ps l _ _ _ e) h
theorem nodup_at {α : Type} : ∀ {l : List α}, l.Nodup → ∀ {i j : Nat} {x : α}, l[i]? = some x → l[j]? = some x → i = j
  | [], _, _, _, _, h, _ => by simp at h
  | a :: r, hn, i, j, x, hi, hj => by
    obtain ⟨h1, h2⟩ := List.nodup_cons.mp hn
    match i, j, hi, hj with
    | 0, 0, _, _ => rfl
    | 0, j + 1, hi, hj =>
      simp only [List.getElem?_cons_zero, Option.some.injEq] at hi
      subst hi
      rw [List.getElem?_cons_succ] at hj
      exact absurd (List.mem_of_getElem? hj) h1
    | i + 1, 0, hi, hj =>
      simp only [List.getElem?_cons_zero, Option.some.injEq] at hj
      subst hj
      rw [List.getElem?_cons_succ] at hi
      exact absurd (List.mem_of_getElem? hi) h1
    | i + 1, j + 1, hi, hj =>
      rw [List.getElem?_cons_succ] at hi hj
      rw [nodup_at h2 hi hj]
/-- squares of one level with the same cells are one -/
theorem Good.uniq {S : SD} (G : Good S) : ∀ (l i j : Nat), i < S.ls.length → lev S i = l → j < S.ls.length → lev S j = l → (∀ r c, liv S.ps l i r c = liv S.ps l j r c) → i = j
  | 0, i, j, hi, li, hj, lj, h => by
    have h00 := h 0 0
    rcases G.flat hi li with rfl | rfl <;> rcases G.flat hj lj with rfl | rfl <;> first | rfl | (simp [liv] at h00)
  | l + 1, i, j, hi, li, hj, lj, h => by
    have hp := two_pos l
    obtain ⟨k, q, rfl, e, ⟨a1, a2⟩, ⟨b1, b2⟩, ⟨c1, c2⟩, ⟨d1, d2⟩⟩ := G.part hi li
    obtain ⟨k', q', rfl, e', ⟨a1', a2'⟩, ⟨b1', b2'⟩, ⟨c1', c2'⟩, ⟨d1', d2'⟩⟩ := G.part hj lj
    have ea : q.a = q'.a := Good.uniq G l _ _ a1 a2 a1' a2' fun r c => by
      by_cases hr : 0 ≤ r ∧ r < 2 ^ l ∧ 0 ≤ c ∧ c < 2 ^ l
      · have := h r c
        rw [liv_at e, liv_at e', liv_a (by omega) (by omega), liv_a (by omega) (by omega)] at this
        exact this
      · rw [liv_out hr, liv_out hr]
    have eb : q.b = q'.b := Good.uniq G l _ _ b1 b2 b1' b2' fun r c => by
      by_cases hr : 0 ≤ r ∧ r < 2 ^ l ∧ 0 ≤ c ∧ c < 2 ^ l
      · have := h r (c + 2 ^ l)
        rw [liv_at e, liv_at e', liv_b (by omega) (by omega), liv_b (by omega) (by omega), Int.add_sub_cancel] at this
        exact this
      · rw [liv_out hr, liv_out hr]
    have ec : q.c = q'.c := Good.uniq G l _ _ c1 c2 c1' c2' fun r c => by
      by_cases hr : 0 ≤ r ∧ r < 2 ^ l ∧ 0 ≤ c ∧ c < 2 ^ l
      · have := h (r + 2 ^ l) c
        rw [liv_at e, liv_at e', liv_c (by omega) (by omega), liv_c (by omega) (by omega), Int.add_sub_cancel] at this
        exact this
      · rw [liv_out hr, liv_out hr]
    have ed : q.d = q'.d := Good.uniq G l _ _ d1 d2 d1' d2' fun r c => by
      by_cases hr : 0 ≤ r ∧ r < 2 ^ l ∧ 0 ≤ c ∧ c < 2 ^ l
      · have := h (r + 2 ^ l) (c + 2 ^ l)
        rw [liv_at e, liv_at e', liv_d (by omega) (by omega), liv_d (by omega) (by omega), Int.add_sub_cancel, Int.add_sub_cancel] at this
        exact this
      · rw [liv_out hr, liv_out hr]
    have eq : q = q' := by cases q; cases q'; simp only [Q4.mk.injEq] at *; omega
    subst eq
    have := nodup_at G.nd e e'
    omega

/-! joined and empty keep a store good -/
structure Sq (S : SD) (l n : Nat) : Prop where
  lt : n < S.ls.length
  lv : lev S n = l
theorem Sq.le {A B : SD} {l n : Nat} (q : Sq A l n) (h : Le A B) : Sq B l n := ⟨h.lt q.lt, (h.lev q.lt).trans q.lv⟩
structure Stp (ri s : Nat) (L : Lg) (S : SD) (L' : Lg) (S' : SD) : Prop where
  ex : Ext L ri s S' L'
  gd : Good S'
  le : Le S S'
  fu : S'.fu = S.fu
theorem Stp.refl {ri s : Nat} {L : Lg} {S : SD} (h : AtS L ri s S) (G : Good S) : Stp ri s L S L S := ⟨Ext.refl h, G, Le.refl S, rfl⟩
theorem Stp.trans {ri s : Nat} {L M N : Lg} {A B C : SD} (h : Stp ri s L A M B) (k : Stp ri s M B N C) : Stp ri s L A N C := ⟨h.ex.trans k.ex, k.gd, h.le.trans k.le, k.fu.trans h.fu⟩
theorem getD_app_l {l m : List Nat} {i : Nat} (h : i < l.length) : (l ++ m).getD i 0 = l.getD i 0 := by
  rw [List.getD_eq_getElem?_getD, List.getD_eq_getElem?_getD, List.getElem?_append_left h]
theorem getD_app_r (l : List Nat) (x : Nat) : (l ++ [x]).getD l.length 0 = x := by
  rw [List.getD_eq_getElem?_getD, List.getElem?_append_right (Nat.le_refl _)]; simp
theorem idx_nodup {ps : List Q4} {q : Q4} (h : idx ps q = none) (hn : ps.Nodup) : (ps ++ [q]).Nodup := by
  refine List.nodup_append.mpr ⟨hn, by simp, fun a ha b hb e => ?_⟩
  simp only [List.mem_singleton] at hb
  subst hb
  subst e
  exact idx_none h ha
structure Kids (S : SD) (l : Nat) (q : Q4) : Prop where
  a : Sq S l q.a
  b : Sq S l q.b
  c : Sq S l q.c
  d : Sq S l q.d
theorem Kids.le {A B : SD} {l : Nat} {q : Q4} (k : Kids A l q) (h : Le A B) : Kids B l q := ⟨k.a.le h, k.b.le h, k.c.le h, k.d.le h⟩
theorem add_good {S : SD} (G : Good S) {l : Nat} {q : Q4} (k : Kids S l q) (hn : idx S.ps q = none) : Good (S.add q) ∧ Le S (S.add q) := by
  obtain ⟨⟨a1, a2⟩, ⟨b1, b2⟩, ⟨c1, c2⟩, ⟨d1, d2⟩⟩ := k
  have hl := G.hl
  have hc := G.hc
  have le : Le S (S.add q) := ⟨List.prefix_append _ _, List.prefix_append _ _, List.prefix_append _ _, List.prefix_refl _⟩
  have pe : (S.add q).ps = S.ps ++ [q] := rfl
  have lv : ∀ {i}, i < S.ls.length → lev (S.add q) i = lev S i := fun h => le.lev h
  have cv : ∀ {i}, i < S.cs.length → cnt (S.add q) i = cnt S i := fun h => le.cnt h
  have ln : lev (S.add q) (2 + S.ps.length) = l + 1 := by
    show (S.ls ++ [S.ls.getD q.a 0 + 1]).getD (2 + S.ps.length) 0 = _
    rw [show 2 + S.ps.length = S.ls.length by omega, getD_app_r]
    exact congrArg (· + 1) a2
  have cn : cnt (S.add q) (2 + S.ps.length) = cnt S q.a + cnt S q.b + cnt S q.c + cnt S q.d := by
    show (S.cs ++ [_]).getD (2 + S.ps.length) 0 = _
    rw [show 2 + S.ps.length = S.cs.length by omega, getD_app_r]
    rfl
  have cas : ∀ {k : Nat} {p : Q4}, (S.add q).ps[k]? = some p → S.ps[k]? = some p ∨ (k = S.ps.length ∧ p = q) := by
    intro k p h
    rw [pe] at h
    rcases Nat.lt_trichotomy k S.ps.length with lt | eq | gt
    · rw [List.getElem?_append_left lt] at h; exact Or.inl h
    · subst eq
      rw [List.getElem?_append_right (Nat.le_refl _)] at h
      simp at h
      exact Or.inr ⟨rfl, h.symm⟩
    · have := (List.getElem?_eq_some_iff.mp h).1
      rw [List.length_append, List.length_singleton] at this
      omega
  refine ⟨⟨?_, ?_, ?_, ?_, ?_, ?_, ?_, ?_, ?_, ?_, G.e1, ?_⟩, le⟩
  · show (S.ls ++ [_]).length = (S.ps ++ [q]).length + 2
    simp only [List.length_append, List.length_singleton]; omega
  · show (S.cs ++ [_]).length = (S.ps ++ [q]).length + 2
    simp only [List.length_append, List.length_singleton]; omega
  · rw [lv (by omega), G.l0]
  · rw [lv (by omega), G.l1]
  · rw [cv (by omega), G.c0]
  · rw [cv (by omega), G.c1]
  · intro k p h
    rcases cas h with h | ⟨rfl, rfl⟩
    · exact G.lt k p h
    · omega
  · intro k p h
    rcases cas h with h | ⟨rfl, rfl⟩
    · have hk := (List.getElem?_eq_some_iff.mp h).1
      obtain ⟨x1, x2, x3, x4⟩ := G.lt k p h
      rw [lv (by omega), lv (by omega), lv (by omega), lv (by omega), lv (by omega)]
      exact G.le k p h
    · rw [lv a1, lv b1, lv c1, lv d1, ln]; omega
  · intro k p h
    rcases cas h with h | ⟨rfl, rfl⟩
    · have hk := (List.getElem?_eq_some_iff.mp h).1
      obtain ⟨x1, x2, x3, x4⟩ := G.lt k p h
      rw [cv (by omega), cv (by omega), cv (by omega), cv (by omega), cv (by omega)]
      exact G.ct k p h
    · rw [cn, cv (by omega), cv (by omega), cv (by omega), cv (by omega)]
  · exact idx_nodup hn G.nd
  · intro k e h
    obtain ⟨x1, x2, x3⟩ := G.em k e h
    refine ⟨le.lt x1, (lv x1).trans x2, fun r c => ?_⟩
    rw [Good.liv_le G le k e x1 x2]
    exact x3 r c
/-- what joined does -/
theorem joined_ok {L : Lg} {ri s : Nat} {S : SD} (h : AtS L ri s S) (G : Good S) {l a b c d : Nat} (k : Kids S l ⟨a, b, c, d⟩) (hz : S.ps.length < 16000000) :
    ∃ (S' : SD) (L' : Lg) (n : Nat), d_Store_joined [.ob s, .int (a : Int), .int (b : Int), .int (c : Int), .int (d : Int)] L = some (.int ((n + 2 : Nat) : Int), L') ∧ Stp ri s L S L' S' ∧ S'.es = S.es ∧ S'.ps[n]? = some ⟨a, b, c, d⟩ ∧ Sq S' (l + 1) (n + 2) ∧ S'.ps.length ≤ S.ps.length + 1 := by
  have hl := G.hl
  cases hn : idx S.ps ⟨a, b, c, d⟩ with
  | some i =>
    have e := idx_some hn
    have hi := (List.getElem?_eq_some_iff.mp e).1
    have lv := (G.le i _ e).2.2.2
    refine ⟨S, L, i, ?_, Stp.refl h G, rfl, e, ⟨by omega, ?_⟩, by omega⟩
    · rw [show i + 2 = 2 + i by omega]; exact joined_old h _ hn
    · rw [show i + 2 = 2 + i by omega, lv]; exact congrArg (· + 1) k.a.lv
  | none =>
    obtain ⟨L', e, x⟩ := joined_new h ⟨a, b, c, d⟩ hl G.hc k.a.lt k.b.lt k.c.lt k.d.lt hz hn
    obtain ⟨G', le⟩ := add_good G k hn
    have pe : (S.add ⟨a, b, c, d⟩).ps[S.ps.length]? = some ⟨a, b, c, d⟩ := by
      show (S.ps ++ [_])[S.ps.length]? = _
      rw [List.getElem?_append_right (Nat.le_refl _)]; simp
    have lv := (G'.le _ _ pe).2.2.2
    refine ⟨S.add ⟨a, b, c, d⟩, L', S.ps.length, ?_, ⟨x, G', le, rfl⟩, rfl, pe, ⟨?_, ?_⟩, ?_⟩
    · rw [show S.ps.length + 2 = 2 + S.ps.length by omega]; exact e
    · show _ < (S.ls ++ [_]).length
      rw [List.length_append, List.length_singleton]; omega
    · rw [show S.ps.length + 2 = 2 + S.ps.length by omega, lv, le.lev k.a.lt]; exact congrArg (· + 1) k.a.lv
    · show (S.ps ++ [_]).length ≤ _
      rw [List.length_append, List.length_singleton]; omega
def SD.emp (S : SD) (n : Nat) : SD := { S with es := S.es ++ [n] }
theorem emp_good {S : SD} (G : Good S) {n : Nat} (q : Sq S S.es.length n) (hd : ∀ r c, liv S.ps S.es.length n r c = false) : Good (S.emp n) ∧ Le S (S.emp n) := by
  refine ⟨⟨G.hl, G.hc, G.l0, G.l1, G.c0, G.c1, G.lt, G.le, G.ct, G.nd, ?_, ?_⟩, ⟨List.prefix_refl _, List.prefix_refl _, List.prefix_refl _, List.prefix_append _ _⟩⟩
  · show 1 ≤ (S.es ++ [n]).length
    rw [List.length_append, List.length_singleton]; omega
  · intro k e h
    have h : (S.es ++ [n])[k]? = some e := h
    rcases Nat.lt_trichotomy k S.es.length with lt | eq | gt
    · rw [List.getElem?_append_left lt] at h; exact G.em k e h
    · subst eq
      rw [List.getElem?_append_right (Nat.le_refl _)] at h
      simp at h
      subst h
      exact ⟨q.lt, q.lv, hd⟩
    · have := (List.getElem?_eq_some_iff.mp h).1
      rw [List.length_append, List.length_singleton] at this
      omega
theorem emp_ext {L M : Lg} {ri s : Nat} {S : SD} (n : Nat) (x : Ext L ri s S M) (lt : s + 6 < L.length) : Ext L ri s (S.emp n) (M.set (s + 6) (.box (.lst (intsN S.es ++ [.int (n : Int)])))) := by
  obtain ⟨⟨g0, g1, g2, g3, g4, g5, g6⟩, ln, od⟩ := x
  have e : intsN (S.emp n).es = intsN S.es ++ [.int (n : Int)] := intsN_app _ _
  refine ⟨⟨?_, ?_, ?_, ?_, ?_, ?_, ?_⟩, by simp only [List.length_set]; exact ln, fun i hi ho => ?_⟩
  · rw [List.getElem?_set_ne (by omega)]; exact g0
  · rw [List.getElem?_set_ne (by omega)]; exact g1
  · rw [List.getElem?_set_ne (by omega)]; exact g2
  · rw [List.getElem?_set_ne (by omega)]; exact g3
  · rw [List.getElem?_set_ne (by omega)]; exact g4
  · rw [List.getElem?_set_ne (by omega)]; exact g5
  · rw [List.getElem?_set_self (by omega), e]
  · rw [List.getElem?_set_ne (by omega)]; exact od i hi ho
theorem liv_dead {ps : List Q4} {l k e : Nat} (h : ps[k]? = some ⟨e, e, e, e⟩) (hd : ∀ r c, liv ps l e r c = false) (r c : Int) : liv ps (l + 1) (k + 2) r c = false := by
  rw [liv_at h]; simp only [hd]; rfl
/-- one round of empty's loop -/
theorem empty_round {L : Lg} {ri s : Nat} {S : SD} (h : AtS L ri s S) (G : Good S) (hz : S.ps.length < 16000000) (he : S.es.length < 1000000) (x : W) (y : Sl) :
    ∃ (S' : SD) (L' : Lg) (y' : Sl), while_Store_empty1 [.va (.ob s), .va x, y] L = some (.nx [.va (.ob s), .va x, y'] L') ∧ Stp ri s L S L' S' ∧ S'.es.length = S.es.length + 1 ∧ S'.ps.length ≤ S.ps.length + 1 := by
  obtain ⟨e, l, hes⟩ : ∃ (e : Nat) (l : List Nat), S.es = l ++ [e] := by
    rcases List.eq_nil_or_concat S.es with h | ⟨l, e, h⟩
    · have := G.e1; rw [h] at this; cases this
    · exact ⟨e, l, by simpa using h⟩
  have hl : S.es.length = l.length + 1 := by rw [hes]; simp
  obtain ⟨m1, m2, m3⟩ := G.em l.length e (by rw [hes, List.getElem?_append_right (Nat.le_refl _)]; simp)
  obtain ⟨S1, L1, n, ej, st, ee, pq, sq, ln⟩ := joined_ok h G (l := l.length) (a := e) (b := e) (c := e) (d := e) ⟨⟨m1, m2⟩, ⟨m1, m2⟩, ⟨m1, m2⟩, ⟨m1, m2⟩⟩ hz
  have lt := h.lt
  have dd : ∀ r c, liv S1.ps (l.length + 1) (n + 2) r c = false := liv_dead pq fun r c => by rw [Good.liv_le G st.le _ _ m1 m2]; exact m3 r c
  obtain ⟨G2, le2⟩ := emp_good (n := n + 2) st.gd (by rw [ee, hl]; exact sq) (by rw [ee, hl]; exact dd)
  have ex2 := emp_ext (n + 2) st.ex lt
  have g0 := h.st
  have g6 := h.em
  have k6 := st.ex.at_.em
  have ae : atI (intsN S.es) (-1) = some (.int (e : Int)) := by rw [hes, intsN_app]; exact atI_end _ _
  have il := intsN_len S1.es
  have z : S1.es.length < 16777216 := by rw [ee]; omega
  refine ⟨S1.emp (n + 2), _, .va (.int (e : Int)), ?_, ⟨ex2, G2, st.le.trans le2, st.fu⟩, ?_, ln⟩
  · rw [uwhile_Store_empty1]
    simp [g0, g6, fz_lst, ae, negW, ej, k6, il, z]
  · show (S1.es ++ [n + 2]).length = _
    rw [List.length_append, List.length_singleton, ee]
def empT : TF := asT (cOp (cmpI fun i j => decide (i ≤ j)) (cC lenW (cOf (cFld "Store" "empties" (cVar 0)))) (cVar 1))
theorem empty_loop {ri s l : Nat} : ∀ (m : Nat) {L : Lg} {S : SD}, AtS L ri s S → Good S → S.es.length + m = max S.es.length (l + 1) → S.ps.length + m < 16000000 → max S.es.length (l + 1) < 1000000 → ∀ y,
    ∃ (S' : SD) (L' : Lg) (y' : Sl), whN empT while_Store_empty1 (m + 1) [.va (.ob s), .va (.int (l : Int)), y] L = some (.nx [.va (.ob s), .va (.int (l : Int)), y'] L') ∧ Stp ri s L S L' S' ∧ S'.es.length = S.es.length + m ∧ S'.ps.length ≤ S.ps.length + m
  | 0, L, S, h, G, hm, hz, he, y => by
    have g0 := h.st
    have g6 := h.em
    have il := intsN_len S.es
    have c : ¬ S.es.length ≤ l := by omega
    refine ⟨S, L, y, ?_, Stp.refl h G, rfl, Nat.le_refl _⟩
    simp [whN, empT, g0, g6, fz_lst, lenW, il, c]
  | m + 1, L, S, h, G, hm, hz, he, y => by
    have g0 := h.st
    have g6 := h.em
    have il := intsN_len S.es
    have c : S.es.length ≤ l := by omega
    obtain ⟨S1, L1, y1, e1, st1, q1, p1⟩ := empty_round h G (by omega) (by omega) (.int (l : Int)) y
    obtain ⟨S2, L2, y2, e2, st2, q2, p2⟩ := empty_loop m (l := l) st1.ex.at_ st1.gd (by omega) (by omega) (by omega) y1
    refine ⟨S2, L2, y2, ?_, st1.trans st2, by omega, by omega⟩
    rw [whN]
    have t : empT [.va (.ob s), .va (.int (l : Int)), y] L = some (true, L) := by simp [empT, g0, g6, fz_lst, lenW, il, c]
    rw [t]
    simp only [e1, e2]
/-- empty -/
theorem empty_ok {L : Lg} {ri s : Nat} {S : SD} (h : AtS L ri s S) (G : Good S) (l : Nat) (hz : S.ps.length + (l + 1) < 16000000) (he : max S.es.length (l + 1) < 1000000) :
    ∃ (S' : SD) (L' : Lg) (n : Nat), d_Store_empty [.ob s, .int (l : Int)] L = some (.int (n : Int), L') ∧ Stp ri s L S L' S' ∧ Sq S' l n ∧ (∀ r c, liv S'.ps l n r c = false) ∧ S'.es.length = max S.es.length (l + 1) ∧ S'.ps.length + S.es.length ≤ S.ps.length + S'.es.length := by
  obtain ⟨S', L', y', e, st, q, p⟩ := empty_loop (ri := ri) (s := s) (l := l) (max S.es.length (l + 1) - S.es.length) h G (by omega) (by omega) he .un
  have e' := cWhile_of e
  have le : l < S'.es.length := by omega
  have gi : S'.es[l]? = some (S'.es.getD l 0) := get_of le
  obtain ⟨m1, m2, m3⟩ := st.gd.em l _ gi
  have g0 := st.ex.at_.st
  have g6 := st.ex.at_.em
  have ai := intsN_at gi
  refine ⟨S', L', S'.es.getD l 0, ?_, st, ⟨m1, m2⟩, m3, by omega, by omega⟩
  rw [ud_Store_empty]
  unfold empT at e'
  simp [ub_Store_empty, e', g0, g6, fz_lst, ai]

/-! collect_cells, cells -/
theorem set_at {L : Lg} {j : Nat} {o : Ob} (h : L[j]? = some o) : L.set j o = L := by
  apply List.ext_getElem?
  intro i
  by_cases e : j = i
  · subst e
    rw [List.getElem?_set_self (List.getElem?_eq_some_iff.mp h).1, h]
  · rw [List.getElem?_set_ne e]
def bx (cs : List Cell) : Ob := .box (.lst (cs.map cW))
theorem sh_one {n : Nat} (h : n ≤ 1000000) {i : Int} (e : i = (n : Int)) : shlW (.int 1) (.int i) = some (.int (2 ^ n)) := by
  subst e
  show (if 0 ≤ (n : Int) ∧ (n : Int) ≤ 1000000 ∧ (1 : Int).natAbs < 2 ^ 64 then some (W.int (1 * 2 ^ (n : Int).toNat)) else none) = _
  rw [if_pos ⟨by omega, by omega, by decide⟩, Int.one_mul]
  rfl
theorem collect_ok {ri s j : Nat} {S : SD} (G : Good S) (hj : j < s ∨ s + 7 ≤ j) : ∀ (n l i : Nat) (r c : Int) (L : Lg) (acc : List Cell), AtS L ri s S → L[j]? = some (bx acc) → Sq S l i → l < n → l ≤ 1000000 → acc.length + cnt S i ≤ 16000000 →
    dr_Store_collect_cells n [.ob s, .int (i : Int), .int r, .int c, .ob j] L = some (.non, L.set j (bx (acc ++ cel S.ps l i r c)))
  | 0, _, _, _, _, _, _, _, _, _, h, _, _ => absurd h (Nat.not_lt_zero _)
  | n + 1, l, i, r, c, L, acc, h, hb, q, hn, hm, ha => by
    have g0 := h.st
    have g1 := h.kp
    have g2 := h.lv
    have g3 := h.ct
    have ic : i < S.cs.length := by rw [G.hc, ← G.hl]; exact q.lt
    have ac : atI (intsN S.cs) (i : Int) = some (.int ((cnt S i : Nat) : Int)) := intsN_at (get_of ic)
    have al : atI (intsN S.ls) (i : Int) = some (.int ((lev S i : Nat) : Int)) := intsN_at (get_of q.lt)
    by_cases hz : cnt S i = 0
    · have e := G.len_cel l i q.lt q.lv r c
      rw [hz] at e
      have e := List.length_eq_zero_iff.mp e
      rw [e, List.append_nil, set_at hb, udr_Store_collect_cells]
      rw [hz] at ac
      generalize (i : Int) = iI at *
      simp [ub_Store_collect_cells, g0, g3, fz_lst, ac]
    · by_cases h1 : i = 1
      · subst h1
        have l0 : l = 0 := by rw [← q.lv, G.l1]
        subst l0
        rw [udr_Store_collect_cells]
        have z : acc.length < 16777216 := by omega
        have e : cel S.ps 0 1 r c = [(r, c)] := rfl
        rw [G.c1] at ac
        have a1 : atI (intsN S.cs) 1 = some (.int 1) := ac
        unfold bx at hb
        rw [e]
        simp [ub_Store_collect_cells, g0, g3, fz_lst, a1, c_ALIVE, Cv.w, hb, z, bx, cW]
      · rcases G.split q.lt with rfl | rfl | ⟨k, qq, rfl, e⟩
        · exact absurd G.c0 hz
        · exact absurd rfl h1
        · have lk := (G.le k qq e).2.2.2
          have ck := G.ct k qq e
          rw [show 2 + k = k + 2 by omega] at lk ck
          have lq := q.lv
          match l, lq with
          | 0, lq => omega
          | l + 1, lq =>
            obtain ⟨k', q', hk, e', ka, kb, kc, kd⟩ := G.part q.lt lq
            have hk : k' = k := by omega
            subst hk
            rw [e] at e'
            cases e'
            have lc := fun (m x : Nat) (hm : lev S x = m) (hx : x < S.ls.length) => G.len_cel m x hx hm
            have la := fun r c => lc l _ ka.2 ka.1 r c
            have lb := fun r c => lc l _ kb.2 kb.1 r c
            have lcc := fun r c => lc l _ kc.2 kc.1 r c
            have r1 := collect_ok G hj n l qq.a r c L acc h hb ⟨ka.1, ka.2⟩ (by omega) (by omega) (by omega)
            have jl : j < L.length := (List.getElem?_eq_some_iff.mp hb).1
            have up : ∀ (x : List Cell), AtS (L.set j (bx x)) ri s S ∧ (L.set j (bx x))[j]? = some (bx x) := fun x => ⟨h.setx j _ hj, List.getElem?_set_self jl⟩
            have r2 := collect_ok G hj n l qq.b r (c + 2 ^ l) _ _ (up (acc ++ cel S.ps l qq.a r c)).1 (up _).2 ⟨kb.1, kb.2⟩ (by omega) (by omega) (by rw [List.length_append, la]; omega)
            rw [List.set_set] at r2
            have r3 := collect_ok G hj n l qq.c (r + 2 ^ l) c _ _ (up (acc ++ cel S.ps l qq.a r c ++ cel S.ps l qq.b r (c + 2 ^ l))).1 (up _).2 ⟨kc.1, kc.2⟩ (by omega) (by omega) (by rw [List.length_append, List.length_append, la, lb]; omega)
            rw [List.set_set] at r3
            have r4 := collect_ok G hj n l qq.d (r + 2 ^ l) (c + 2 ^ l) _ _ (up (acc ++ cel S.ps l qq.a r c ++ cel S.ps l qq.b r (c + 2 ^ l) ++ cel S.ps l qq.c (r + 2 ^ l) c)).1 (up _).2 ⟨kd.1, kd.2⟩ (by omega) (by omega) (by rw [List.length_append, List.length_append, List.length_append, la, lb, lcc]; omega)
            rw [List.set_set] at r4
            have u1 := (up (acc ++ cel S.ps l qq.a r c)).1.st
            have u2 := (up (acc ++ cel S.ps l qq.a r c ++ cel S.ps l qq.b r (c + 2 ^ l))).1.st
            have u3 := (up (acc ++ cel S.ps l qq.a r c ++ cel S.ps l qq.b r (c + 2 ^ l) ++ cel S.ps l qq.c (r + 2 ^ l) c)).1.st
            have fin : acc ++ cel S.ps l qq.a r c ++ cel S.ps l qq.b r (c + 2 ^ l) ++ cel S.ps l qq.c (r + 2 ^ l) c ++ cel S.ps l qq.d (r + 2 ^ l) (c + 2 ^ l) = acc ++ cel S.ps (l + 1) (k' + 2) r c := by
              rw [cel_at e]; simp only [List.append_assoc]
            rw [fin] at r4
            have sh := sh_one (n := l) (by omega) (i := ((lev S (k' + 2) : Nat) : Int) - 1) (by omega)
            have kp : atI (kpW S) (((k' + 2 : Nat) : Int)) = some qq.W := by
              rw [show k' + 2 = 2 + k' by omega]; exact kp_at e
            have n1 : ¬ (((k' + 2 : Nat) : Int)) = 1 := by omega
            have n0 : ¬ ((cnt S (k' + 2) : Nat) : Int) = 0 := by omega
            clear fin up la lb lcc lc
            rw [udr_Store_collect_cells]
            generalize (((k' + 2 : Nat) : Int)) = iI at *
            generalize ((lev S (k' + 2) : Nat) : Int) = lI at *
            generalize ((cnt S (k' + 2) : Nat) : Int) = cI at *
            generalize bx (acc ++ cel S.ps (l + 1) (k' + 2) r c) = X4 at *
            generalize bx (acc ++ cel S.ps l qq.a r c ++ cel S.ps l qq.b r (c + 2 ^ l) ++ cel S.ps l qq.c (r + 2 ^ l) c) = X3 at *
            generalize bx (acc ++ cel S.ps l qq.a r c ++ cel S.ps l qq.b r (c + 2 ^ l)) = X2 at *
            generalize bx (acc ++ cel S.ps l qq.a r c) = X1 at *
            generalize (2 : Int) ^ l = H at *
            generalize dr_Store_collect_cells n = DF at *
            simp [ub_Store_collect_cells, g0, g1, g2, g3, fz_lst, ac, al, n0, n1, c_ALIVE, Cv.w, sh, kp, Q4.W, r1, r2, r3, r4, u1, u2, u3]

/-! cells and built -/
theorem cells_ok {L : Lg} {ri s : Nat} {S : SD} (h : AtS L ri s S) (G : Good S) {l i : Nat} (q : Sq S l i) (hl : l < 40) (hc : cnt S i < 4900) :
    d_Store_cells [.ob s, .int (i : Int)] L = some (cellsL (canon (cel S.ps l i 0 0)), L ++ [.dead]) := by
  have lt := h.lt
  have hb : (L ++ [bx []])[L.length]? = some (bx []) := by simp
  have e := collect_ok G (j := L.length) (ri := ri) (s := s) (by omega) 40 l i 0 0 (L ++ [bx []]) [] (h.app _) hb q hl (by omega) (by simp; omega)
  rw [← ud_Store_collect_cells, List.nil_append] at e
  have s2 : (L ++ [bx []]).set L.length (bx (cel S.ps l i 0 0)) = L ++ [bx (cel S.ps l i 0 0)] := by simp
  rw [s2] at e
  have g0 := (h.app [bx []]).st
  have pt := pattern_eqW (cel S.ps l i 0 0) (L ++ [.dead]) (by rw [G.len_cel l i q.lt q.lv]; exact hc)
  have b0 : bx [] = .box (.lst []) := rfl
  rw [b0] at e g0
  generalize cel S.ps l i 0 0 = C at *
  rw [ud_Store_cells]
  have pt' : d_pattern [W.lst (C.map cW)] (L ++ [.dead]) = some (cellsL (canon C), L ++ [.dead]) := pt
  simp [ub_Store_cells, g0, e, bx, fz_lst, pt']
def qix (H : Int) (x : Cell) : Nat := (if H ≤ x.1 then 2 else 0) + (if H ≤ x.2 then 1 else 0)
def qcl (H : Int) (x : Cell) : Cell := (if H ≤ x.1 then x.1 - H else x.1, if H ≤ x.2 then x.2 - H else x.2)
def qrt (H : Int) (k : Nat) (cs : List Cell) : List Cell := (cs.filter fun x => decide (qix H x = k)).map (qcl H)
theorem and_half {l : Nat} {a : Int} (h0 : 0 ≤ a) (h1 : a < 2 ^ (l + 1)) : Builtin.bitAnd a (2 ^ l - 1) = if (2 : Int) ^ l ≤ a then a - 2 ^ l else a := by
  have hp := two_pos l
  rw [two_succ] at h1
  obtain ⟨n, rfl⟩ := Int.eq_ofNat_of_zero_le h0
  have e2 : ((2 : Int) ^ l - 1) = ((2 ^ l - 1 : Nat) : Int) := by
    have := Nat.two_pow_pos l
    rw [Int.natCast_sub (by omega)]; simp
  have e3 : Builtin.bitAnd (n : Int) ((2 ^ l - 1 : Nat) : Int) = ((n &&& (2 ^ l - 1) : Nat) : Int) := by
    unfold Builtin.bitAnd
    simp
  rw [e2, e3, Nat.and_two_pow_sub_one_eq_mod]
  have e4 : ((2 : Int) ^ l) = ((2 ^ l : Nat) : Int) := by simp
  rw [e4] at h1 hp ⊢
  split
  · rw [Nat.mod_eq_sub_mod (by omega), Nat.mod_eq_of_lt (by omega)]; omega
  · rw [Nat.mod_eq_of_lt (by omega)]
theorem qcl_and {l : Nat} {x : Cell} (h : 0 ≤ x.1 ∧ x.1 < 2 ^ (l + 1) ∧ 0 ≤ x.2 ∧ x.2 < 2 ^ (l + 1)) : Builtin.bitAnd x.1 (2 ^ l - 1) = (qcl (2 ^ l) x).1 ∧ Builtin.bitAnd x.2 (2 ^ l - 1) = (qcl (2 ^ l) x).2 :=
  ⟨and_half h.1 h.2.1, and_half h.2.2.1 h.2.2.2⟩
def Inb (l : Nat) (cs : List Cell) : Prop := ∀ x ∈ cs, 0 ≤ x.1 ∧ x.1 < 2 ^ l ∧ 0 ≤ x.2 ∧ x.2 < 2 ^ l
theorem qix_lt (H : Int) (x : Cell) : qix H x = 0 ∨ qix H x = 1 ∨ qix H x = 2 ∨ qix H x = 3 := by unfold qix; split <;> split <;> omega
theorem qrt_in {l k : Nat} {cs : List Cell} (h : Inb (l + 1) cs) : Inb l (qrt (2 ^ l) k cs) := by
  intro x hx
  obtain ⟨y, hy, rfl⟩ := List.mem_map.mp hx
  have := h y (List.mem_filter.mp hy).1
  rw [two_succ] at this
  unfold qcl
  refine ⟨?_, ?_, ?_, ?_⟩ <;> simp only <;> split <;> omega
theorem mem_qrt {l k : Nat} {cs : List Cell} (h : Inb (l + 1) cs) (hk : k = 0 ∨ k = 1 ∨ k = 2 ∨ k = 3) (r c : Int) : (r, c) ∈ qrt (2 ^ l) k cs ↔ (0 ≤ r ∧ r < 2 ^ l ∧ 0 ≤ c ∧ c < 2 ^ l) ∧ ((if k = 2 ∨ k = 3 then r + 2 ^ l else r), (if k = 1 ∨ k = 3 then c + 2 ^ l else c)) ∈ cs := by
  have hp := two_pos l
  constructor
  · intro hx
    refine ⟨qrt_in h _ hx, ?_⟩
    obtain ⟨y, hy, e⟩ := List.mem_map.mp hx
    obtain ⟨hm, hq⟩ := List.mem_filter.mp hy
    have hq := of_decide_eq_true hq
    have hb := h y hm
    rw [two_succ] at hb
    have : y = ((if k = 2 ∨ k = 3 then r + 2 ^ l else r), (if k = 1 ∨ k = 3 then c + 2 ^ l else c)) := by
      obtain ⟨y1, y2⟩ := y
      simp only [qcl, Prod.mk.injEq] at e
      simp only [qix] at hq
      obtain ⟨e1, e2⟩ := e
      generalize (2 : Int) ^ l = H at *
      subst hq
      by_cases c1 : H ≤ y1 <;> by_cases c2 : H ≤ y2 <;> simp only [c1, c2, if_true, if_false] at e1 e2 <;> subst e1 <;> subst e2 <;> simp [c1, c2]
    rw [← this]; exact hm
  · rintro ⟨hb, hm⟩
    have hi := h _ hm
    rw [two_succ] at hi
    generalize (2 : Int) ^ l = H at *
    refine List.mem_map.mpr ⟨_, List.mem_filter.mpr ⟨hm, decide_eq_true ?_⟩, ?_⟩
    · unfold qix
      rcases hk with rfl | rfl | rfl | rfl
      · simp [show ¬ H ≤ r by omega, show ¬ H ≤ c by omega]
      · simp [show ¬ H ≤ r by omega, show H ≤ c + H by omega]
      · simp [show H ≤ r + H by omega, show ¬ H ≤ c by omega]
      · simp [show H ≤ r + H by omega, show H ≤ c + H by omega]
    · unfold qcl
      rcases hk with rfl | rfl | rfl | rfl
      · simp [show ¬ H ≤ r by omega, show ¬ H ≤ c by omega]
      · simp [show ¬ H ≤ r by omega, show H ≤ c + H by omega]
      · simp [show H ≤ r + H by omega, show ¬ H ≤ c by omega]
      · simp [show H ≤ r + H by omega, show H ≤ c + H by omega]
theorem qrt_sum (H : Int) : ∀ cs : List Cell, (qrt H 0 cs).length + (qrt H 1 cs).length + (qrt H 2 cs).length + (qrt H 3 cs).length = cs.length
  | [] => rfl
  | x :: r => by
    have ih := qrt_sum H r
    have key : ∀ k, (qrt H k (x :: r)).length = (qrt H k r).length + if qix H x = k then 1 else 0 := by
      intro k
      unfold qrt
      rw [List.filter_cons]
      by_cases e : qix H x = k
      · simp [e]
      · simp [e]
    rw [key, key, key, key, List.length_cons]
    rcases qix_lt H x with e | e | e | e <;> rw [e] <;> simp <;> omega
theorem qrt_cons (H : Int) (k : Nat) (x : Cell) (r : List Cell) : qrt H k (x :: r) = if qix H x = k then qcl H x :: qrt H k r else qrt H k r := by
  unfold qrt
  rw [List.filter_cons]
  by_cases e : qix H x = k <;> simp [e]
/-- four boxes behind a log -/
def B4 (L : Lg) (a b c d : List Cell) : Lg := L ++ [bx a, bx b, bx c, bx d]
theorem B4_0 (L : Lg) (a b c d : List Cell) : (B4 L a b c d)[L.length]? = some (bx a) := by simp [B4]
theorem B4_1 (L : Lg) (a b c d : List Cell) : (B4 L a b c d)[L.length + 1]? = some (bx b) := by simp [B4]
theorem B4_2 (L : Lg) (a b c d : List Cell) : (B4 L a b c d)[L.length + 2]? = some (bx c) := by simp [B4]
theorem B4_3 (L : Lg) (a b c d : List Cell) : (B4 L a b c d)[L.length + 3]? = some (bx d) := by simp [B4]
theorem B4_s0 (L : Lg) (a b c d e : List Cell) : (B4 L a b c d).set L.length (bx e) = B4 L e b c d := by simp [B4]
theorem B4_s1 (L : Lg) (a b c d e : List Cell) : (B4 L a b c d).set (L.length + 1) (bx e) = B4 L a e c d := by simp [B4]
theorem B4_s2 (L : Lg) (a b c d e : List Cell) : (B4 L a b c d).set (L.length + 2) (bx e) = B4 L a b e d := by simp [B4]
theorem B4_s3 (L : Lg) (a b c d e : List Cell) : (B4 L a b c d).set (L.length + 3) (bx e) = B4 L a b c e := by simp [B4]
theorem B4_len (L : Lg) (a b c d : List Cell) : (B4 L a b c d).length = L.length + 4 := by simp [B4]
def fourW (p : Nat) : W := .lst [.ob p, .ob (p + 1), .ob (p + 2), .ob (p + 3)]
theorem four_0 (p : Nat) : atI [W.ob p, .ob (p + 1), .ob (p + 2), .ob (p + 3)] 0 = some (.ob p) := rfl
theorem four_1 (p : Nat) : atI [W.ob p, .ob (p + 1), .ob (p + 2), .ob (p + 3)] 1 = some (.ob (p + 1)) := rfl
theorem four_2 (p : Nat) : atI [W.ob p, .ob (p + 1), .ob (p + 2), .ob (p + 3)] 2 = some (.ob (p + 2)) := rfl
theorem four_3 (p : Nat) : atI [W.ob p, .ob (p + 1), .ob (p + 2), .ob (p + 3)] 3 = some (.ob (p + 3)) := rfl
theorem built_loop (DF : DF) (L : Lg) (w0 w1 w2 : W) (l : Nat) (x8 x9 : Sl) : ∀ (ds a b c d : List Cell) (x5 x6 x7 : Sl), Inb (l + 1) ds → a.length + b.length + c.length + d.length + ds.length ≤ 16000000 →
    ∃ y5 y6 y7, forLoop (gTupW 2 (gsC (gN 5) (gsC (gN 6) gsN))) (for_Store_built1 DF) (ds.map cW) [.va w0, .va w1, .va w2, .va (.int (2 ^ l)), .va (fourW L.length), x5, x6, x7, x8, x9] (B4 L a b c d) =
      some (.nx [.va w0, .va w1, .va w2, .va (.int (2 ^ l)), .va (fourW L.length), y5, y6, y7, x8, x9] (B4 L (a ++ qrt (2 ^ l) 0 ds) (b ++ qrt (2 ^ l) 1 ds) (c ++ qrt (2 ^ l) 2 ds) (d ++ qrt (2 ^ l) 3 ds)))
  | [], a, b, c, d, x5, x6, x7, _, _ => ⟨x5, x6, x7, by simp [forLoop, qrt]⟩
  | x :: ds, a, b, c, d, x5, x6, x7, h, hn => by
    have hx := h x (List.mem_cons_self ..)
    have ht : Inb (l + 1) ds := fun y hy => h y (List.mem_cons_of_mem _ hy)
    obtain ⟨q1, q2⟩ := qcl_and hx
    rw [List.length_cons] at hn
    have step : ∃ y7, for_Store_built1 DF [.va w0, .va w1, .va w2, .va (.int (2 ^ l)), .va (fourW L.length), .va (.int x.1), .va (.int x.2), x7, x8, x9] (B4 L a b c d) =
        some (.nx [.va w0, .va w1, .va w2, .va (.int (2 ^ l)), .va (fourW L.length), .va (.int x.1), .va (.int x.2), y7, x8, x9] (B4 L (a ++ qrt (2 ^ l) 0 [x]) (b ++ qrt (2 ^ l) 1 [x]) (c ++ qrt (2 ^ l) 2 [x]) (d ++ qrt (2 ^ l) 3 [x]))) := by
      simp only [qrt_cons, show ∀ k, qrt (2 ^ l) k [] = [] from fun _ => rfl]
      refine ⟨.va (.int (qix (2 ^ l) x : Nat)), ?_⟩
      have b0 := B4_0 L a b c d
      have b1 := B4_1 L a b c d
      have b2 := B4_2 L a b c d
      have b3 := B4_3 L a b c d
      have z0 : a.length < 16777216 := by omega
      have z1 : b.length < 16777216 := by omega
      have z2 : c.length < 16777216 := by omega
      have z3 : d.length < 16777216 := by omega
      have s0 := B4_s0 L a b c d (a ++ [qcl (2 ^ l) x])
      have s1 := B4_s1 L a b c d (b ++ [qcl (2 ^ l) x])
      have s2 := B4_s2 L a b c d (c ++ [qcl (2 ^ l) x])
      have s3 := B4_s3 L a b c d (d ++ [qcl (2 ^ l) x])
      have f0 := four_0 L.length
      have f1 := four_1 L.length
      have f2 := four_2 L.length
      have f3 := four_3 L.length
      unfold bx at b0 b1 b2 b3 s0 s1 s2 s3
      simp only [List.map_append, List.map_cons, List.map_nil, cW] at s0 s1 s2 s3
      rw [ufor_Store_built1]
      unfold qix
      generalize qcl (2 ^ l) x = Y at *
      generalize B4 L a b c d = BB at *
      generalize (2 : Int) ^ l = H at *
      by_cases c1 : H ≤ x.1 <;> by_cases c2 : H ≤ x.2
      · simp [c1, c2, fourW, f3, b3, z3, bandW, q1, q2, s3]
      · simp [c1, c2, fourW, f2, b2, z2, bandW, q1, q2, s2]
      · simp [c1, c2, fourW, f1, b1, z1, bandW, q1, q2, s1]
      · simp [c1, c2, fourW, f0, b0, z0, bandW, q1, q2, s0]
    obtain ⟨y7, st⟩ := step
    have sm := qrt_sum (2 ^ l) [x]
    obtain ⟨u5, u6, u7, e⟩ := built_loop DF L w0 w1 w2 l x8 x9 ds (a ++ qrt (2 ^ l) 0 [x]) (b ++ qrt (2 ^ l) 1 [x]) (c ++ qrt (2 ^ l) 2 [x]) (d ++ qrt (2 ^ l) 3 [x]) (.va (.int x.1)) (.va (.int x.2)) y7 ht (by
      simp only [List.length_append, List.length_singleton] at sm ⊢
      omega)
    refine ⟨u5, u6, u7, ?_⟩
    rw [List.map_cons, for_nx (g := gTupW 2 (gsC (gN 5) (gsC (gN 6) gsN))) (by simp [cW]) st, e]
    have : ∀ k (a : List Cell), a ++ qrt (2 ^ l) k [x] ++ qrt (2 ^ l) k ds = a ++ qrt (2 ^ l) k (x :: ds) := fun k a => by
      rw [List.append_assoc]
      unfold qrt
      rw [← List.map_append, ← List.filter_append, List.singleton_append]
    simp only [this]

/-! built -/
structure Bt (ri s : Nat) (L : Lg) (S : SD) (l : Nat) (cs : List Cell) (n : Nat) (L' : Lg) (S' : SD) : Prop where
  st : Stp ri s L S L' S'
  sq : Sq S' l n
  lv : ∀ r c, liv S'.ps l n r c = decide ((r, c) ∈ cs)
  pl : S'.ps.length + S.es.length ≤ S.ps.length + cs.length * l + S'.es.length
  el : S'.es.length ≤ max S.es.length (l + 1)
theorem part_step (DF : DF) {M : Lg} {s j : Nat} {ri : Nat} {S : SD} {q : List Cell} {l lI : Int} (h : AtS M ri s S) (hb : M[j]? = some (bx q)) (hl : lI = l) (w1 : W) (x3 x4 x5 x6 x7 x8 : Sl) :
    cMeth "Store" "built" DF (cVar 0) (cCons (cFzE (cVar 9)) (cCons (cOp subW (cVar 2) (cK (.int 1))) cNil)) [.va (.ob s), .va w1, .va (.int (lI + 1)), x3, x4, x5, x6, x7, x8, .va (.ob j)] M = DF [.ob s, cellsL q, .int l] (M.set j .dead) := by
  subst hl
  have g0 := h.st
  simp [g0, hb, bx, fz_lst]
theorem four_parts (te : EF) (ρ : Ro) (hρ : 9 < ρ.length) {p : Nat} {M0 M1 M2 M3 M4 : Lg} {n0 n1 n2 n3 : W}
    (e0 : te (ρ.set 9 (.va (.ob p))) M0 = some (n0, M1)) (e1 : te (ρ.set 9 (.va (.ob (p + 1)))) M1 = some (n1, M2)) (e2 : te (ρ.set 9 (.va (.ob (p + 2)))) M2 = some (n2, M3)) (e3 : te (ρ.set 9 (.va (.ob (p + 3)))) M3 = some (n3, M4)) :
    lcLoop (gN 9) cYes te ρ [.ob p, .ob (p + 1), .ob (p + 2), .ob (p + 3)] M0 = some ([n0, n1, n2, n3], M4) := by
  simp [lcLoop, gN, hρ, cYes, e0, e1, e2, e3]
theorem ext_dead {L : Lg} {ri s j : Nat} {S : SD} (h : AtS L ri s S) (hj : s + 7 ≤ j) : AtS (L.set j .dead) ri s S := h.setx j _ (Or.inr hj)
theorem mulR (a l : Nat) : a * (l + 1) = a * l + a := Nat.mul_succ a l
theorem built_ok {ri s : Nat} : ∀ (n l : Nat) (cs : List Cell) (L : Lg) (S : SD), AtS L ri s S → Good S → Inb l cs → l < n → S.ps.length + cs.length * l + max S.es.length (l + 1) < 15000000 + S.es.length → max S.es.length (l + 1) < 1000000 → cs.length ≤ 16000000 →
    ∃ (S' : SD) (L' : Lg) (k : Nat), dr_Store_built n [.ob s, cellsL cs, .int (l : Int)] L = some (.int (k : Int), L') ∧ Bt ri s L S l cs k L' S'
  | 0, _, _, _, _, _, _, _, h, _, _, _ => absurd h (Nat.not_lt_zero _)
  | n + 1, l, [], L, S, h, G, hi, hn, hz, he, hc => by
    obtain ⟨S', L', k, e, st, sq, dd, p1, p2⟩ := empty_ok h G l (by simp at hz; omega) he
    have g0 := h.st
    refine ⟨S', L', k, ?_, st, sq, fun r c => by rw [dd]; simp, by simp; exact p2, by omega⟩
    rw [udr_Store_built]
    generalize dr_Store_built n = DF at *
    simp [ub_Store_built, cellsL, truW, g0, e]
  | n + 1, 0, x :: cs, L, S, h, G, hi, hn, hz, he, hc => by
    have hl := G.hl
    have all0 : ∀ y ∈ x :: cs, y = (0, 0) := fun y hy => by
      have := hi y hy
      simp only [Int.pow_zero] at this
      exact Prod.ext (by simp only; omega) (by simp only; omega)
    refine ⟨S, L, 1, ?_, Stp.refl h G, ⟨by omega, G.l1⟩, fun r c => ?_, by omega, by omega⟩
    · rw [udr_Store_built]
      generalize dr_Store_built n = DF at *
      simp [ub_Store_built, cellsL, truW, c_ALIVE, Cv.w]
    · show decide (1 = 1 ∧ r = 0 ∧ c = 0) = _
      apply decide_eq_decide.mpr
      constructor
      · rintro ⟨_, rfl, rfl⟩
        rw [all0 x (List.mem_cons_self ..)]
        exact List.mem_cons_self ..
      · intro hm
        have := all0 _ hm
        simp only [Prod.mk.injEq] at this
        exact ⟨rfl, this⟩
  | n + 1, l + 1, x :: cs', L, S, h, G, hi, hn, hz, he, hc => by
    generalize hcs : x :: cs' = cs at *
    have ne : 1 ≤ cs.length := by rw [← hcs, List.length_cons]; omega
    have tru : truW (cellsL cs) = some true := by subst hcs; rfl
    clear hcs
    have lt := h.lt
    have hp := two_pos l
    -- the four boxes
    have lenL := B4_len L [] [] [] []
    obtain ⟨y5, y6, y7, el⟩ := built_loop (dr_Store_built n) L (.ob s) (cellsL cs) (.int ((l : Int) + 1)) l .un .un cs [] [] [] [] .un .un .un hi (by simpa using hc)
    simp only [List.nil_append] at el
    generalize hq0 : qrt (2 ^ l) 0 cs = q0 at *
    generalize hq1 : qrt (2 ^ l) 1 cs = q1 at *
    generalize hq2 : qrt (2 ^ l) 2 cs = q2 at *
    generalize hq3 : qrt (2 ^ l) 3 cs = q3 at *
    have sum := qrt_sum (2 ^ l) cs
    have i0 : Inb l q0 := hq0 ▸ qrt_in hi
    have i1 : Inb l q1 := hq1 ▸ qrt_in hi
    have i2 : Inb l q2 := hq2 ▸ qrt_in hi
    have i3 : Inb l q3 := hq3 ▸ qrt_in hi
    rw [hq0, hq1, hq2, hq3] at sum
    have sl : q0.length * l + q1.length * l + q2.length * l + q3.length * l = cs.length * l := by rw [← sum]; simp only [Nat.add_mul]
    rw [mulR] at hz
    have lB : (B4 L q0 q1 q2 q3).length = L.length + 4 := B4_len ..
    have b0 : (B4 L q0 q1 q2 q3)[L.length]? = some (bx q0) := B4_0 ..
    have b1 : (B4 L q0 q1 q2 q3)[L.length + 1]? = some (bx q1) := B4_1 ..
    have b2 : (B4 L q0 q1 q2 q3)[L.length + 2]? = some (bx q2) := B4_2 ..
    have b3 : (B4 L q0 q1 q2 q3)[L.length + 3]? = some (bx q3) := B4_3 ..
    have hB : AtS (B4 L q0 q1 q2 q3) ri s S := h.app _
    have oB : ∀ i, i < L.length → (B4 L q0 q1 q2 q3)[i]? = L[i]? := fun i hi => List.getElem?_append_left hi
    generalize hM0 : B4 L q0 q1 q2 q3 = M0 at *
    -- first
    have hd0 := ext_dead (j := L.length) hB (by omega)
    obtain ⟨S1, M1, k0, e0, ⟨st1, sq0, lv0, pl0, el0⟩⟩ := built_ok n l q0 _ S hd0 G i0 (by omega) (by omega) (by omega) (by omega)
    have o1 : ∀ i, i < L.length + 4 → i ≠ L.length → (i ≤ s ∨ s + 7 ≤ i) → M1[i]? = M0[i]? := fun i h1 h2 h3 => by
      rw [st1.ex.old i (by rw [List.length_set]; omega) h3, List.getElem?_set_ne (by omega)]
    have lM1 := st1.ex.len
    rw [List.length_set] at lM1
    have b1' : M1[L.length + 1]? = some (bx q1) := (o1 _ (by omega) (by omega) (by omega)).trans b1
    -- second
    have hd1 := ext_dead (j := L.length + 1) st1.ex.at_ (by omega)
    obtain ⟨S2, M2, k1, e1, ⟨st2, sq1, lv1, pl1, el1⟩⟩ := built_ok n l q1 _ S1 hd1 st1.gd i1 (by omega) (by omega) (by omega) (by omega)
    have o2 : ∀ i, i < L.length + 4 → i ≠ L.length + 1 → (i ≤ s ∨ s + 7 ≤ i) → M2[i]? = M1[i]? := fun i h1 h2 h3 => by
      rw [st2.ex.old i (by rw [List.length_set]; omega) h3, List.getElem?_set_ne (by omega)]
    have lM2 := st2.ex.len
    rw [List.length_set] at lM2
    have b2' : M2[L.length + 2]? = some (bx q2) := (o2 _ (by omega) (by omega) (by omega)).trans ((o1 _ (by omega) (by omega) (by omega)).trans b2)
    -- third
    have hd2 := ext_dead (j := L.length + 2) st2.ex.at_ (by omega)
    obtain ⟨S3, M3, k2, e2, ⟨st3, sq2, lv2, pl2, el2⟩⟩ := built_ok n l q2 _ S2 hd2 st2.gd i2 (by omega) (by omega) (by omega) (by omega)
    have o3 : ∀ i, i < L.length + 4 → i ≠ L.length + 2 → (i ≤ s ∨ s + 7 ≤ i) → M3[i]? = M2[i]? := fun i h1 h2 h3 => by
      rw [st3.ex.old i (by rw [List.length_set]; omega) h3, List.getElem?_set_ne (by omega)]
    have lM3 := st3.ex.len
    rw [List.length_set] at lM3
    have b3' : M3[L.length + 3]? = some (bx q3) := (o3 _ (by omega) (by omega) (by omega)).trans ((o2 _ (by omega) (by omega) (by omega)).trans ((o1 _ (by omega) (by omega) (by omega)).trans b3))
    -- fourth
    have hd3 := ext_dead (j := L.length + 3) st3.ex.at_ (by omega)
    obtain ⟨S4, M4, k3, e3, ⟨st4, sq3, lv3, pl3, el3⟩⟩ := built_ok n l q3 _ S3 hd3 st3.gd i3 (by omega) (by omega) (by omega) (by omega)
    have o4 : ∀ i, i < L.length + 4 → i ≠ L.length + 3 → (i ≤ s ∨ s + 7 ≤ i) → M4[i]? = M3[i]? := fun i h1 h2 h3 => by
      rw [st4.ex.old i (by rw [List.length_set]; omega) h3, List.getElem?_set_ne (by omega)]
    have lM4 := st4.ex.len
    rw [List.length_set] at lM4
    -- joined
    have le24 := st3.le.trans st4.le
    have le14 := st2.le.trans le24
    have kids : Kids S4 l ⟨k0, k1, k2, k3⟩ := ⟨sq0.le le14, sq1.le le24, sq2.le st4.le, sq3⟩
    obtain ⟨S5, M5, k, e5, st5, es5, pq, sq5, pl5⟩ := joined_ok st4.ex.at_ st4.gd kids (by omega)
    have le45 := st5.le
    have lM5 := st5.ex.len
    have lva : ∀ r c, liv S5.ps l k0 r c = decide ((r, c) ∈ q0) := fun r c => by rw [Good.liv_le st1.gd (le14.trans le45) l k0 sq0.lt sq0.lv, lv0]
    have lvb : ∀ r c, liv S5.ps l k1 r c = decide ((r, c) ∈ q1) := fun r c => by rw [Good.liv_le st2.gd (le24.trans le45) l k1 sq1.lt sq1.lv, lv1]
    have lvc : ∀ r c, liv S5.ps l k2 r c = decide ((r, c) ∈ q2) := fun r c => by rw [Good.liv_le st3.gd (st4.le.trans le45) l k2 sq2.lt sq2.lv, lv2]
    have lvd : ∀ r c, liv S5.ps l k3 r c = decide ((r, c) ∈ q3) := fun r c => by rw [Good.liv_le st4.gd le45 l k3 sq3.lt sq3.lv, lv3]
    refine ⟨S5, M5, k + 2, ?_, ⟨⟨st5.ex.at_, ?_, fun i hi ho => ?_⟩, st5.gd, st1.le.trans (le14.trans le45), ?_⟩, sq5, fun r c => ?_, ?_, ?_⟩
    · have ps0 := part_step (dr_Store_built n) (s := s) (j := L.length) (q := q0) (l := (l : Int)) (lI := (l : Int)) hB b0 rfl (cellsL cs) (.va (.int (2 ^ l))) (.va (fourW L.length)) y5 y6 y7 .un
      have ps1 := part_step (dr_Store_built n) (s := s) (j := L.length + 1) (q := q1) (l := (l : Int)) (lI := (l : Int)) st1.ex.at_ b1' rfl (cellsL cs) (.va (.int (2 ^ l))) (.va (fourW L.length)) y5 y6 y7 .un
      have ps2 := part_step (dr_Store_built n) (s := s) (j := L.length + 2) (q := q2) (l := (l : Int)) (lI := (l : Int)) st2.ex.at_ b2' rfl (cellsL cs) (.va (.int (2 ^ l))) (.va (fourW L.length)) y5 y6 y7 .un
      have ps3 := part_step (dr_Store_built n) (s := s) (j := L.length + 3) (q := q3) (l := (l : Int)) (lI := (l : Int)) st3.ex.at_ b3' rfl (cellsL cs) (.va (.int (2 ^ l))) (.va (fourW L.length)) y5 y6 y7 .un
      rw [e0] at ps0
      rw [e1] at ps1
      rw [e2] at ps2
      rw [e3] at ps3
      have four := four_parts (cMeth "Store" "built" (dr_Store_built n) (cVar 0) (cCons (cFzE (cVar 9)) (cCons (cOp subW (cVar 2) (cK (.int 1))) cNil))) [.va (.ob s), .va (cellsL cs), .va (.int ((l : Int) + 1)), .va (.int (2 ^ l)), .va (fourW L.length), y5, y6, y7, .un, .un] (by simp) ps0 ps1 ps2 ps3
      have sh := sh_one (n := l) (by omega) (i := (l : Int)) rfl
      have g4 := st4.ex.at_.st
      have B0 : L ++ [Ob.box (M.lst []), Ob.box (M.lst []), Ob.box (M.lst []), Ob.box (M.lst [])] = B4 L [] [] [] [] := rfl
      have sL : sLst (cVar 1) [.va (.ob s), .va (cellsL cs), .va (.int ((l : Int) + 1)), .va (.int (2 ^ l)), .va (fourW L.length), .un, .un, .un, .un, .un] (B4 L [] [] [] []) = some (cs.map cW, B4 L [] [] [] []) := rfl
      have a0 : ∀ a b c d : W, atI [a, b, c, d] 2 = some c := fun _ _ _ _ => rfl
      have a1 : ∀ a b c d : W, atI [a, b, c, d] 3 = some d := fun _ _ _ _ => rfl
      have hct : ∀ (ρ : Ro) (L : Lg), cont ρ L (.val (cellsL cs)) = some (cellsL cs) := fun _ _ => rfl
      have nz : ¬ ((l : Int) + 1 = 0) := by omega
      have kk : ((l + 1 : Nat) : Int) = (l : Int) + 1 := by omega
      rw [kk, udr_Store_built]
      rw [← hM0] at *
      clear e0 e1 e2 e3 ps0 ps1 ps2 ps3
      generalize dr_Store_built n = DF at *
      have cL : cellsL cs = .lst (cs.map cW) := rfl
      have xne : cs.map cW ≠ [] := fun z => by have := congrArg List.length z; simp at this; rw [this] at ne; simp at ne
      rw [cL] at tru hct el sL four
      rw [cL]
      generalize (2 : Int) ^ l = H at *
      generalize cs.map cW = XS at *
      unfold fourW at el four
      simp [ub_Store_built, tru, hct, nz, sh, B0, sL, el, wipeR, four, g4, a0, a1, atI_one, e5]
    · omega
    · rw [st5.ex.old i (by omega) ho, o4 i (by omega) (by omega) ho, o3 i (by omega) (by omega) ho, o2 i (by omega) (by omega) ho, o1 i (by omega) (by omega) ho]
      exact oB i hi
    · rw [st5.fu, st4.fu, st3.fu, st2.fu, st1.fu]
    · rw [liv_at pq, lva, lvb, lvc, lvd]
      have m0 := mem_qrt (k := 0) hi (by omega) r c
      have m1 := mem_qrt (k := 1) hi (by omega) r (c - 2 ^ l)
      have m2 := mem_qrt (k := 2) hi (by omega) (r - 2 ^ l) c
      have m3 := mem_qrt (k := 3) hi (by omega) (r - 2 ^ l) (c - 2 ^ l)
      rw [hq0] at m0
      rw [hq1] at m1
      rw [hq2] at m2
      rw [hq3] at m3
      simp only [Int.sub_add_cancel] at m0 m1 m2 m3
      have rng : (r, c) ∈ cs → 0 ≤ r ∧ r < 2 ^ (l + 1) ∧ 0 ≤ c ∧ c < 2 ^ (l + 1) := fun hm => hi _ hm
      rw [two_succ] at rng
      rw [← Bool.decide_or, ← Bool.decide_or, ← Bool.decide_or]
      apply decide_eq_decide.mpr
      rw [m0, m1, m2, m3]
      simp
      generalize (2 : Int) ^ l = H at *
      constructor
      · rintro (((⟨_, h⟩ | ⟨_, h⟩) | ⟨_, h⟩) | ⟨_, h⟩) <;> exact h
      · intro hm
        have := rng hm
        simp only [hm, and_true]
        omega
    · rw [es5, mulR]; omega
    · rw [es5]; omega

/-! what is known of a square -/
structure Kn (S : SD) (l n : Nat) (cs : List Cell) : Prop where
  sq : Sq S l n
  can : Can cs
  lv : ∀ r c, liv S.ps l n r c = decide ((r, c) ∈ cs)
theorem Kn.le {A B : SD} {l n : Nat} {cs : List Cell} (k : Kn A l n cs) (G : Good A) (h : Le A B) : Kn B l n cs := ⟨k.sq.le h, k.can, fun r c => by rw [Good.liv_le G h l n k.sq.lt k.sq.lv, k.lv]⟩
theorem Kn.mem {S : SD} {l n : Nat} {cs : List Cell} (k : Kn S l n cs) (x : Cell) : x ∈ cs ↔ x ∈ cel S.ps l n 0 0 := by
  rw [mem_cel, Int.sub_zero, Int.sub_zero, k.lv, decide_eq_true_eq]
theorem Kn.canon {S : SD} {l n : Nat} {cs : List Cell} (k : Kn S l n cs) : canon (cel S.ps l n 0 0) = cs := can_eq k.can k.mem
theorem Kn.cnt {S : SD} {l n : Nat} {cs : List Cell} (k : Kn S l n cs) (G : Good S) : cnt S n = cs.length := by
  rw [← G.len_cel l n k.sq.lt k.sq.lv 0 0]
  exact ((List.perm_ext_iff_of_nodup (nodup_cel ..) k.can.1).mpr fun x => (k.mem x).symm).length_eq
theorem Kn.inb {S : SD} {l n : Nat} {cs : List Cell} (k : Kn S l n cs) : Inb l cs := fun x hx => liv_in S.ps l n _ _ (by rw [k.lv]; exact decide_eq_true hx)
theorem Kn.uniq {S : SD} {l n m : Nat} {cs : List Cell} (k : Kn S l n cs) (j : Kn S l m cs) (G : Good S) : n = m := G.uniq l n m k.sq.lt k.sq.lv j.sq.lt j.sq.lv fun r c => by rw [k.lv, j.lv]
theorem Kn.same {S : SD} {l n : Nat} {cs ds : List Cell} (k : Kn S l n cs) (j : Kn S l n ds) : cs = ds := can_ext k.can j.can fun x => by
  have a := k.lv x.1 x.2
  rw [j.lv] at a
  have a := decide_eq_decide.mp a
  exact a.symm
theorem Kn.cells {L : Lg} {ri s : Nat} {S : SD} {l n : Nat} {cs : List Cell} (k : Kn S l n cs) (h : AtS L ri s S) (G : Good S) (hl : l < 40) (hc : cs.length < 4900) : d_Store_cells [.ob s, .int (n : Int)] L = some (cellsL cs, L ++ [.dead]) := by
  rw [cells_ok h G k.sq hl (by rw [k.cnt G]; exact hc), k.canon]
theorem Kn.level {L : Lg} {ri s : Nat} {S : SD} {l n : Nat} {cs : List Cell} (k : Kn S l n cs) (h : AtS L ri s S) : d_Store_level [.ob s, .int (n : Int)] L = some (.int (l : Nat), L) := by
  rw [level_run h k.sq.lt]
  exact congrArg (fun z : Nat => some (W.int (z : Int), L)) k.sq.lv
theorem Kn.count {L : Lg} {ri s : Nat} {S : SD} {l n : Nat} {cs : List Cell} (k : Kn S l n cs) (h : AtS L ri s S) (G : Good S) : d_Store_count [.ob s, .int (n : Int)] L = some (.int (cs.length : Nat), L) := by
  rw [count_run h (by rw [G.hc, ← G.hl]; exact k.sq.lt)]
  exact congrArg (fun z : Nat => some (W.int (z : Int), L)) (k.cnt G)
theorem idx_of {ps : List Q4} (hn : ps.Nodup) {k : Nat} {q : Q4} (h : ps[k]? = some q) : idx ps q = some k := by
  cases e : idx ps q with
  | none => exact absurd (List.mem_of_getElem? h) (idx_none e)
  | some j => rw [nodup_at hn (idx_some e) h]
/-- a quarter of a list of cells -/
def qd (H t f : Int) (cs : List Cell) : List Cell := (cs.filter fun x => decide ((t ≤ x.1 ∧ x.1 < t + H) ∧ f ≤ x.2 ∧ x.2 < f + H)).map fun x => (x.1 - t, x.2 - f)
theorem can_filter {l : List Cell} (h : Can l) (p : Cell → Bool) : Can (l.filter p) := ⟨h.1.filter p, h.2.filter p⟩
theorem can_qd {H t f : Int} {cs : List Cell} (h : Can cs) : Can (qd H t f cs) := by
  have := can_tr (-t) (-f) (can_filter h fun x => decide ((t ≤ x.1 ∧ x.1 < t + H) ∧ f ≤ x.2 ∧ x.2 < f + H))
  have e : ((tr (-t) (-f) : Cell → Cell)) = fun x => (x.1 - t, x.2 - f) := by
    funext x
    simp only [tr]
    exact Prod.ext (by simp only; omega) (by simp only; omega)
  rw [e] at this
  exact this
theorem mem_qd {H t f : Int} {cs : List Cell} {r c : Int} : (r, c) ∈ qd H t f cs ↔ (0 ≤ r ∧ r < H ∧ 0 ≤ c ∧ c < H) ∧ (r + t, c + f) ∈ cs := by
  unfold qd
  rw [List.mem_map]
  constructor
  · rintro ⟨x, hx, e⟩
    obtain ⟨hm, hd⟩ := List.mem_filter.mp hx
    have hd := of_decide_eq_true hd
    simp only [Prod.mk.injEq] at e
    obtain ⟨e1, e2⟩ := e
    refine ⟨by omega, ?_⟩
    have : (r + t, c + f) = x := Prod.ext (by simp only; omega) (by simp only; omega)
    rw [this]; exact hm
  · rintro ⟨h, hm⟩
    refine ⟨_, List.mem_filter.mpr ⟨hm, decide_eq_true ?_⟩, ?_⟩
    · simp only; omega
    · simp only [Prod.mk.injEq]; omega
theorem qd_len {H t f : Int} {cs : List Cell} : (qd H t f cs).length ≤ cs.length := by unfold qd; rw [List.length_map]; exact List.length_filter_le _ _
/-- the parts of a square that is known are known -/
theorem Kn.parts {S : SD} {l n : Nat} {cs : List Cell} (k : Kn S (l + 1) n cs) (G : Good S) : ∃ (m : Nat) (q : Q4), n = m + 2 ∧ S.ps[m]? = some q ∧ Kn S l q.a (qd (2 ^ l) 0 0 cs) ∧ Kn S l q.b (qd (2 ^ l) 0 (2 ^ l) cs) ∧ Kn S l q.c (qd (2 ^ l) (2 ^ l) 0 cs) ∧ Kn S l q.d (qd (2 ^ l) (2 ^ l) (2 ^ l) cs) := by
  obtain ⟨m, q, rfl, e, ka, kb, kc, kd⟩ := G.part k.sq.lt k.sq.lv
  have hp := two_pos l
  have lv := k.lv
  refine ⟨m, q, rfl, e, ⟨⟨ka.1, ka.2⟩, can_qd k.can, fun r c => ?_⟩, ⟨⟨kb.1, kb.2⟩, can_qd k.can, fun r c => ?_⟩, ⟨⟨kc.1, kc.2⟩, can_qd k.can, fun r c => ?_⟩, ⟨⟨kd.1, kd.2⟩, can_qd k.can, fun r c => ?_⟩⟩
  all_goals by_cases h : 0 ≤ r ∧ r < 2 ^ l ∧ 0 ≤ c ∧ c < 2 ^ l
  · have := lv r c
    rw [liv_at e, liv_a h.2.1 h.2.2.2] at this
    rw [this]; apply decide_eq_decide.mpr; rw [mem_qd, Int.add_zero, Int.add_zero]; exact ⟨fun z => ⟨h, z⟩, fun z => z.2⟩
  · rw [liv_out h]; exact (decide_eq_false (fun z => h (mem_qd.mp z).1)).symm
  · have := lv r (c + 2 ^ l)
    rw [liv_at e, liv_b h.2.1 (by omega), Int.add_sub_cancel] at this
    rw [this]; apply decide_eq_decide.mpr; rw [mem_qd, Int.add_zero]; exact ⟨fun z => ⟨h, z⟩, fun z => z.2⟩
  · rw [liv_out h]; exact (decide_eq_false (fun z => h (mem_qd.mp z).1)).symm
  · have := lv (r + 2 ^ l) c
    rw [liv_at e, liv_c (by omega) h.2.2.2, Int.add_sub_cancel] at this
    rw [this]; apply decide_eq_decide.mpr; rw [mem_qd, Int.add_zero]; exact ⟨fun z => ⟨h, z⟩, fun z => z.2⟩
  · rw [liv_out h]; exact (decide_eq_false (fun z => h (mem_qd.mp z).1)).symm
  · have := lv (r + 2 ^ l) (c + 2 ^ l)
    rw [liv_at e, liv_d (by omega) (by omega), Int.add_sub_cancel, Int.add_sub_cancel] at this
    rw [this]; apply decide_eq_decide.mpr; rw [mem_qd]; exact ⟨fun z => ⟨h, z⟩, fun z => z.2⟩
  · rw [liv_out h]; exact (decide_eq_false (fun z => h (mem_qd.mp z).1)).symm
/-- joining the parts of a square gives the square -/
theorem rejoin {L : Lg} {ri s : Nat} {S : SD} (h : AtS L ri s S) (G : Good S) {m : Nat} {q : Q4} (e : S.ps[m]? = some q) : d_Store_joined [.ob s, .int (q.a : Int), .int (q.b : Int), .int (q.c : Int), .int (q.d : Int)] L = some (.int ((m + 2 : Nat) : Int), L) := by
  rw [joined_old h q (idx_of G.nd e), Nat.add_comm 2 m]

@[simp] theorem ne_bs : (Str.ofString "births" = Str.ofString "survival") = False := eq_false (by decide)
@[simp] theorem ne_sb : (Str.ofString "survival" = Str.ofString "births") = False := eq_false (by decide)
@[simp] theorem nb_bs : (Str.ofString "births" == Str.ofString "survival") = false := by decide
@[simp] theorem nb_sb : (Str.ofString "survival" == Str.ofString "births") = false := by decide
@[simp] theorem nb_lb : (Str.ofString "lives" == Str.ofString "births") = false := by decide
@[simp] theorem nb_ls : (Str.ofString "lives" == Str.ofString "survival") = false := by decide
def ruleOb (b s : List Int) : Ob := .ins "Rule" [("births", .tup (b.map W.int)), ("survival", .tup (s.map W.int))]
/-- a list of ints, frozen or in a box -/
def CL (L : Lg) (w : W) (ns : List Int) : Prop := w = .lst (ns.map W.int) ∨ ∃ j, w = .ob j ∧ L[j]? = some (.box (.lst (ns.map W.int)))
theorem CL.cont {L : Lg} {w : W} {ns : List Int} (h : CL L w ns) (ρ : Ro) : cont ρ L (.val w) = some (.lst (ns.map W.int)) := by
  rcases h with rfl | ⟨j, rfl, e⟩
  · rfl
  · rw [cont_ob, e]; rfl
theorem CL.mono {L : Lg} {w : W} {ns : List Int} (h : CL L w ns) (o : Ob) : CL (L ++ [o]) w ns := by
  rcases h with rfl | ⟨j, rfl, e⟩
  · exact .inl rfl
  · exact .inr ⟨j, rfl, by rw [List.getElem?_append_left (List.getElem?_eq_some_iff.mp e).1]; exact e⟩
theorem init_eq {L : Lg} {w1 w2 : W} {ns ms : List Int} (h1 : CL L w1 ns) (h2 : CL L w2 ms) (l1 : ns.length < 64) (l2 : ms.length < 64) :
    d_Rule_init [.ob L.length, w1, w2] (L ++ [.ins "Rule" []]) = some (.non, L ++ [ruleOb (setI ns) (setI ms)]) := by
  have c1 := (h1.mono (.ins "Rule" [])).cont
  have c2 := (h2.mono (.ins "Rule" [("births", .tup ((setI ns).map W.int))])).cont
  simp [ud_Rule_init, ub_Rule_init, c1, intsW_map, l1, putW, c2, l2, ruleOb, List.set_append_right]

theorem ruleOb_def (b s : List Int) : ruleOb b s = .ins "Rule" [("births", .tup (b.map W.int)), ("survival", .tup (s.map W.int))] := id rfl

/-! loops over boxes, a new store -/
theorem forB_ind {α : Type} (f : α → W) {j : Nat} {g : GF} {body : SF} {xs : List α} (P : Nat → Ro → Lg → Prop)
    (hb : ∀ i ρ L, P i ρ L → L[j]? = some (.box (.lst (xs.map f))))
    (step : ∀ i x ρ L, xs[i]? = some x → P i ρ L → ∃ ρ1 ρ2 L2, g (f x) ρ = some ρ1 ∧ body ρ1 L = some (.nx ρ2 L2) ∧ P (i + 1) ρ2 L2) :
    ∀ (n i : Nat) (ρ : Ro) (L : Lg), n + i = xs.length + 1 → i ≤ xs.length → P i ρ L → ∃ ρ' L', forBN j g body n i ρ L = some (.nx ρ' L') ∧ P xs.length ρ' L'
  | 0, i, ρ, L, h, hi, _ => by omega
  | n + 1, i, ρ, L, h, hi, p => by
    have e := hb i ρ L p
    rw [forBN, e]
    simp only []
    cases hx : xs[i]? with
    | none =>
      have : xs.length ≤ i := List.getElem?_eq_none_iff.mp hx
      have hi' : i = xs.length := by omega
      subst hi'
      refine ⟨ρ, L, ?_, p⟩
      rw [List.getElem?_map, hx]; rfl
    | some x =>
      obtain ⟨ρ1, ρ2, L2, e1, e2, p2⟩ := step i x ρ L hx p
      have lt := (List.getElem?_eq_some_iff.mp hx).1
      obtain ⟨ρ', L', e3, p3⟩ := forB_ind f P hb step n (i + 1) ρ2 L2 (by omega) lt p2
      refine ⟨ρ', L', ?_, p3⟩
      rw [List.getElem?_map, hx]
      simp only [Option.map_some, e1, e2, e3]
theorem forB_run {α : Type} (f : α → W) {i j : Nat} {g : GF} {body : SF} {xs : List α} (P : Nat → Ro → Lg → Prop)
    (hb : ∀ i ρ L, P i ρ L → L[j]? = some (.box (.lst (xs.map f))))
    (step : ∀ i x ρ L, xs[i]? = some x → P i ρ L → ∃ ρ1 ρ2 L2, g (f x) ρ = some ρ1 ∧ body ρ1 L = some (.nx ρ2 L2) ∧ P (i + 1) ρ2 L2)
    {ρ : Ro} {L : Lg} (hi : ρ[i]? = some (.va (.ob j))) (p : P 0 ρ L) : ∃ ρ' L', cForB i g body ρ L = some (.nx ρ' L') ∧ P xs.length ρ' L' := by
  obtain ⟨ρ', L', e, q⟩ := forB_ind f P hb step (xs.length + 1) 0 ρ L (by omega) (by omega) p
  refine ⟨ρ', L', ?_, q⟩
  rw [e_cForB, hi]
  simp only [hb 0 ρ L p, List.length_map, e]
/-- loops with an invariant -/
theorem for_ind {α : Type} (f : α → W) {g : GF} {body : SF} (P : Nat → Ro → Lg → Prop) : ∀ (xs : List α) (k : Nat) (ρ : Ro) (L : Lg),
    (∀ i x ρ L, xs[i]? = some x → P (k + i) ρ L → ∃ ρ1 ρ2 L2, g (f x) ρ = some ρ1 ∧ body ρ1 L = some (.nx ρ2 L2) ∧ P (k + i + 1) ρ2 L2) → P k ρ L → ∃ ρ' L', forLoop g body (xs.map f) ρ L = some (.nx ρ' L') ∧ P (k + xs.length) ρ' L'
  | [], k, ρ, L, _, p => ⟨ρ, L, rfl, p⟩
  | x :: xs, k, ρ, L, step, p => by
    obtain ⟨ρ1, ρ2, L2, e1, e2, p2⟩ := step 0 x ρ L rfl p
    obtain ⟨ρ', L', e3, p3⟩ := for_ind f P xs (k + 1) ρ2 L2 (fun i x ρ L hx hp => by
      have := step (i + 1) x ρ L hx (by rw [show k + (i + 1) = k + 1 + i by omega]; exact hp)
      rw [show k + (i + 1) + 1 = k + 1 + i + 1 by omega] at this
      exact this) p2
    refine ⟨ρ', L', ?_, by rw [List.length_cons, show k + (xs.length + 1) = k + 1 + xs.length by omega]; exact p3⟩
    rw [List.map_cons, for_nx e1 e2, e3]
def S0 : SD := ⟨[], [0, 0], [0, 1], [], [0]⟩
theorem good0 : Good S0 := by
  refine ⟨rfl, rfl, rfl, rfl, rfl, rfl, fun k q h => ?_, fun k q h => ?_, fun k q h => ?_, List.nodup_nil, by decide, fun k e h => ?_⟩
  · simp [S0] at h
  · simp [S0] at h
  · simp [S0] at h
  · match k, h with
    | 0, h =>
      simp [S0] at h
      subst h
      exact ⟨by decide, rfl, fun r c => by simp [liv]⟩
    | k + 1, h => simp [S0] at h
def stoL (ri s : Nat) : Lg := [.ins "Store" (stoF ri s), .box (.lst [.tup [], .tup []]), .box (.lst [.int 0, .int 0]), .box (.lst [.int 0, .int 1]), .box (.dT []), .box (.dT []), .box (.lst [.int 0])]
theorem at0 (L : Lg) (ri : Nat) : AtS (L ++ stoL ri L.length) ri L.length S0 := by
  refine ⟨?_, ?_, ?_, ?_, ?_, ?_, ?_⟩ <;> simp [stoL, S0, kpW, intsN, numsW]
theorem nf_01 : (Str.ofString "rule" = Str.ofString "kept_parts") = False := eq_false (by decide)
theorem nf_02 : (Str.ofString "rule" = Str.ofString "levels") = False := eq_false (by decide)
theorem nf_03 : (Str.ofString "rule" = Str.ofString "counts") = False := eq_false (by decide)
theorem nf_04 : (Str.ofString "rule" = Str.ofString "numbers") = False := eq_false (by decide)
theorem nf_05 : (Str.ofString "rule" = Str.ofString "futures") = False := eq_false (by decide)
theorem nf_06 : (Str.ofString "rule" = Str.ofString "empties") = False := eq_false (by decide)
theorem nf_12 : (Str.ofString "kept_parts" = Str.ofString "levels") = False := eq_false (by decide)
theorem nf_13 : (Str.ofString "kept_parts" = Str.ofString "counts") = False := eq_false (by decide)
theorem nf_14 : (Str.ofString "kept_parts" = Str.ofString "numbers") = False := eq_false (by decide)
theorem nf_15 : (Str.ofString "kept_parts" = Str.ofString "futures") = False := eq_false (by decide)
theorem nf_16 : (Str.ofString "kept_parts" = Str.ofString "empties") = False := eq_false (by decide)
theorem nf_23 : (Str.ofString "levels" = Str.ofString "counts") = False := eq_false (by decide)
theorem nf_24 : (Str.ofString "levels" = Str.ofString "numbers") = False := eq_false (by decide)
theorem nf_25 : (Str.ofString "levels" = Str.ofString "futures") = False := eq_false (by decide)
theorem nf_26 : (Str.ofString "levels" = Str.ofString "empties") = False := eq_false (by decide)
theorem nf_34 : (Str.ofString "counts" = Str.ofString "numbers") = False := eq_false (by decide)
theorem nf_35 : (Str.ofString "counts" = Str.ofString "futures") = False := eq_false (by decide)
theorem nf_36 : (Str.ofString "counts" = Str.ofString "empties") = False := eq_false (by decide)
theorem nf_45 : (Str.ofString "numbers" = Str.ofString "futures") = False := eq_false (by decide)
theorem nf_46 : (Str.ofString "numbers" = Str.ofString "empties") = False := eq_false (by decide)
theorem nf_56 : (Str.ofString "futures" = Str.ofString "empties") = False := eq_false (by decide)
theorem store_init (L : Lg) (ri : Nat) : d_Store_init [.ob L.length, .ob ri] (L ++ [.ins "Store" []]) = some (.non, L ++ stoL ri L.length) := by
  rw [ud_Store_init]
  simp [ub_Store_init, c_DEAD, Cv.w, putW, List.set_append_right, nf_01, nf_02, nf_03, nf_04, nf_05, nf_06, nf_12, nf_13, nf_14, nf_15, nf_16, nf_23, nf_24, nf_25, nf_26, nf_34, nf_35, nf_36, nf_45, nf_46, nf_56]
  rfl

/-! law_right -/
theorem right_lc (H t f : Int) (cs : List Cell) (x0 x1 x2 x3 x4 x6 x7 x10 : Sl) (L : Lg) :
    lcLoop (gTupW 2 (gsC (gN 11) (gsC (gN 12) gsN))) (cAnd (cChain (cVar 8) (cVar 11) (cOp addW (cVar 8) (cVar 5))) (cChain (cVar 9) (cVar 12) (cOp addW (cVar 9) (cVar 5)))) (cTup (cCons (cOp subW (cVar 11) (cVar 8)) (cCons (cOp subW (cVar 12) (cVar 9)) cNil))) [x0, x1, x2, x3, x4, .va (.int H), x6, x7, .va (.int t), .va (.int f), x10, .un, .un] (cs.map cW) L = some ((qd H t f cs).map cW, L) := by
  have := lc_filter (g := gTupW 2 (gsC (gN 11) (gsC (gN 12) gsN))) (tt := cAnd (cChain (cVar 8) (cVar 11) (cOp addW (cVar 8) (cVar 5))) (cChain (cVar 9) (cVar 12) (cOp addW (cVar 9) (cVar 5)))) (te := cTup (cCons (cOp subW (cVar 11) (cVar 8)) (cCons (cOp subW (cVar 12) (cVar 9)) cNil))) (ρ := [x0, x1, x2, x3, x4, .va (.int H), x6, x7, .va (.int t), .va (.int f), x10, .un, .un]) (L := L) cW (fun x : Cell => decide ((t ≤ x.1 ∧ x.1 < t + H) ∧ f ≤ x.2 ∧ x.2 < f + H)) (fun x : Cell => cW (x.1 - t, x.2 - f)) (xs := cs) (fun x _ => by
    refine ⟨[x0, x1, x2, x3, x4, .va (.int H), x6, x7, .va (.int t), .va (.int f), x10, .va (.int x.1), .va (.int x.2)], ?_, ?_, ?_⟩
    · simp [cW]
    · by_cases a1 : t ≤ x.1 <;> by_cases a2 : x.1 < t + H <;> by_cases a3 : f ≤ x.2 <;> by_cases a4 : x.2 < f + H <;> simp [a1, a2, a3, a4]
    · intro _
      simp [cW])
  rw [this]
  unfold qd
  rw [List.map_map]
  rfl
theorem right_round {L : Lg} {ri s : Nat} {S : SD} (h : AtS L ri s S) (G : Good S) {l p : Nat} {H t f : Int} {cs : List Cell} {k : Int} {w1 w4 lI : W} {ws : List W} {x8 x9 x10 : Sl} (kn : Kn S l p (qd H t f cs)) (hl : l < 40) (hc : cs.length < 4900) (hll : lI = .int ((l : Int) + 1))
    (hk : ixW (.tup ws) (.int k) = some (.int (p : Int))) (k0 : 0 ≤ k) (k4 : k < 4) (ht : H * (k / 2) = t) (hf : H * (k % 2) = f) :
    for_law_right1 [.va (.ob s), .va w1, .va (cellsL cs), .va lI, .va w4, .va (.int H), .va (.tup ws), .va (.int k), x8, x9, x10, .un, .un] L = some (.nx [.va (.ob s), .va w1, .va (cellsL cs), .va lI, .va w4, .va (.int H), .va (.tup ws), .va (.int k), .va (.int t), .va (.int f), .va (cellsL (qd H t f cs)), .un, .un] (L ++ [.dead])) := by
  subst hll
  have lv := kn.level h
  have ce := kn.cells h G hl (Nat.lt_of_le_of_lt qd_len hc)
  have g0 := h.st
  have lc := right_lc H t f cs (.va (.ob s)) (.va w1) (.va (cellsL cs)) (.va (.int ((l : Int) + 1))) (.va w4) (.va (.tup ws)) (.va (.int k)) x10 L
  have ql : ((qd H t f cs).map cW).length ≤ 16777216 := by rw [List.length_map]; exact Nat.le_trans qd_len (by omega)
  have ne := neW_cells (qd H t f cs) (qd H t f cs)
  rw [decide_eq_true rfl] at ne
  generalize qd H t f cs = Q at *
  have cq : cellsL Q = .lst (Q.map cW) := rfl
  rw [cq] at ne ce
  rw [cq]
  generalize Q.map cW = QW at *
  rw [ufor_law_right1]
  have cq2 : cellsL cs = .lst (cs.map cW) := rfl
  rw [cq2] at lc ⊢
  generalize cs.map cW = XS at *
  have m1 : -18446744073709551616 < k / 2 := by omega
  have m2 : k / 2 < 18446744073709551616 := by omega
  have m3 : -18446744073709551616 < k % 2 := by omega
  have m4 : k % 2 < 18446744073709551616 := by omega
  simp [ht, hf, m1, m2, m3, m4, wipeR, lc, ql, hk, g0, lv, ce, ne, fz_lst]
/-- law_right answers True -/
theorem right_true {L : Lg} {ri s : Nat} {S : SD} (h : AtS L ri s S) (G : Good S) {l n : Nat} {cs : List Cell} (k : Kn S l n cs) (hl : l < 40) (hc : cs.length < 4900) :
    ∃ L', d_law_right [.ob s, .int (n : Int), cellsL cs, .int (l : Int)] L = some (.bl true, L') ∧ Ext L ri s S L' := by
  have g0 := h.st
  have lv := k.level h
  have ct := k.count h G
  have ce := k.cells h G hl hc
  have it := integer_int (n : Int) L
  have n0 : ¬ ((n : Int) < 0) := by omega
  have ll : ∀ (ρ : Ro), cont ρ L (.val (cellsL cs)) = some (cellsL cs) := fun _ => rfl
  have len : lenW (cellsL cs) = some (.int (cs.length : Nat)) := by show some (W.int ((cs.map cW).length : Nat)) = _; rw [List.length_map]
  have lc := law_cells_eq cs (L ++ [.dead])
  rw [decide_eq_true (sortC_self k.can.2).symm] at lc
  have ne := neW_cells cs cs
  rw [decide_eq_true rfl] at ne
  have h1 := h.app [.dead]
  cases l with
  | zero =>
    have e0 : (n : Int) = (cs.length : Nat) := by
      have := k.cnt G
      rcases G.flat k.sq.lt k.sq.lv with rfl | rfl
      · rw [G.c0] at this; omega
      · rw [G.c1] at this; omega
    refine ⟨L ++ [.dead], ?_, Ext.app h _⟩
    rw [ud_law_right]
    have lm : lenW (cellsL cs) = some (.int (n : Int)) := by rw [len, e0]
    have ct' : d_Store_count [.ob s, .int (n : Int)] L = some (.int (n : Int), L) := by rw [ct, e0]
    have ll2 : ∀ (ρ : Ro), cont ρ (L ++ [.dead]) (.val (cellsL cs)) = some (cellsL cs) := fun _ => rfl
    generalize (n : Int) = nI at *
    generalize cellsL cs = CW at *
    simp [ub_law_right, it, n0, g0, lv, ct', ll, ll2, lm, ce, lc, ne]
  | succ l =>
    obtain ⟨m, q, rfl, e, ka, kb, kc, kd⟩ := k.parts G
    have pr := parts_run h1 e
    rw [Nat.add_comm 2 m] at pr
    have lv' : d_Store_level [.ob s, .int ((m + 2 : Nat) : Int)] L = some (.int ((l : Int) + 1), L) := by rw [lv]; rfl
    have sh := sh_one (n := l) (by omega) (i := (l : Int)) rfl
    have kk : ((l + 1 : Nat) : Int) = (l : Int) + 1 := rfl
    have nz : ¬ ((l : Int) + 1 = 0) := by omega
    have h2 := h1.app [.dead]
    have h3 := h2.app [.dead]
    have h4 := h3.app [.dead]
    have h5 := h4.app [.dead]
    have r0 := fun x8 x9 x10 => right_round (w1 := .int ((m + 2 : Nat) : Int)) (w4 := cellsL cs) (lI := .int ((l : Int) + 1)) (k := 0) (ws := [.int (q.a : Int), .int (q.b : Int), .int (q.c : Int), .int (q.d : Int)]) (x8 := x8) (x9 := x9) (x10 := x10) (t := 0) (f := 0) (H := 2 ^ l) h1 G ka (by omega) hc rfl rfl (by omega) (by omega) (by simp) (by simp)
    have r1 := fun x8 x9 x10 => right_round (w1 := .int ((m + 2 : Nat) : Int)) (w4 := cellsL cs) (lI := .int ((l : Int) + 1)) (k := 1) (ws := [.int (q.a : Int), .int (q.b : Int), .int (q.c : Int), .int (q.d : Int)]) (x8 := x8) (x9 := x9) (x10 := x10) (t := 0) (f := 2 ^ l) (H := 2 ^ l) h2 G kb (by omega) hc rfl rfl (by omega) (by omega) (by simp) (by simp)
    have r2 := fun x8 x9 x10 => right_round (w1 := .int ((m + 2 : Nat) : Int)) (w4 := cellsL cs) (lI := .int ((l : Int) + 1)) (k := 2) (ws := [.int (q.a : Int), .int (q.b : Int), .int (q.c : Int), .int (q.d : Int)]) (x8 := x8) (x9 := x9) (x10 := x10) (t := 2 ^ l) (f := 0) (H := 2 ^ l) h3 G kc (by omega) hc rfl rfl (by omega) (by omega) (by simp) (by simp)
    have r3 := fun x8 x9 x10 => right_round (w1 := .int ((m + 2 : Nat) : Int)) (w4 := cellsL cs) (lI := .int ((l : Int) + 1)) (k := 3) (ws := [.int (q.a : Int), .int (q.b : Int), .int (q.c : Int), .int (q.d : Int)]) (x8 := x8) (x9 := x9) (x10 := x10) (t := 2 ^ l) (f := 2 ^ l) (H := 2 ^ l) h4 G kd (by omega) hc rfl rfl (by omega) (by omega) (by simp) (by simp)
    have rj := rejoin h5 G e
    have g5 := h5.st
    have g1 := h1.st
    have tl : isiW "tuple" [.tup [.int (q.a : Int), .int (q.b : Int), .int (q.c : Int), .int (q.d : Int)], .ty "tuple"] = some (.bl true) := by simp only [isiW, tyName, if_pos]; rfl
    refine ⟨L ++ [.dead] ++ [.dead] ++ [.dead] ++ [.dead] ++ [.dead], ?_, ?_⟩
    · rw [kk] at *
      rw [ud_law_right]
      have a2 : ∀ a b c d : W, atI [a, b, c, d] 2 = some c := fun _ _ _ _ => rfl
      have a3 : ∀ a b c d : W, atI [a, b, c, d] 3 = some d := fun _ _ _ _ => rfl
      have fr : ∀ ρ1 : Ro, ρ1 = [.va (.ob s), .va (.int ((m + 2 : Nat) : Int)), .va (cellsL cs), .va (.int ((l : Int) + 1)), .va (cellsL cs), .va (.int (2 ^ l)), .va (.tup [.int (q.a : Int), .int (q.b : Int), .int (q.c : Int), .int (q.d : Int)]), .un, .un, .un, .un, .un, .un] →
          forLoop (gN 7) for_law_right1 [.int 0, .int 1, .int 2, .int 3] ρ1 (L ++ [.dead]) = some (.nx [.va (.ob s), .va (.int ((m + 2 : Nat) : Int)), .va (cellsL cs), .va (.int ((l : Int) + 1)), .va (cellsL cs), .va (.int (2 ^ l)), .va (.tup [.int (q.a : Int), .int (q.b : Int), .int (q.c : Int), .int (q.d : Int)]), .va (.int 3), .va (.int (2 ^ l)), .va (.int (2 ^ l)), .va (cellsL (qd (2 ^ l) (2 ^ l) (2 ^ l) cs)), .un, .un] (L ++ [.dead] ++ [.dead] ++ [.dead] ++ [.dead] ++ [.dead])) := by
        rintro ρ1 rfl
        rw [for_nx (by simp; exact ⟨rfl, rfl, rfl⟩) (r0 _ _ _), for_nx (by simp; exact ⟨rfl, rfl, rfl⟩) (r1 _ _ _), for_nx (by simp; exact ⟨rfl, rfl, rfl⟩) (r2 _ _ _), for_nx (by simp; exact ⟨rfl, rfl, rfl⟩) (r3 _ _ _)]
        rfl
      have fr := fr _ rfl
      have rg : rangeW 0 4 = [.int 0, .int 1, .int 2, .int 3] := rfl
      have ln4 : ∀ a b c d : W, lenW (.tup [a, b, c, d]) = some (.int 4) := fun _ _ _ _ => rfl
      have ll2 : ∀ (ρ : Ro) (L : Lg), cont ρ L (.val (cellsL cs)) = some (cellsL cs) := fun _ _ => rfl
      clear r0 r1 r2 r3
      generalize L ++ [.dead] ++ [.dead] ++ [.dead] ++ [.dead] ++ [.dead] = L5 at *
      generalize L ++ [.dead] = L1 at *
      generalize ((m + 2 : Nat) : Int) = nI at *
      generalize (2 : Int) ^ l = H at *
      generalize cellsL (qd H H H cs) = QW at *
      generalize cellsL cs = CW at *
      simp [ub_law_right, it, n0, g0, g1, lv', ct, ll, ll2, len, ce, lc, ne, nz, sh, pr, Q4.W, tl, ln4, rg, fr, g5, atI_one, a2, a3, rj]
    · have x := Ext.app h ([.dead] ++ [.dead] ++ [.dead] ++ [.dead] ++ [.dead])
      simpa only [List.append_assoc] using x

/-! the law -/
abbrev Kd := Nat × List Cell × Nat
def kdW (d : Kd) : W := .tup [.int (d.1 : Int), cellsL d.2.1, .int (d.2.2 : Int)]
structure Inv (ri s kb : Nat) (kn : List Kd) (j : Nat) (S : SD) (L : Lg) : Prop where
  at_ : AtS L ri s S
  gd : Good S
  bx : L[kb]? = some (.box (.lst (kn.map kdW)))
  kns : ∀ d ∈ kn, Kn S d.2.2 d.1 d.2.1 ∧ d.2.1.length ≤ 20 ∧ d.2.2 ≤ 5
  pl : S.ps.length ≤ 200 * j + S.es.length
  el : S.es.length ≤ 6
  kl : kn.length = j
theorem Inv.step {ri s kb : Nat} {kn : List Kd} {j : Nat} {S S' : SD} {L L' : Lg} (v : Inv ri s kb kn j S L) (hk : s + 7 ≤ kb) (st : Stp ri s L S L' S') (pl : S'.ps.length ≤ 200 * j + S'.es.length) (el : S'.es.length ≤ 6) : Inv ri s kb kn j S' L' :=
  ⟨st.ex.at_, st.gd, by rw [st.ex.old kb (List.getElem?_eq_some_iff.mp v.bx).1 (Or.inr hk)]; exact v.bx, fun d hd => ⟨(v.kns d hd).1.le v.gd st.le, (v.kns d hd).2⟩, pl, el, v.kl⟩
theorem kd_at (xs : List Kd) {i : Nat} {d : Kd} (h : xs[i]? = some d) : atI (xs.map kdW) (i : Int) = some (kdW d) := by
  refine atI_nat ?_
  rw [List.getElem?_map, h]; rfl
theorem at3_1 (a b c : W) : atI [a, b, c] 1 = some b := rfl
theorem at3_2 (a b c : W) : atI [a, b, c] 2 = some c := rfl
theorem at3_0 (a b c : W) : atI [a, b, c] 0 = some a := rfl
/-- the first four statements choose level and cells -/
theorem choose {ri s kb : Nat} {kn : List Kd} {j : Nat} {S : SD} {L : Lg} (v : Inv ri s kb kn j S L) (ns : List Int) (w1 w2 : Sl) (k : Nat) (x6 x7 x8 x9 x10 x11 x12 : Sl) (REST : SF) :
    ∃ (x : Int) (cs : List Cell) (l : Nat), cSeq (cSet 6 (cN absW (cCons (cCall d_law_cell (cCons (cVar 0) (cCons (cOp addW (cK (.int 2)) (cVar 5)) cNil))) cNil))) (cSeq (cSet 7 (cOp modW (cVar 6) (cK (.int 6)))) (cSeq (cSet 8 (cCall d_law_some (cCons (cOp fdivW (cVar 6) (cK (.int 18))) (cCons (cOp modW (cOp fdivW (cVar 6) (cK (.int 6))) (cK (.int 21))) (cCons (cOp shlW (cK (.int 1)) (cVar 7)) (cCons (cOp shlW (cK (.int 1)) (cVar 7)) cNil)))))) (cSeq (cIfS (cAnd (asT (cOp eqW (cOp modW (cOp fdivW (cVar 6) (cK (.int 126))) (cK (.int 3))) (cK (.int 1)))) (asT (cOp (cmpI fun i j => decide (j < i)) (cC lenW (cNm 4)) (cK (.int 0))))) (cSeq (cSet 8 (cFz (listW (cOf (cIx ixW (cOf (cIx ixW (cNm 4) (cOp modW (cOp fdivW (cVar 6) (cK (.int 378))) (cC lenW (cNm 4))))) (cK (.int 1))))))) (cSet 7 (cIx ixW (cOf (cIx ixW (cNm 4) (cOp modW (cOp fdivW (cVar 6) (cK (.int 378))) (cC lenW (cNm 4))))) (cK (.int 2))))) cNx) REST)))
      [.va (.scr ns), w1, w2, .va (.ob s), .va (.ob kb), .va (.int (k : Int)), x6, x7, x8, x9, x10, x11, x12] L =
      REST [.va (.scr ns), w1, w2, .va (.ob s), .va (.ob kb), .va (.int (k : Int)), .va (.int x), .va (.int (l : Int)), .va (cellsL cs), x9, x10, x11, x12] L ∧ Can cs ∧ cs.length ≤ 20 ∧ l ≤ 5 ∧ Inb l cs := by
  have c0 := cell_eq ns (2 + k) L
  obtain ⟨x, hx⟩ : ∃ x : Int, x = if ns.getD (2 + k) 0 < 0 then -(ns.getD (2 + k) 0) else ns.getD (2 + k) 0 := ⟨_, rfl⟩
  have x0 : 0 ≤ x := by rw [hx]; split <;> omega
  obtain ⟨l, hl⟩ : ∃ l : Nat, (l : Int) = x % 6 := ⟨(x % 6).toNat, by omega⟩
  obtain ⟨c, hc⟩ : ∃ c : Nat, (c : Int) = x / 6 % 21 := ⟨(x / 6 % 21).toNat, by omega⟩
  have l5 : l ≤ 5 := by omega
  have c20 : c ≤ 20 := by omega
  have p1 : (0 : Int) < 2 ^ l := two_pos l
  have p2 : (2 : Int) ^ l ≤ 32 := by
    have : l = 0 ∨ l = 1 ∨ l = 2 ∨ l = 3 ∨ l = 4 ∨ l = 5 := by omega
    rcases this with rfl | rfl | rfl | rfl | rfl | rfl <;> decide
  obtain ⟨ds, e1, e2, e3, e4⟩ := some_eqR (x / 18) c (2 ^ l) (2 ^ l) L p1 (by omega) p1 (by omega) (by omega)
  have sh := sh_one (n := l) (by omega) (i := (l : Int)) rfl
  have kk : ((2 + k : Nat) : Int) = 2 + (k : Int) := by omega
  rw [kk] at c0
  generalize ns.getD (2 + k) 0 = v0 at *
  have inb : Inb l ds := fun q hq => e4 q hq
  have bxk := v.bx
  rw [seq_nx (ρ1 := [.va (.scr ns), w1, w2, .va (.ob s), .va (.ob kb), .va (.int (k : Int)), .va (.int x), x7, x8, x9, x10, x11, x12]) (L1 := L) (by simp [c0, ← hx])]
  rw [seq_nx (ρ1 := [.va (.scr ns), w1, w2, .va (.ob s), .va (.ob kb), .va (.int (k : Int)), .va (.int x), .va (.int (l : Int)), x8, x9, x10, x11, x12]) (L1 := L) (by simp [← hl])]
  rw [seq_nx (ρ1 := [.va (.scr ns), w1, w2, .va (.ob s), .va (.ob kb), .va (.int (k : Int)), .va (.int x), .va (.int (l : Int)), .va (cellsL ds), x9, x10, x11, x12]) (L1 := L) (by simp [← hc, sh, e1])]
  by_cases t1 : x / 126 % 3 = 1
  · by_cases t2 : 0 < kn.length
    · obtain ⟨i, hi⟩ : ∃ i : Nat, (i : Int) = x / 378 % (kn.length : Nat) := ⟨(x / 378 % (kn.length : Nat)).toNat, by
        have := Int.emod_nonneg (x / 378) (b := (kn.length : Nat)) (by omega); omega⟩
      have il : i < kn.length := by
        have := Int.emod_lt_of_pos (x / 378) (b := (kn.length : Nat)) (by omega); omega
      have gi : kn[i]? = some kn[i] := List.getElem?_eq_getElem il
      obtain ⟨kd, k20, k5⟩ := v.kns kn[i] (List.getElem_mem il)
      have ai := kd_at kn gi
      refine ⟨x, kn[i].2.1, kn[i].2.2, ?_, kd.can, k20, k5, kd.inb⟩
      generalize kn[i] = D at *
      have nz : ¬ kn.length = 0 := by omega
      have ll := List.length_map (as := kn) kdW
      have cl : cellsL D.2.1 = .lst (D.2.1.map cW) := rfl
      have dl : (D.2.1.map cW).length ≤ 16777216 := by rw [List.length_map]; omega
      rw [seq_nx (ρ1 := [.va (.scr ns), w1, w2, .va (.ob s), .va (.ob kb), .va (.int (k : Int)), .va (.int x), .va (.int ((D.2.2 : Nat) : Int)), .va (cellsL D.2.1), x9, x10, x11, x12]) (L1 := L) (by
        generalize kn.map kdW = KW at *
        have kdD : kdW D = .tup [.int (D.1 : Int), cellsL D.2.1, .int (D.2.2 : Int)] := rfl
        rw [kdD, cl] at ai
        rw [cl]
        generalize D.2.1.map cW = DW at *
        simp [t1, bxk, lenW, ll, fz_lst, t2, show (0 : Int) < (kn.length : Nat) by omega, ← hi, ai, at3_1, at3_2, dl, listW])]
    · refine ⟨x, ds, l, ?_, e2, by omega, l5, inb⟩
      have ll := List.length_map (as := kn) kdW
      have z : kn.length = 0 := by omega
      rw [seq_nx (ρ1 := [.va (.scr ns), w1, w2, .va (.ob s), .va (.ob kb), .va (.int (k : Int)), .va (.int x), .va (.int (l : Int)), .va (cellsL ds), x9, x10, x11, x12]) (L1 := L) (by
        generalize kn.map kdW = KW at *
        simp [t1, bxk, lenW, ll, fz_lst, z])]
  · refine ⟨x, ds, l, ?_, e2, by omega, l5, inb⟩
    rw [seq_nx (ρ1 := [.va (.scr ns), w1, w2, .va (.ob s), .va (.ob kb), .va (.int (k : Int)), .va (.int x), .va (.int (l : Int)), .va (cellsL ds), x9, x10, x11, x12]) (L1 := L) (by simp [t1])]
theorem mem_rev2 (cs : List Cell) (x : Cell) : x ∈ (cs ++ cs.take 2).reverse ↔ x ∈ cs := by
  rw [List.mem_reverse, List.mem_append]
  exact ⟨fun h => h.elim id List.mem_of_mem_take, Or.inl⟩
theorem cut_2 (xs : List W) : cutW xs none (some 2) = xs.take 2 := by
  unfold cutW
  have h : HT.sIx xs.length xs.length (some 2) = min 2 xs.length := HT.sIx_nat xs.length xs.length 2
  rw [HT.sIx_none, h, List.drop_zero, Nat.sub_zero]
  rcases Nat.le_total 2 xs.length with h | h
  · rw [Nat.min_eq_left h]
  · rw [Nat.min_eq_right h, List.take_of_length_le h, List.take_length]
/-- one round of the law's loop -/
theorem law_round {ri s kb : Nat} {kn : List Kd} {j : Nat} {S : SD} {L : Lg} (v : Inv ri s kb kn j S L) (hk : s + 7 ≤ kb) (hj : j < 8) (ns : List Int) (w1 w2 : Sl) (k : Nat) (x6 x7 x8 x9 x10 x11 x12 : Sl) :
    ∃ (ρ2 : Ro) (L2 : Lg) (S2 : SD) (kn2 : List Kd), for_law3 [.va (.scr ns), w1, w2, .va (.ob s), .va (.ob kb), .va (.int (k : Int)), x6, x7, x8, x9, x10, x11, x12] L = some (.nx ρ2 L2) ∧
      (∃ y6 y7 y8 y9 y10 y11 y12, ρ2 = [.va (.scr ns), w1, w2, .va (.ob s), .va (.ob kb), .va (.int (k : Int)), y6, y7, y8, y9, y10, y11, y12]) ∧ Inv ri s kb kn2 (j + 1) S2 L2 := by
  rw [ufor_law3]
  obtain ⟨x, cs, l, ch, can, c20, l5, inb⟩ := choose v ns w1 w2 k x6 x7 x8 x9 x10 x11 x12 (cSeq (cSet 9 (cMeth "Store" "built" d_Store_built (cVar 3) (cCons (cRev (cOf (cOp addW (cVar 8) (cSl (cNm 8) cNoP (cPart (cK (.int 2))))))) (cCons (cVar 7) cNil)))) (cSeq (cIfS (cNot (cTru (cCall d_law_right (cCons (cVar 3) (cCons (cVar 9) (cCons (cVar 8) (cCons (cVar 7) cNil))))))) (cRet (cK (.bl false))) cNx) (cSeq (cForB 4 (gTupW 3 (gsC (gN 10) (gsC (gN 11) (gsC (gN 12) gsN)))) for_law2) (cSeq (cAppB (cVar 4) (cTup (cCons (cVar 9) (cCons (cVar 8) (cCons (cVar 7) cNil))))) (cIfS (cOr (asT (cOp neW (cMeth "Store" "empty" d_Store_empty (cVar 3) (cCons (cVar 7) cNil)) (cMeth "Store" "built" d_Store_built (cVar 3) (cCons (cFz (cLst cNil)) (cCons (cVar 7) cNil))))) (asT (cOp neW (cMeth "Store" "cells" d_Store_cells (cVar 3) (cCons (cMeth "Store" "empty" d_Store_empty (cVar 3) (cCons (cVar 7) cNil)) cNil)) (cFz (cLst cNil))))) (cRet (cK (.bl false))) cNx)))))
  rw [ch]
  clear ch
  -- built
  have rin : Inb l (cs ++ cs.take 2).reverse := fun y hy => inb y ((mem_rev2 cs y).mp hy)
  have rlen : (cs ++ cs.take 2).reverse.length ≤ 22 := by rw [List.length_reverse, List.length_append, List.length_take]; omega
  have el := v.el
  have pl := v.pl
  have bl : (cs ++ cs.take 2).reverse.length * l ≤ 110 := Nat.le_trans (Nat.mul_le_mul rlen l5) (by decide)
  obtain ⟨S1, L1, n, e1, ⟨st1, sq1, lv1, pl1, el1⟩⟩ := built_ok (ri := ri) (s := s) 40 l _ L S v.at_ v.gd rin (by omega) (by omega) (by omega) (by omega)
  rw [← ud_Store_built] at e1
  have kn1 : Kn S1 l n cs := ⟨sq1, can, fun r c => by rw [lv1]; exact decide_eq_decide.mpr (mem_rev2 cs (r, c))⟩
  have v1 : AtS L1 ri s S1 := st1.ex.at_
  -- law_right
  obtain ⟨L2, e2, x2⟩ := right_true v1 st1.gd kn1 (by omega) (by omega)
  have st2 : Stp ri s L S L2 S1 := ⟨st1.ex.trans x2, st1.gd, st1.le, st1.fu⟩
  have b2 : L2[kb]? = some (.box (.lst (kn.map kdW))) := by rw [st2.ex.old kb (List.getElem?_eq_some_iff.mp v.bx).1 (Or.inr hk)]; exact v.bx
  have kns2 : ∀ d ∈ kn, Kn S1 d.2.2 d.1 d.2.1 := fun d hd => (v.kns d hd).1.le v.gd st1.le
  -- the others
  obtain ⟨ρ3, L3, e3, p3⟩ := forB_run kdW (i := 4) (j := kb) (g := gTupW 3 (gsC (gN 10) (gsC (gN 11) (gsC (gN 12) gsN)))) (body := for_law2) (xs := kn)
    (fun _ ρ L' => L' = L2 ∧ ∃ y10 y11 y12, ρ = [.va (.scr ns), w1, w2, .va (.ob s), .va (.ob kb), .va (.int (k : Int)), .va (.int x), .va (.int (l : Int)), .va (cellsL cs), .va (.int (n : Int)), y10, y11, y12])
    (fun i ρ L' h => by rw [h.1]; exact b2)
    (fun i d ρ L' hd hp => by
      obtain ⟨rfl, y10, y11, y12, rfl⟩ := hp
      have kd := kns2 d (List.mem_of_getElem? hd)
      refine ⟨[.va (.scr ns), w1, w2, .va (.ob s), .va (.ob kb), .va (.int (k : Int)), .va (.int x), .va (.int (l : Int)), .va (cellsL cs), .va (.int (n : Int)), .va (.int (d.1 : Int)), .va (cellsL d.2.1), .va (.int (d.2.2 : Int))], [.va (.scr ns), w1, w2, .va (.ob s), .va (.ob kb), .va (.int (k : Int)), .va (.int x), .va (.int (l : Int)), .va (cellsL cs), .va (.int (n : Int)), .va (.int (d.1 : Int)), .va (cellsL d.2.1), .va (.int (d.2.2 : Int))], L', by simp [kdW], ?_, rfl, .va (.int (d.1 : Int)), .va (cellsL d.2.1), .va (.int (d.2.2 : Int)), rfl⟩
      have eq := eqW_cells d.2.1 cs
      have key : ((d.1 : Int) = (n : Int)) ↔ (d.2.1 = cs ∧ (d.2.2 : Int) = (l : Int)) := by
        constructor
        · intro h
          have h : d.1 = n := by omega
          have hl : d.2.2 = l := by rw [← kd.sq.lv, h, sq1.lv]
          refine ⟨?_, by omega⟩
          rw [h, hl] at kd
          exact kd.same kn1
        · rintro ⟨h1, h2⟩
          have h2 : d.2.2 = l := by omega
          rw [h1, h2] at kd
          rw [kd.uniq kn1 st1.gd]
      rw [ufor_law2]
      generalize cellsL d.2.1 = A at *
      generalize cellsL cs = B at *
      generalize (d.1 : Int) = dI at *
      generalize (n : Int) = nI at *
      generalize (d.2.2 : Int) = hI at *
      generalize (l : Int) = lI at *
      by_cases c1 : d.2.1 = cs <;> by_cases c2 : hI = lI <;> simp [c1, c2] at key eq <;> simp [eq, c2, key])
    (ρ := [.va (.scr ns), w1, w2, .va (.ob s), .va (.ob kb), .va (.int (k : Int)), .va (.int x), .va (.int (l : Int)), .va (cellsL cs), .va (.int (n : Int)), x10, x11, x12]) (L := L2) rfl ⟨rfl, x10, x11, x12, rfl⟩
  obtain ⟨hL3, y10, y11, y12, rfl⟩ := p3
  subst hL3
  -- appended
  have kl : kb < L3.length := (List.getElem?_eq_some_iff.mp b2).1
  have v3 : AtS (L3.set kb (.box (.lst ((kn ++ [(n, cs, l)]).map kdW)))) ri s S1 := st2.ex.at_.setx kb _ (Or.inr hk)
  have b3 : (L3.set kb (.box (.lst ((kn ++ [(n, cs, l)]).map kdW))))[kb]? = some (.box (.lst ((kn ++ [(n, cs, l)]).map kdW))) := List.getElem?_set_self kl
  have kj := v.kl
  have inv3 : Inv ri s kb (kn ++ [(n, cs, l)]) (j + 1) S1 (L3.set kb (.box (.lst ((kn ++ [(n, cs, l)]).map kdW)))) := by
    refine ⟨v3, st1.gd, b3, fun d hd => ?_, by omega, by omega, by rw [List.length_append, List.length_singleton]; omega⟩
    rcases List.mem_append.mp hd with h | h
    · exact ⟨kns2 d h, (v.kns d h).2⟩
    · simp only [List.mem_singleton] at h
      subst h
      exact ⟨kn1, c20, l5⟩
  generalize hM3 : L3.set kb (.box (.lst ((kn ++ [(n, cs, l)]).map kdW))) = M3 at *
  -- empty, built of nothing, empty
  obtain ⟨S4, L4, n4, e4, st4, sq4, d4, x4, p4⟩ := empty_ok v3 st1.gd l (by omega) (by omega)
  obtain ⟨S5, L5, n5, e5, ⟨st5, sq5, lv5, pl5, el5⟩⟩ := built_ok (ri := ri) (s := s) 40 l [] L4 S4 st4.ex.at_ st4.gd (fun _ h => by cases h) (by omega) (by simp; omega) (by omega) (by simp)
  rw [← ud_Store_built] at e5
  have pl5 : S5.ps.length + S4.es.length ≤ S4.ps.length + S5.es.length := by simpa using pl5
  obtain ⟨S6, L6, n6, e6, st6, sq6, d6, x6', p6⟩ := empty_ok st5.ex.at_ st5.gd l (by omega) (by omega)
  have canN : Can [] := ⟨List.nodup_nil, List.Pairwise.nil⟩
  have k4 : Kn S5 l n4 [] := Kn.le ⟨sq4, canN, fun r c => by rw [d4]; simp⟩ st4.gd st5.le
  have k5 : Kn S5 l n5 [] := ⟨sq5, canN, fun r c => by rw [lv5]⟩
  have n45 := k4.uniq k5 st5.gd
  subst n45
  have k6 : Kn S6 l n6 [] := ⟨sq6, canN, fun r c => by rw [d6]; simp⟩
  have ce := k6.cells st6.ex.at_ st6.gd (by omega) (by simp)
  have inv6 := (((inv3.step hk st4 (by omega) (by omega)).step hk st5 (by omega) (by omega)).step hk st6 (by omega) (by omega))
  have sd : Stp ri s L6 S6 (L6 ++ [.dead]) S6 := ⟨Ext.app st6.ex.at_ _, st6.gd, Le.refl _, rfl⟩
  have inv7 := inv6.step hk sd (by omega) (by omega)
  refine ⟨[.va (.scr ns), w1, w2, .va (.ob s), .va (.ob kb), .va (.int (k : Int)), .va (.int x), .va (.int (l : Int)), .va (cellsL cs), .va (.int (n : Int)), y10, y11, y12], L6 ++ [.dead], S6, _, ?_, ⟨_, _, _, _, _, _, _, rfl⟩, inv7⟩
  have g0 := v.at_.st
  have g3 := v3.st
  have g4 := st4.ex.at_.st
  have g5 := st5.ex.at_.st
  have g6 := st6.ex.at_.st
  have cl : cellsL cs = .lst (cs.map cW) := rfl
  have rv : cellsL (cs ++ cs.take 2).reverse = .lst ((cs.map cW ++ (cs.map cW).take 2).reverse) := by unfold cellsL; rw [List.map_reverse, List.map_append, List.map_take]
  rw [rv, List.reverse_append] at e1
  have z1 : (cs.map cW).length + min 2 (cs.map cW).length ≤ 16777216 := by rw [List.length_map]; omega
  have z2 : (cs.map cW).length ≤ 16777216 := by rw [List.length_map]; omega
  rw [cl] at e2 e3 ⊢
  rw [seq_nx (ρ1 := [.va (.scr ns), w1, w2, .va (.ob s), .va (.ob kb), .va (.int (k : Int)), .va (.int x), .va (.int (l : Int)), .va (.lst (cs.map cW)), .va (.int (n : Int)), x10, x11, x12]) (L1 := L1) (by
    generalize cs.map cW = CW at *
    simp [g0, e1, cut_2, revW, z1, z2])]
  rw [seq_nx (ρ1 := [.va (.scr ns), w1, w2, .va (.ob s), .va (.ob kb), .va (.int (k : Int)), .va (.int x), .va (.int (l : Int)), .va (.lst (cs.map cW)), .va (.int (n : Int)), x10, x11, x12]) (L1 := L3) (by
    generalize cs.map cW = CW at *
    simp [e2])]
  rw [seq_nx e3]
  have kz : kn.length < 16777216 := by omega
  have ap : (kn ++ [(n, cs, l)]).map kdW = kn.map kdW ++ [.tup [.int (n : Int), .lst (cs.map cW), .int (l : Int)]] := by rw [List.map_append]; rfl
  rw [ap] at hM3
  rw [seq_nx (ρ1 := [.va (.scr ns), w1, w2, .va (.ob s), .va (.ob kb), .va (.int (k : Int)), .va (.int x), .va (.int (l : Int)), .va (.lst (cs.map cW)), .va (.int (n : Int)), y10, y11, y12]) (L1 := M3) (by
    generalize cs.map cW = CW at *
    have lm : (kn.map kdW).length = kn.length := List.length_map ..
    generalize kn.map kdW = KW at *
    simp [b2, lm, kz, hM3])]
  have nn : neW (.lst []) (.lst []) = some (.bl false) := rfl
  have c5 : cellsL [] = .lst [] := rfl
  rw [c5] at e5 ce
  generalize cs.map cW = CW at *
  simp [g3, e4, g4, e5, g5, e6, g6, ce, nn]
theorem law1_round {ri s : Nat} {S : SD} {L : Lg} (h : AtS L ri s S) (G : Good S) (ns : List Int) (w1 w2 x5 x6 x10 x11 x12 : Sl) (kb : Nat) (d : Kd) (kd : Kn S d.2.2 d.1 d.2.1) (h1 : d.2.1.length ≤ 20) (h2 : d.2.2 ≤ 5) :
    for_law1 [.va (.scr ns), w1, w2, .va (.ob s), .va (.ob kb), x5, x6, .va (.int (d.2.2 : Int)), .va (cellsL d.2.1), .va (.int (d.1 : Int)), x10, x11, x12] L = some (.nx [.va (.scr ns), w1, w2, .va (.ob s), .va (.ob kb), x5, x6, .va (.int (d.2.2 : Int)), .va (cellsL d.2.1), .va (.int (d.1 : Int)), x10, x11, x12] (L ++ [.dead])) := by
  have ce := kd.cells h G (by omega) (by omega)
  have lv := kd.level (h.app [.dead])
  have g0 := h.st
  have g1 := (h.app [.dead]).st
  have ne := neW_cells d.2.1 d.2.1
  rw [decide_eq_true rfl] at ne
  rw [ufor_law1]
  generalize cellsL d.2.1 = A at *
  generalize (d.1 : Int) = nI at *
  generalize L ++ [.dead] = L1 at *
  simp [g0, ce, ne, g1, lv]
theorem law_true (ns : List Int) : ∃ L', d_law [.scr ns] [] = some (.bl true, L') := by
  obtain ⟨b, sv, e0, ab, as_⟩ := numbers_eq (ns.getD 0 0) []
  have c0 := cell_eq ns 0 []
  obtain ⟨v1, hv1⟩ : ∃ v1, v1 = ns.getD 1 0 := ⟨_, rfl⟩
  have c1 := fun L => cell_eq ns 1 L
  have ie := init_eq (L := []) (w1 := .lst (b.map W.int)) (w2 := .lst (sv.map W.int)) (.inl rfl) (.inl rfl) (by have := ab.len (by decide); omega) (by have := as_.len (by decide); omega)
  obtain ⟨RO, hRO⟩ : ∃ RO, RO = ruleOb (setI b) (setI sv) := ⟨_, rfl⟩
  rw [← hRO] at ie
  have si := store_init [RO] 0
  have a0 := at0 [RO] 0
  have lst : ([RO] ++ stoL 0 1).length = 8 := rfl
  obtain ⟨LB, hLB⟩ : ∃ LB, LB = ([RO] ++ stoL 0 1) ++ [.box (.lst [])] := ⟨_, rfl⟩
  have inv0 : Inv 0 1 8 [] 0 S0 LB := by
    rw [hLB]
    exact ⟨a0.app _, good0, rfl, fun _ h => (by cases h), (by decide), (by decide), rfl⟩
  obtain ⟨m, hm⟩ : ∃ m : Nat, (m : Int) = 1 + v1 % 8 := ⟨(1 + v1 % 8).toNat, by omega⟩
  have m8 : m ≤ 8 := by omega
  have w1 : Sl := .va (.lst (b.map W.int))
  obtain ⟨ρ3, L3, e3, p3⟩ := for_ind (fun i : Nat => W.int (i : Int)) (g := gN 5) (body := for_law3) (fun j ρ L => ∃ S kn x5 x6 x7 x8 x9 x10 x11 x12, ρ = [.va (.scr ns), .va (.lst (b.map W.int)), .va (.lst (sv.map W.int)), .va (.ob 1), .va (.ob 8), x5, x6, x7, x8, x9, x10, x11, x12] ∧ Inv 0 1 8 kn j S L) (List.range m) 0
    [.va (.scr ns), .va (.lst (b.map W.int)), .va (.lst (sv.map W.int)), .va (.ob 1), .va (.ob 8), .un, .un, .un, .un, .un, .un, .un, .un] LB
    (fun i x ρ L hx hp => by
      obtain ⟨S, kn, x5, x6, x7, x8, x9, x10, x11, x12, rfl, inv⟩ := hp
      have lt : i < m := by have := (List.getElem?_eq_some_iff.mp hx).1; simpa using this
      obtain ⟨ρ2, L2, S2, kn2, er, ⟨y6, y7, y8, y9, y10, y11, y12, rfl⟩, inv2⟩ := law_round inv (by omega) (by omega) ns (.va (.lst (b.map W.int))) (.va (.lst (sv.map W.int))) x x6 x7 x8 x9 x10 x11 x12
      exact ⟨_, _, _, by simp, er, S2, kn2, _, y6, y7, y8, y9, y10, y11, y12, rfl, inv2⟩)
    ⟨S0, [], _, _, _, _, _, _, _, _, rfl, inv0⟩
  obtain ⟨S, kn, x5, x6, x7, x8, x9, x10, x11, x12, rfl, inv⟩ := p3
  obtain ⟨ρ4, L4, e4, p4⟩ := forB_run kdW (i := 4) (j := 8) (g := gTupW 3 (gsC (gN 9) (gsC (gN 8) (gsC (gN 7) gsN)))) (body := for_law1) (xs := kn)
    (fun _ ρ L => AtS L 0 1 S ∧ L[8]? = some (.box (.lst (kn.map kdW))) ∧ ∃ y7 y8 y9, ρ = [.va (.scr ns), .va (.lst (b.map W.int)), .va (.lst (sv.map W.int)), .va (.ob 1), .va (.ob 8), x5, x6, y7, y8, y9, x10, x11, x12])
    (fun i ρ L h => h.2.1)
    (fun i d ρ L hd hp => by
      obtain ⟨hA, hB, y7, y8, y9, rfl⟩ := hp
      obtain ⟨kd, h1, h2⟩ := inv.kns d (List.mem_of_getElem? hd)
      refine ⟨_, _, _, ?_, law1_round hA inv.gd ns (.va (.lst (b.map W.int))) (.va (.lst (sv.map W.int))) x5 x6 x10 x11 x12 8 d kd h1 h2, hA.app _, ?_, _, _, _, rfl⟩
      · simp [kdW]
      · rw [List.getElem?_append_left (List.getElem?_eq_some_iff.mp hB).1]; exact hB)
    (ρ := [.va (.scr ns), .va (.lst (b.map W.int)), .va (.lst (sv.map W.int)), .va (.ob 1), .va (.ob 8), x5, x6, x7, x8, x9, x10, x11, x12]) (L := L3) rfl ⟨inv.at_, inv.bx, x7, x8, x9, rfl⟩
  obtain ⟨hA, -, y7, y8, y9, rfl⟩ := p4
  have pl := inv.pl
  have el := inv.el
  rw [Nat.zero_add, List.length_range] at pl
  obtain ⟨S5, L5, n5, e5, st5, sq5, d5, x5', p5⟩ := empty_ok hA inv.gd 0 (by omega) (by omega)
  have n50 : n5 = 0 := by
    rcases st5.gd.flat sq5.lt sq5.lv with h | h
    · exact h
    · subst h
      have := d5 0 0
      simp [liv] at this
  subst n50
  obtain ⟨S6, L6, n6, e6, ⟨st6, sq6, lv6, pl6, el6⟩⟩ := built_ok (ri := 0) (s := 1) 40 0 [(0, 0)] L5 S5 st5.ex.at_ st5.gd (fun y hy => by simp at hy; subst hy; decide) (by omega) (by simp; omega) (by omega) (by simp)
  rw [← ud_Store_built] at e6
  have n61 : n6 = 1 := by
    have := lv6 0 0
    rcases st6.gd.flat sq6.lt sq6.lv with h | h
    · subst h
      simp [liv] at this
    · exact h
  subst n61
  have g4 := hA.st
  have g5 := st5.ex.at_.st
  refine ⟨L6, ?_⟩
  have b0 : b_law [.va (.scr ns), .un, .un, .un, .un, .un, .un, .un, .un, .un, .un, .un, .un] [] = some (.rt (.bl true) L6) := by
    have c0' : d_law_cell [.scr ns, .int 0] [] = some (.int (ns.getD 0 0), []) := c0
    have c1' : ∀ L, d_law_cell [.scr ns, .int 1] L = some (.int v1, L) := fun L => by rw [hv1]; exact c1 L
    generalize ns.getD 0 0 = v0 at *
    rw [ub_law]
    rw [seq_nx (ρ1 := [.va (.scr ns), .va (.lst (b.map W.int)), .va (.lst (sv.map W.int)), .un, .un, .un, .un, .un, .un, .un, .un, .un, .un]) (L1 := []) (by simp [c0', e0])]
    rw [seq_nx (ρ1 := [.va (.scr ns), .va (.lst (b.map W.int)), .va (.lst (sv.map W.int)), .va (.ob 1), .un, .un, .un, .un, .un, .un, .un, .un, .un]) (L1 := [RO] ++ stoL 0 1) (by
      have ie' : d_Rule_init [.ob 0, .lst (b.map W.int), .lst (sv.map W.int)] [.ins "Rule" []] = some (.non, [RO]) := ie
      have si' : d_Store_init [.ob 1, .ob 0] [RO, .ins "Store" []] = some (.non, RO :: stoL 0 1) := si
      simp [ie', si'])]
    rw [seq_nx (ρ1 := [.va (.scr ns), .va (.lst (b.map W.int)), .va (.lst (sv.map W.int)), .va (.ob 1), .va (.ob 8), .un, .un, .un, .un, .un, .un, .un, .un]) (L1 := LB) (by
      rw [hLB]
      have : (RO :: stoL 0 1).length = 8 := rfl
      generalize [RO] ++ stoL 0 1 = LX at *
      simp [lst])]
    rw [seq_nx (ρ1 := [.va (.scr ns), .va (.lst (b.map W.int)), .va (.lst (sv.map W.int)), .va (.ob 1), .va (.ob 8), x5, x6, x7, x8, x9, x10, x11, x12]) (L1 := L3) (by
      have rg : rangeW 0 m = (List.range m).map fun i : Nat => W.int (i : Int) := by
        unfold rangeW
        simp
      have tn : (1 + v1 % 8).toNat = m := by omega
      have r1 : rng1 (1 + v1 % 8) LB = some ((List.range m).map fun i : Nat => W.int (i : Int), LB) := by
        unfold rng1
        rw [if_pos ⟨by omega, by omega⟩, tn, rg]
      simp [c1', r1]
      exact e3)]
    rw [seq_nx e4]
    have e6' : d_Store_built [.ob 1, .lst [.tup [.int 0, .int 0]], .int 0] L5 = some (.int 1, L6) := e6
    have e5' : d_Store_empty [.ob 1, .int 0] L4 = some (.int 0, L5) := e5
    simp [g4, e5', g5, e6']
  rw [ud_law, e_runDef]
  have st' : b_law (([.scr ns] : List W).map Sl.va ++ List.replicate (13 - 1) .un) [] = _ := b0
  simp only [List.length_cons, List.length_nil]
  rw [st']
theorem law_end (ns : List Int) (_ : ns.length ≤ 63) (_ : ∀ z ∈ ns, Builtin.Int.intBits z ≤ 1048576) : ∃ L', d_law [.scr ns] [] = some (.bl true, L') := law_true ns

end Law
open PySem PySem.W PySem.Calls PyProof.Rows
theorem PySem.Challenge.cw_longlife_k08_squares_of_a_store_holds : PySem.Challenge.rw_longlife_k08_squares_of_a_store.Holds := by
  w_on; o_law
  refine HandSHeadRun.head_any (r := OpenLaw.row PySem.Challenge.rw_longlife_k08_squares_of_a_store) (q := view (OpenLaw.row PySem.Challenge.rw_longlife_k08_squares_of_a_store).prog [17]) (H := Law.hk) (ob := Law.ob) (M := 4000) (loose := ["_wall", "pattern", "_law_cell", "_law_row", "_law_integer", "_law_cells", "_law_numbers", "_law_some", "_law_right", "DEAD", "ALIVE", "Store", "Rule"]) (d := HandSHeadRun.topDef (OpenLaw.row PySem.Challenge.rw_longlife_k08_squares_of_a_store).prog 17) (kwd := []) Law.ob_eq
    (by kernel_rfl) (fun s => by kernel_rfl) Law.run (by kernel_rfl) (by kernel_rfl) (by kernel_rfl) (by rfl) (by first | assumption | decide +kernel) (by decide +kernel) ⟨rfl, rfl, rfl, rfl, rfl, by decide +kernel⟩ ?hw ?hc
  case hw => w_witness2
  case hc =>
    refine Lf.walk_lf (l := PySem.Challenge.rw_longlife_k08_squares_of_a_store) (n := 63) (k := 43) (x := "script") (D := Law.d_law) rfl (by decide) (by kernel_rfl) ⟨rfl, by decide, by decide⟩ ?F ?D
    case F =>
      intro w mg fa h Y G hmg0
      obtain ⟨K, KX, c⟩ := Y
      have hmg : mg ("law" : PySem.Str) = some (.ref fa) := by
        have e : (HandSHeadRun.topDef (OpenLaw.row PySem.Challenge.rw_longlife_k08_squares_of_a_store).prog 17).name = ("law" : PySem.Str) := by kernel_rfl
        rw [← e]
        exact hmg0
      obtain ⟨fd, hb, hF⟩ := Law.facts (P := (PySem.Challenge.rw_longlife_k08_squares_of_a_store).prog) (w := w) KX G hmg c
      exact ⟨K, fd, KX, hb, hF⟩
    case D =>
      intro ns hl hb
      exact Law.law_end ns hl hb
