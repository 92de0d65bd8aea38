import PyProof.Rows.All
import Wide.All
import OpenK.AllK
import Wide.FinOn
import HandS.ForMost
import KE.KeyNested
import KE.KDictKeyed
import KE.KDictDisplayH
import HandS.Wide
import HandS.IsInst
import HandS.EndBits
import KE.SortData
import HandS.TupSets
import HandS.Style
import HandS.Defaults
import HandS.Head0
import HandS.Head1
import HandS.Head2
import HandS.HeadEnd
import HandS.HeadHook1
import HandS.HeadHook2
import HandS.Deep
import HandS.Text
import HandS.Conv
import HandS.Strs
import HandS.Replace
import HandS.SetFor
import HandS.More
import HandS.Codes
import HandS.Iter
import HandS.OwnEq
import PyProof.Rows.StrSplitCount
import HandS.DictComp
import HandS.DictTup
import KE.DataMinMax
import HandS.ReplaceLit
import HandS.ReplaceList
import HandS.StrMore
import HandS.Exc
import HandS.ExcOwn
import HandS.ExcIs
import HandS.WordsExc
import HandS.NoneIn
import HandS.HeadHook3
import HandS.ExcInit
import HandS.ExcField
import HandS.FStr
import HandS.ClsMeth
import KE.KExcIs
import PySem.Challenge.RW_longlife_k05_pictures_and_their_faults
set_option Elab.async false
set_option linter.all false
set_option maxRecDepth 100000
set_option maxHeartbeats 4000000
set_option maxHeartbeats 4000000
/-! Lf, part A: values as trees (W), the frozen heap F, mutable objects L, and what it means that the machine's state is described by them. -/
namespace Lf
open PySem PySem.Spec PyProof.Rows L2

/-- a value as a tree: lists and dicts that nobody changes any more are written out; a thing that may still change is a number -/
inductive W where
  | non | bl (b : Bool) | int (i : Int) | str (s : Str) | ty (n : String)
  | tup (xs : List W) | lst (xs : List W) | kt (xs : List W)
  | dK (kvs : List (Key × W)) | dT (kvs : List (List Key × W))
  | ob (i : Nat) | scr (ns : List Int)
/-- the contents of a thing that may change -/
inductive M where
  | lst (xs : List W) | dK (kvs : List (Key × W)) | dT (kvs : List (List Key × W))
def M.fz : M → W
  | .lst xs => .lst xs
  | .dK k => .dK k
  | .dT k => .dT k
/-- a numbered thing -/
inductive Ob where
  | ins (c : Str) (fs : List (Str × W)) | box (m : M) | dead
  | nd (kvs : List (List (Int × Int) × W))
/-- a name's slot: nothing, a value, a thing that this name alone holds -/
inductive Sl where
  | un | va (w : W) | ow (m : M)
abbrev Ro := List Sl
abbrev Lg := List Ob

def TupAt (_ : PySem.W.Frag) (F : Hp) (a : Addr) (xs : List V) : Prop := F a = some (.tup xs)
/-- a tuple of the written part -/
def TupK (K : PySem.W.Frag) (a : Addr) (xs : List V) : Prop := ∃ (o : Obj) (its : Array Value) (n : Nat), K.lookup a = some o ∧ o.cls = .type "tuple" ∧ o.data = .seq its n ∧ its.size ≤ sizeLine ∧ Vals xs its.toList
def DAt (F : Hp) (a : Addr) (o : HO) : Prop := F a = some o ∨ ∃ ob, F a = some (.frz ob o)

mutual
inductive R (K : PySem.W.Frag) (F : Hp) (φ : List Addr) : W → V → Prop
  | non : R K F φ .non .non
  | bl (b : Bool) : R K F φ (.bl b) (.bl b)
  | int (i : Int) : R K F φ (.int i) (.int i)
  | str (s : Str) : R K F φ (.str s) (.str s)
  | ty (n : String) : R K F φ (.ty n) (.ty n)
  | tup {ws : List W} {a : Addr} {vs : List V} : TupAt K F a vs → Rs K F φ ws vs → R K F φ (.tup ws) (.ref a)
  | lst {ws : List W} {a : Addr} {vs : List V} : F a = some (.lst vs) → Rs K F φ ws vs → R K F φ (.lst ws) (.ref a)
  | kt {ws : List W} {a : Addr} {vs : List V} : TupK K a vs → Rs K F φ ws vs → R K F φ (.kt ws) (.ref a)
  | dK {kvs : List (Key × W)} {a : Addr} {vs : List (Key × V)} : DAt F a (.dK vs) → kvs.map Prod.fst = vs.map Prod.fst → Rs K F φ (kvs.map Prod.snd) (vs.map Prod.snd) → R K F φ (.dK kvs) (.ref a)
  | dT {kvs : List (List Key × W)} {a : Addr} {vs : List (List Key × V)} : DAt F a (.dT vs) → kvs.map Prod.fst = vs.map Prod.fst → Rs K F φ (kvs.map Prod.snd) (vs.map Prod.snd) → R K F φ (.dT kvs) (.ref a)
  | ob {i : Nat} {a : Addr} : φ[i]? = some a → R K F φ (.ob i) (.ref a)
  | scr {ns : List Int} {a : Addr} : SqL K F a (ns.map V.int) → R K F φ (.scr ns) (.ref a)
inductive Rs (K : PySem.W.Frag) (F : Hp) (φ : List Addr) : List W → List V → Prop
  | nil : Rs K F φ [] []
  | cons {w : W} {ws : List W} {v : V} {vs : List V} : R K F φ w v → Rs K F φ ws vs → Rs K F φ (w :: ws) (v :: vs)
end

def Sub (F F' : Hp) : Prop := ∀ a o, F a = some o → F' a = some o
theorem Sub.refl (F : Hp) : Sub F F := fun _ _ h => h
theorem Sub.trans {F F1 F2 : Hp} (a : Sub F F1) (b : Sub F1 F2) : Sub F F2 := fun c o h => b c o (a c o h)
theorem Sub.new {F : Hp} {p : Addr} {o : HO} (h : F p = none) : Sub F (upd F p o) := fun a u e => by rw [upd_ne (ne_of_none e h)]; exact e
theorem TupAt.mono {K : PySem.W.Frag} {F F' : Hp} {a : Addr} {xs : List V} (s : Sub F F') (h : TupAt K F a xs) : TupAt K F' a xs := s _ _ h
theorem DAt.mono {F F' : Hp} {a : Addr} {o : HO} (s : Sub F F') (h : DAt F a o) : DAt F' a o := h.elim (fun h => .inl (s _ _ h)) fun ⟨u, h⟩ => .inr ⟨u, s _ _ h⟩
theorem SqL.mono {K : PySem.W.Frag} {F F' : Hp} {a : Addr} {xs : List V} (s : Sub F F') (h : SqL K F a xs) : SqL K F' a xs := by
  rcases h with (h | ⟨o, h⟩) | h
  · exact .inl (.inl (s _ _ h))
  · exact .inl (.inr ⟨o, s _ _ h⟩)
  · exact .inr h
theorem TupAt.sq {K : PySem.W.Frag} {F H : Hp} {a : Addr} {xs : List V} (s : Sub F H) (h : TupAt K F a xs) : SqT K H a xs := .inl (.inl (s _ _ h))
theorem TupK.sq {K : PySem.W.Frag} {H : Hp} {a : Addr} {xs : List V} (h : TupK K a xs) : SqT K H a xs := .inr h
theorem pre_get {φ φ' : List Addr} (p : φ <+: φ') {i : Nat} {a : Addr} (h : φ[i]? = some a) : φ'[i]? = some a := by
  obtain ⟨r, rfl⟩ := p
  have hi : i < φ.length := (List.getElem?_eq_some_iff.mp h).1
  rw [List.getElem?_append_left hi]; exact h
mutual
theorem R.mono {K : PySem.W.Frag} {F F' : Hp} {φ φ' : List Addr} (s : Sub F F') (p : φ <+: φ') : ∀ {w : W} {v : V}, R K F φ w v → R K F' φ' w v
  | _, _, .non => .non
  | _, _, .bl b => .bl b
  | _, _, .int i => .int i
  | _, _, .str x => .str x
  | _, _, .ty n => .ty n
  | _, _, .tup h hs => .tup (h.mono s) (Rs.mono s p hs)
  | _, _, .lst h hs => .lst (s _ _ h) (Rs.mono s p hs)
  | _, _, .kt h hs => .kt h (Rs.mono s p hs)
  | _, _, .dK h k hs => .dK (h.mono s) k (Rs.mono s p hs)
  | _, _, .dT h k hs => .dT (h.mono s) k (Rs.mono s p hs)
  | _, _, .ob h => .ob (pre_get p h)
  | _, _, .scr h => .scr (SqL.mono s h)
theorem Rs.mono {K : PySem.W.Frag} {F F' : Hp} {φ φ' : List Addr} (s : Sub F F') (p : φ <+: φ') : ∀ {ws : List W} {vs : List V}, Rs K F φ ws vs → Rs K F' φ' ws vs
  | _, _, .nil => .nil
  | _, _, .cons h hs => .cons (R.mono s p h) (Rs.mono s p hs)
end
theorem Rs.length {K : PySem.W.Frag} {F : Hp} {φ : List Addr} : ∀ {ws : List W} {vs : List V}, Rs K F φ ws vs → ws.length = vs.length
  | _, _, .nil => rfl
  | _, _, .cons _ t => by simp [Rs.length t]
theorem Rs.get {K : PySem.W.Frag} {F : Hp} {φ : List Addr} : ∀ {ws : List W} {vs : List V} {i : Nat} {w : W}, Rs K F φ ws vs → ws[i]? = some w → ∃ v, vs[i]? = some v ∧ R K F φ w v
  | _, _, _, _, .nil, e => by simp at e
  | _, _, 0, _, .cons r _, e => by simp at e; subst e; exact ⟨_, rfl, r⟩
  | _, _, i + 1, _, .cons _ t, e => by
    obtain ⟨v, h1, h2⟩ := Rs.get (i := i) t (by simpa using e)
    exact ⟨v, by simpa using h1, h2⟩
theorem Rs.get' {K : PySem.W.Frag} {F : Hp} {φ : List Addr} : ∀ {ws : List W} {vs : List V} {i : Nat} {v : V}, Rs K F φ ws vs → vs[i]? = some v → ∃ w, ws[i]? = some w ∧ R K F φ w v
  | _, _, _, _, .nil, e => by simp at e
  | _, _, 0, _, .cons r _, e => by simp at e; subst e; exact ⟨_, rfl, r⟩
  | _, _, i + 1, _, .cons _ t, e => by
    obtain ⟨v, h1, h2⟩ := Rs.get' (i := i) t (by simpa using e)
    exact ⟨v, by simpa using h1, h2⟩
theorem Rs.append {K : PySem.W.Frag} {F : Hp} {φ : List Addr} : ∀ {ws ws' : List W} {vs vs' : List V}, Rs K F φ ws vs → Rs K F φ ws' vs' → Rs K F φ (ws ++ ws') (vs ++ vs')
  | _, _, _, _, .nil, s => s
  | _, _, _, _, .cons r t, s => .cons r (Rs.append t s)
theorem Rs.take {K : PySem.W.Frag} {F : Hp} {φ : List Addr} : ∀ {ws : List W} {vs : List V} (n : Nat), Rs K F φ ws vs → Rs K F φ (ws.take n) (vs.take n)
  | _, _, 0, _ => .nil
  | _, _, _ + 1, .nil => .nil
  | _, _, n + 1, .cons r t => .cons r (Rs.take n t)
theorem Rs.drop {K : PySem.W.Frag} {F : Hp} {φ : List Addr} : ∀ {ws : List W} {vs : List V} (n : Nat), Rs K F φ ws vs → Rs K F φ (ws.drop n) (vs.drop n)
  | _, _, 0, r => r
  | _, _, _ + 1, .nil => .nil
  | _, _, n + 1, .cons _ t => Rs.drop n t
theorem Rs.set {K : PySem.W.Frag} {F : Hp} {φ : List Addr} {w : W} {v : V} (r : R K F φ w v) : ∀ {ws : List W} {vs : List V} (i : Nat), Rs K F φ ws vs → Rs K F φ (ws.set i w) (vs.set i v)
  | _, _, _, .nil => .nil
  | _, _, 0, .cons _ t => .cons r t
  | _, _, i + 1, .cons q t => .cons q (Rs.set r i t)
theorem Rs.reverse {K : PySem.W.Frag} {F : Hp} {φ : List Addr} : ∀ {ws : List W} {vs : List V}, Rs K F φ ws vs → Rs K F φ ws.reverse vs.reverse
  | _, _, .nil => .nil
  | _, _, .cons r t => by
    rw [List.reverse_cons, List.reverse_cons]
    exact Rs.append (Rs.reverse t) (.cons r .nil)
theorem Rs.one {K : PySem.W.Frag} {F : Hp} {φ : List Addr} {w : W} {v : V} (r : R K F φ w v) : Rs K F φ [w] [v] := .cons r .nil
theorem Rs.ints {K : PySem.W.Frag} {F : Hp} {φ : List Addr} : ∀ {ns : List Int} {vs : List V}, Rs K F φ (ns.map W.int) vs → vs = ns.map V.int
  | [], _, h => by cases h; rfl
  | n :: ns, _, h => by
    cases h with
    | cons r t =>
      cases r
      rw [Rs.ints t]; rfl
theorem Rs.of_ints {K : PySem.W.Frag} {F : Hp} {φ : List Addr} : ∀ (ns : List Int), Rs K F φ (ns.map W.int) (ns.map V.int)
  | [] => .nil
  | n :: ns => .cons (.int n) (Rs.of_ints ns)

/-- contents and object -/
def MOk (K : PySem.W.Frag) (F : Hp) (φ : List Addr) : M → HO → Prop
  | .lst ws, .lst vs => Rs K F φ ws vs
  | .dK kvs, .dK vs => kvs.map Prod.fst = vs.map Prod.fst ∧ Rs K F φ (kvs.map Prod.snd) (vs.map Prod.snd)
  | .dT kvs, .dT vs => kvs.map Prod.fst = vs.map Prod.fst ∧ Rs K F φ (kvs.map Prod.snd) (vs.map Prod.snd)
  | _, _ => False
theorem MOk.mono {K : PySem.W.Frag} {F F' : Hp} {φ φ' : List Addr} (s : Sub F F') (p : φ <+: φ') {m : M} {o : HO} (h : MOk K F φ m o) : MOk K F' φ' m o := by
  cases m <;> cases o <;> first | exact Rs.mono s p h | exact ⟨h.1, Rs.mono s p h.2⟩ | exact h
theorem MOk.fz {K : PySem.W.Frag} {F : Hp} {φ : List Addr} {m : M} {o : HO} {a : Addr} (h : MOk K F φ m o) (e : F a = some o) : R K F φ m.fz (.ref a) := by
  cases m <;> cases o <;> first | exact .lst e h | exact .dK (.inl e) h.1 h.2 | exact .dT (.inl e) h.1 h.2 | exact h.elim
/-- tuples of pairs of ints, as keys -/
def encC (c : Int × Int) : NestedKey := .tup [.num c.1, .num c.2]
def encK (cs : List (Int × Int)) : NestedKey := .tup (cs.map encC)
def pairW (c : Int × Int) : W := .tup [.int c.1, .int c.2]
def keyNW (cs : List (Int × Int)) : W := .tup (cs.map pairW)
/-- a dict whose keys are such tuples, by its entries -/
def DNo (P : Program) (w : World) (a : Addr) (xs : List (NestedKey × Addr × Value)) : HO := .ext fun h => xs.length ≤ sizeLine ∧ (a == sysModules) = false ∧
  ∃ o es ep, h.get? a = some o ∧ o.ExactDict ∧ o.data = .dict es ep ∧ es.toList = xs.map (entryOfKey (nestedKind P w)) ∧ (xs.map (·.1)).Nodup
def ObOk (K : PySem.W.Frag) (mg : Str → Option Value) (F : Hp) (φ : List Addr) (H : Hp) (a : Addr) : Ob → Prop
  | .ins c fs => F a = none ∧ ∃ (C dx : Addr) (vs : List (Str × V)), mg c = some (.ref C) ∧ H a = some (.ins C dx vs) ∧ fs.map Prod.fst = vs.map Prod.fst ∧ Rs K F φ (fs.map Prod.snd) (vs.map Prod.snd)
  | .box m => F a = none ∧ ∃ o, H a = some o ∧ MOk K F φ m o
  | .dead => True
  | .nd kvs => F a = none ∧ ∃ (P : Program) (w : World) (xs : List (NestedKey × Addr × Value)) (vs : List V), H a = some (DNo P w a xs) ∧ xs.map (·.1) = kvs.map (fun p => encK p.1) ∧
      Rs K F φ (kvs.map fun p => keyNW p.1) (xs.map fun q => V.ref q.2.1) ∧ Rs K F φ (kvs.map Prod.snd) vs ∧ Vals vs (xs.map (·.2.2))
/-- no tuple -/
def NT (o : HO) : Prop := ∀ xs, o ≠ .tup xs
theorem NT.lst {xs : List V} : NT (.lst xs) := fun _ h => nomatch h
theorem NT.dK {xs : List (Key × V)} : NT (.dK xs) := fun _ h => nomatch h
theorem NT.dT {xs : List (List Key × V)} : NT (.dT xs) := fun _ h => nomatch h
theorem NT.ins {C dx : Addr} {fs : List (Str × V)} : NT (.ins C dx fs) := fun _ h => nomatch h
theorem MOk.nt {K : PySem.W.Frag} {F : Hp} {φ : List Addr} {m : M} {o : HO} (h : MOk K F φ m o) : NT o := by
  cases m <;> cases o <;> first | exact h.elim | exact fun _ e => nomatch e
/-- the heap is described: Z what is kept aside (and changed by no one else), F what is frozen, L the numbered things at φ -/
structure Hs (K : PySem.W.Frag) (mg : Str → Option Value) (Z F : Hp) (φ : List Addr) (L : Lg) (H : Hp) : Prop where
  sub : Sub F H
  ext : ∀ a o, Z a = some o → H a = some o ∧ F a = none ∧ a ∉ φ ∧ NT o
  len : φ.length = L.length
  nd : φ.Nodup
  has : ∀ a ∈ φ, ∃ o, H a = some o ∧ NT o
  objs : ∀ (i : Nat) (o : Ob) (a : Addr), L[i]? = some o → φ[i]? = some a → ObOk K mg F φ H a o
/-- the slots -/
structure Ss (K : PySem.W.Frag) (Zx Z F : Hp) (φ : List Addr) (ρ : Ro) (σ : L2.St) : Prop where
  len : ρ.length = σ.length
  va : ∀ (i : Nat) (w : W), ρ[i]? = some (.va w) → ∃ v, σ[i]? = some (some v) ∧ R K F φ w v
  ow : ∀ (i : Nat) (m : M), ρ[i]? = some (.ow m) → ∃ a o, σ[i]? = some (some (.ref a)) ∧ Z a = some o ∧ Zx a = none ∧ MOk K F φ m o
  sep : ∀ (i j : Nat) (m m' : M) (a : Addr), ρ[i]? = some (.ow m) → ρ[j]? = some (.ow m') → σ[i]? = some (some (.ref a)) → σ[j]? = some (some (.ref a)) → i = j
  out : Sub Zx Z
theorem Ss.mono {K : PySem.W.Frag} {Zx Z F F' : Hp} {φ φ' : List Addr} {ρ : Ro} {σ : L2.St} (s : Sub F F') (p : φ <+: φ') (h : Ss K Zx Z F φ ρ σ) : Ss K Zx Z F' φ' ρ σ :=
  ⟨h.len, fun i w e => let ⟨v, h1, h2⟩ := h.va i w e; ⟨v, h1, h2.mono s p⟩, fun i m e => let ⟨a, o, h1, h2, h3, h4⟩ := h.ow i m e; ⟨a, o, h1, h2, h3, h4.mono s p⟩, h.sep, h.out⟩
theorem Hs.weak {K : PySem.W.Frag} {mg : Str → Option Value} {Z Z' F : Hp} {φ : List Addr} {L : Lg} {H : Hp} (h : Hs K mg Z' F φ L H) (s : Sub Z Z') : Hs K mg Z F φ L H :=
  ⟨h.sub, fun a o e => h.ext a o (s a o e), h.len, h.nd, h.has, h.objs⟩
theorem pre_nd {φ : List Addr} {i : Nat} {a b : Addr} (h : φ[i]? = some a) (hb : b ∉ φ) : a ≠ b := fun e => hb (e ▸ List.mem_of_getElem? h)
theorem ObOk.mono {K : PySem.W.Frag} {mg : Str → Option Value} {F F' : Hp} {φ φ' : List Addr} {H H' : Hp} {a : Addr} {o : Ob} (s : Sub F F') (p : φ <+: φ') (hF : F a = none → F' a = none) (hH : ∀ u, H a = some u → H' a = some u) (h : ObOk K mg F φ H a o) : ObOk K mg F' φ' H' a o := by
  cases o with
  | ins c fs => obtain ⟨n, C, dx, vs, h1, h2, h3, h4⟩ := h; exact ⟨hF n, C, dx, vs, h1, hH _ h2, h3, Rs.mono s p h4⟩
  | box m => obtain ⟨n, o, h1, h2⟩ := h; exact ⟨hF n, o, hH _ h1, h2.mono s p⟩
  | dead => exact True.intro
  | nd kvs => obtain ⟨n, P, w, xs, vs, h1, h2, h3, h4, h5⟩ := h; exact ⟨hF n, P, w, xs, vs, hH _ h1, h2, Rs.mono s p h3, Rs.mono s p h4, h5⟩
section
variable {K : PySem.W.Frag} {mg : Str → Option Value} {Z F : Hp} {φ : List Addr} {L : Lg} {H : Hp} {p : Addr} {o : HO}
theorem Hs.free (h : Hs K mg Z F φ L H) (hp : H p = none) : F p = none ∧ Z p = none ∧ p ∉ φ := by
  refine ⟨?_, ?_, fun m => ?_⟩
  · cases e : F p with
    | none => rfl
    | some u => rw [h.sub p u e] at hp; cases hp
  · cases e : Z p with
    | none => rfl
    | some u => rw [(h.ext p u e).1] at hp; cases hp
  · obtain ⟨u, e, _⟩ := h.has p m
    rw [e] at hp; cases hp
/-- a new object, kept aside -/
theorem Hs.fresh (h : Hs K mg Z F φ L H) (hp : H p = none) (nt : NT o := by intro _ z; cases z) : Hs K mg (upd Z p o) F φ L (upd H p o) := by
  obtain ⟨f1, f2, f3⟩ := h.free hp
  refine ⟨fun a u e => ?_, fun a u e => ?_, h.len, h.nd, fun a m => ?_, fun i u a e1 e2 => ?_⟩
  · rw [upd_ne (ne_of_none e f1)]; exact h.sub a u e
  · by_cases q : a = p
    · subst q; rw [upd_same] at e; cases e; exact ⟨upd_same, f1, f3, nt⟩
    · rw [upd_ne q] at e ⊢; exact h.ext a u e
  · obtain ⟨u, e, n⟩ := h.has a m
    exact ⟨u, by rw [upd_ne (ne_of_none e hp)]; exact e, n⟩
  · exact (h.objs i u a e1 e2).mono (Sub.refl F) (List.prefix_refl φ) (fun z => z) fun u e => by rw [upd_ne (ne_of_none e hp)]; exact e
/-- what was kept aside is frozen -/
theorem Hs.freeze (h : Hs K mg (upd Z p o) F φ L H) (hz : Z p = none) : Hs K mg Z (upd F p o) φ L H ∧ Sub F (upd F p o) := by
  obtain ⟨h1, h2, h3, h4⟩ := h.ext p o upd_same
  have sb : Sub F (upd F p o) := Sub.new h2
  refine ⟨⟨fun a u e => ?_, fun a u e => ?_, h.len, h.nd, h.has, fun i u a e1 e2 => ?_⟩, sb⟩
  · by_cases q : a = p
    · subst q; rw [upd_same] at e; cases e; exact h1
    · rw [upd_ne q] at e; exact h.sub a u e
  · have q : a ≠ p := ne_of_none e hz
    obtain ⟨g1, g2, g3, g4⟩ := h.ext a u (by rw [upd_ne q]; exact e)
    exact ⟨g1, by rw [upd_ne q]; exact g2, g3, g4⟩
  · exact (h.objs i u a e1 e2).mono sb (List.prefix_refl φ) (fun z => by rw [upd_ne (pre_nd e2 h3)]; exact z) fun u e => e
theorem Hs.fresh_frozen (h : Hs K mg Z F φ L H) (hp : H p = none) : Hs K mg Z (upd F p o) φ L (upd H p o) ∧ Sub F (upd F p o) := by
  obtain ⟨f1, f2, f3⟩ := h.free hp
  have sb : Sub F (upd F p o) := Sub.new f1
  refine ⟨⟨fun a u e => ?_, fun a u e => ?_, h.len, h.nd, fun a m => ?_, fun i u a e1 e2 => ?_⟩, sb⟩
  · by_cases q : a = p
    · subst q; rw [upd_same] at e ⊢; exact e
    · rw [upd_ne q] at e ⊢; exact h.sub a u e
  · obtain ⟨g1, g2, g3, g4⟩ := h.ext a u e
    have q : a ≠ p := ne_of_none e f2
    exact ⟨by rw [upd_ne q]; exact g1, by rw [upd_ne q]; exact g2, g3, g4⟩
  · obtain ⟨u, e, n⟩ := h.has a m
    exact ⟨u, by rw [upd_ne (ne_of_none e hp)]; exact e, n⟩
  · exact (h.objs i u a e1 e2).mono sb (List.prefix_refl φ) (fun z => by rw [upd_ne (pre_nd e2 f3)]; exact z) fun u e => by rw [upd_ne (ne_of_none e hp)]; exact e
/-- what was kept aside becomes a numbered thing -/
theorem Hs.numbered {ob : Ob} (h : Hs K mg (upd Z p o) F φ L H) (hz : Z p = none) (hm : F p = none → H p = some o → ObOk K mg F φ H p ob) : Hs K mg Z F (φ ++ [p]) (L ++ [ob]) H := by
  obtain ⟨h1, h2, h3, h4⟩ := h.ext p o upd_same
  refine ⟨h.sub, fun a u e => ?_, by simp [h.len], ?_, fun a hm => ?_, fun i u a e1 e2 => ?_⟩
  · have q : a ≠ p := ne_of_none e hz
    obtain ⟨g1, g2, g3, g4⟩ := h.ext a u (by rw [upd_ne q]; exact e)
    exact ⟨g1, g2, by simp [g3, q], g4⟩
  · rw [List.nodup_append]
    exact ⟨h.nd, by simp, fun a ha b hb e => h3 (by simp at hb; subst hb; subst e; exact ha)⟩
  · rcases List.mem_append.mp hm with hm | hm
    · exact h.has a hm
    · simp at hm; subst hm; exact ⟨o, h1, h4⟩
  · have pf : φ <+: φ ++ [p] := List.prefix_append _ _
    by_cases hi : i < L.length
    · rw [List.getElem?_append_left hi] at e1
      rw [List.getElem?_append_left (by rw [h.len]; exact hi)] at e2
      exact (h.objs i u a e1 e2).mono (Sub.refl F) pf (fun z => z) fun u e => e
    · have : i = L.length := by
        have := (List.getElem?_eq_some_iff.mp e1).1
        simp at this; omega
      subst this
      rw [List.getElem?_append_right (Nat.le_refl _)] at e1
      rw [← h.len, List.getElem?_append_right (Nat.le_refl _)] at e2
      simp at e1 e2
      subst e1; subst e2
      exact (hm h2 h1).mono (Sub.refl F) pf (fun z => z) fun u e => e
theorem Hs.box {m : M} (h : Hs K mg (upd Z p o) F φ L H) (hz : Z p = none) (hm : MOk K F φ m o) : Hs K mg Z F (φ ++ [p]) (L ++ [.box m]) H :=
  h.numbered hz fun h2 h1 => ⟨h2, o, h1, hm⟩
/-- a thing kept aside is changed -/
theorem Hs.turn {o' : HO} (h : Hs K mg Z F φ L H) (hz : Z p = some o) (nt : NT o' := by intro _ z; cases z) : Hs K mg (upd Z p o') F φ L (upd H p o') := by
  obtain ⟨h1, h2, h3, h4⟩ := h.ext p o hz
  refine ⟨fun a u e => ?_, fun a u e => ?_, h.len, h.nd, fun a m => ?_, fun i u a e1 e2 => ?_⟩
  · have q : a ≠ p := fun q => by rw [q, h2] at e; cases e
    rw [upd_ne q]; exact h.sub a u e
  · by_cases q : a = p
    · subst q; rw [upd_same] at e; cases e; exact ⟨upd_same, h2, h3, nt⟩
    · rw [upd_ne q] at e ⊢; exact h.ext a u e
  · obtain ⟨u, e, n⟩ := h.has a m
    by_cases q : a = p
    · subst q; exact ⟨o', upd_same, nt⟩
    · exact ⟨u, by rw [upd_ne q]; exact e, n⟩
  · exact (h.objs i u a e1 e2).mono (Sub.refl F) (List.prefix_refl φ) (fun z => z) fun u e => by rw [upd_ne (pre_nd e2 h3)]; exact e
end
end Lf

set_option maxHeartbeats 4000000
/-! Lf, part B: a piece of the text and a function on trees: the judgements, and the rules for expressions. -/
namespace Lf
open PySem PySem.Spec PyProof.Rows L2

/-! ### what is wanted of a piece of the text, in the machine's words -/
def Wp (X : Cx) (e : Expr) : TE := fun σ H Q => ∀ (pins : List (Addr × Obj)) (s : Shared), Inv X pins σ H s → wpAny (model X.prog X.w) X.A (eval e X.env) (EP X pins σ Q) X.xe s
def WpT (X : Cx) (e : Expr) : TT := fun σ H Q => ∀ (pins : List (Addr × Obj)) (s : Shared), Inv X pins σ H s → wpAny (model X.prog X.w) X.A (isTrue e X.env (eval e X.env)) (TP X pins σ Q) X.xe s
def WpW (X : Cx) (e : Expr) : TT := fun σ H Q => ∀ (whole : Sem Value) (pins : List (Addr × Obj)) (s : Shared), Inv X pins σ H s → wpAny (model X.prog X.w) X.A (isTrue e X.env whole) (TP X pins σ Q) X.xe s
def WpA (X : Cx) (es : List Expr) : TA := fun σ H Q => ∀ (pos : Pos) (pins : List (Addr × Obj)) (s : Shared), Inv X pins σ H s → wpAny (model X.prog X.w) X.A (spliced (backTo pos (starEach es X.env))) (AP X pins σ Q) X.xe s
def WpS (X : Cx) (st : Stmt) : TS := fun D σ H => ∀ (pins : List (Addr × Obj)) (s : Shared), Inv X pins σ H s → wpAny (model X.prog X.w) X.A (exec st X.env) (SP X pins D) X.xe s
def WpSs (X : Cx) (st : List Stmt) : TS := fun D σ H => ∀ (pins : List (Addr × Obj)) (s : Shared), Inv X pins σ H s → wpAny (model X.prog X.w) X.A (execs st X.env) (SP X pins D) X.xe s
theorem wpE {X : Cx} {e : Expr} : PE X e (Wp X e) := ⟨fun pins s σ H Q I h => h pins s I⟩
theorem wpT {X : Cx} {e : Expr} : PT X e (WpT X e) := ⟨fun pins s σ H Q I h => h pins s I⟩
theorem wpW {X : Cx} {e : Expr} : PW X e (WpW X e) := ⟨fun wh pins s σ H Q I h => h wh pins s I⟩
theorem wpA {X : Cx} {es : List Expr} : PA X es (WpA X es) := ⟨fun pos pins s σ H Q I h => h pos pins s I⟩
theorem wpS {X : Cx} {st : Stmt} : PS X st (WpS X st) := ⟨fun pins s σ H D I h => h pins s I⟩
theorem wpSs {X : Cx} {st : List Stmt} : PSs X st (WpSs X st) := ⟨fun pins s σ H D I h => h pins s I⟩
theorem PE.wp {X : Cx} {e : Expr} {t : TE} (h : PE X e t) {σ : L2.St} {H : Hp} {Q : VK} (q : t σ H Q) : Wp X e σ H Q := fun pins s I => h.run pins s σ H Q I q
theorem PT.wp {X : Cx} {e : Expr} {t : TT} (h : PT X e t) {σ : L2.St} {H : Hp} {Q : Bool → Hp → Prop} (q : t σ H Q) : WpT X e σ H Q := fun pins s I => h.run pins s σ H Q I q
theorem PW.wp {X : Cx} {e : Expr} {t : TT} (h : PW X e t) {σ : L2.St} {H : Hp} {Q : Bool → Hp → Prop} (q : t σ H Q) : WpW X e σ H Q := fun wh pins s I => h.run wh pins s σ H Q I q
theorem PA.wp {X : Cx} {es : List Expr} {t : TA} (h : PA X es t) {σ : L2.St} {H : Hp} {Q : List V → Hp → Prop} (q : t σ H Q) : WpA X es σ H Q := fun pos pins s I => h.run pos pins s σ H Q I q
theorem PS.wp {X : Cx} {st : Stmt} {t : TS} (h : PS X st t) {σ : L2.St} {H : Hp} {D : Ends} (q : t D σ H) : WpS X st D σ H := fun pins s I => h.run pins s σ H D I q
theorem PSs.wp {X : Cx} {st : List Stmt} {t : TS} (h : PSs X st t) {σ : L2.St} {H : Hp} {D : Ends} (q : t D σ H) : WpSs X st D σ H := fun pins s I => h.run pins s σ H D I q

/-! ### the judgements -/
abbrev EF := Ro → Lg → Option (W × Lg)
abbrev TF := Ro → Lg → Option (Bool × Lg)
abbrev AF := Ro → Lg → Option (List W × Lg)
/-- where a container stands -/
inductive Hd where
  | val (w : W) | own (i : Nat)
abbrev OF := Ro → Lg → Option (Hd × Lg)
/-- a new list or dict -/
abbrev NF := Ro → Lg → Option (M × Lg)

structure IE (X : Cx) (e : Expr) (f : EF) : Prop where
  run : ∀ {Zx Z F : Hp} {φ : List Addr} {L : Lg} {ρ : Ro} {σ : L2.St} {H : Hp} {w : W} {L' : Lg}, Hs X.K X.mg Z F φ L H → Ss X.K Zx Z F φ ρ σ → f ρ L = some (w, L') →
    ∀ Q : VK, (∀ (F' : Hp) (φ' : List Addr) (H' : Hp) (v : V), Sub F F' → φ <+: φ' → Hs X.K X.mg Z F' φ' L' H' → R X.K F' φ' w v → Q v H') → Wp X e σ H Q
structure IT (X : Cx) (e : Expr) (f : TF) : Prop where
  run : ∀ {Zx Z F : Hp} {φ : List Addr} {L : Lg} {ρ : Ro} {σ : L2.St} {H : Hp} {w : Bool} {L' : Lg}, Hs X.K X.mg Z F φ L H → Ss X.K Zx Z F φ ρ σ → f ρ L = some (w, L') →
    ∀ Q : Bool → Hp → Prop, (∀ (F' : Hp) (φ' : List Addr) (H' : Hp), Sub F F' → φ <+: φ' → Hs X.K X.mg Z F' φ' L' H' → Q w H') → WpT X e σ H Q
structure IW (X : Cx) (e : Expr) (f : TF) : Prop where
  run : ∀ {Zx Z F : Hp} {φ : List Addr} {L : Lg} {ρ : Ro} {σ : L2.St} {H : Hp} {w : Bool} {L' : Lg}, Hs X.K X.mg Z F φ L H → Ss X.K Zx Z F φ ρ σ → f ρ L = some (w, L') →
    ∀ Q : Bool → Hp → Prop, (∀ (F' : Hp) (φ' : List Addr) (H' : Hp), Sub F F' → φ <+: φ' → Hs X.K X.mg Z F' φ' L' H' → Q w H') → WpW X e σ H Q
structure IA (X : Cx) (es : List Expr) (f : AF) : Prop where
  run : ∀ {Zx Z F : Hp} {φ : List Addr} {L : Lg} {ρ : Ro} {σ : L2.St} {H : Hp} {w : List W} {L' : Lg}, Hs X.K X.mg Z F φ L H → Ss X.K Zx Z F φ ρ σ → f ρ L = some (w, L') →
    ∀ Q : List V → Hp → Prop, (∀ (F' : Hp) (φ' : List Addr) (H' : Hp) (v : List V), Sub F F' → φ <+: φ' → Hs X.K X.mg Z F' φ' L' H' → Rs X.K F' φ' w v → Q v H') → WpA X es σ H Q
/-- a container in its place -/
def HR (K : PySem.W.Frag) (F : Hp) (φ : List Addr) (ρ : Ro) (σ : L2.St) : Hd → V → Prop
  | .val w, v => R K F φ w v
  | .own i, v => σ[i]? = some (some v) ∧ ∃ m, ρ[i]? = some (.ow m)
structure IO (X : Cx) (e : Expr) (f : OF) : Prop where
  run : ∀ {Zx Z F : Hp} {φ : List Addr} {L : Lg} {ρ : Ro} {σ : L2.St} {H : Hp} {w : Hd} {L' : Lg}, Hs X.K X.mg Z F φ L H → Ss X.K Zx Z F φ ρ σ → f ρ L = some (w, L') →
    ∀ Q : VK, (∀ (F' : Hp) (φ' : List Addr) (H' : Hp) (v : V), Sub F F' → φ <+: φ' → Hs X.K X.mg Z F' φ' L' H' → HR X.K F' φ' ρ σ w v → Q v H') → Wp X e σ H Q
structure IN (X : Cx) (e : Expr) (f : NF) : Prop where
  run : ∀ {Zx Z F : Hp} {φ : List Addr} {L : Lg} {ρ : Ro} {σ : L2.St} {H : Hp} {m : M} {L' : Lg}, Hs X.K X.mg Z F φ L H → Ss X.K Zx Z F φ ρ σ → f ρ L = some (m, L') →
    ∀ Q : VK, (∀ (F' : Hp) (φ' : List Addr) (H' : Hp) (p : Addr) (o : HO), Sub F F' → φ <+: φ' → Z p = none → Hs X.K X.mg (upd Z p o) F' φ' L' H' → MOk X.K F' φ' m o → Q (.ref p) H') → Wp X e σ H Q

/-- what a container holds -/
def Cont (K : PySem.W.Frag) (F : Hp) (φ : List Addr) (H : Hp) (w : W) (v : V) : Prop := R K F φ w v ∨ ∃ a o m, v = .ref a ∧ w = M.fz m ∧ H a = some o ∧ MOk K F φ m o
def cont (ρ : Ro) (L : Lg) : Hd → Option W
  | .own i => match ρ[i]? with
    | some (.ow m) => some m.fz
    | _ => none
  | .val (.ob j) => match L[j]? with
    | some (.box m) => some m.fz
    | _ => none
  | .val w => some w
theorem cont_ok {K : PySem.W.Frag} {mg : Str → Option Value} {Zx Z F : Hp} {φ : List Addr} {L : Lg} {H : Hp} {ρ : Ro} {σ : L2.St} {h : Hd} {v : V} {w : W} (hs : Hs K mg Z F φ L H) (ss : Ss K Zx Z F φ ρ σ) (hr : HR K F φ ρ σ h v) (e : cont ρ L h = some w) : Cont K F φ H w v := by
  cases h with
  | own i =>
    obtain ⟨hv, m, hm⟩ := hr
    simp only [cont, hm, Option.some.injEq] at e
    obtain ⟨a, o, h1, h2, h3, h4⟩ := ss.ow i m hm
    rw [hv] at h1
    simp at h1
    exact .inr ⟨a, o, m, h1, e.symm, (hs.ext a o h2).1, h4⟩
  | val w' =>
    cases w' with
    | ob j =>
      have hr : R K F φ (.ob j) v := hr
      cases hr with
      | ob hj =>
        simp only [cont] at e
        cases hL : L[j]? with
        | none => rw [hL] at e; cases e
        | some ob =>
          rw [hL] at e
          cases ob with
          | box m =>
            simp only [Option.some.injEq] at e
            obtain ⟨_, o, h1, h2⟩ := hs.objs j _ _ hL hj
            exact .inr ⟨_, o, m, rfl, e.symm, h1, h2⟩
          | ins c fs => cases e
          | dead => cases e
          | nd kvs => cases e
    | _ => simp only [cont, Option.some.injEq] at e; subst e; exact .inl hr

section
variable {X : Cx} {e a b : Expr} {es : List Expr} {pos : Pos}

theorem IE.mk' {f : EF} (h : ∀ {Zx Z F : Hp} {φ : List Addr} {L : Lg} {ρ : Ro} {σ : L2.St} {H : Hp} {w : W} {L' : Lg}, Hs X.K X.mg Z F φ L H → Ss X.K Zx Z F φ ρ σ → f ρ L = some (w, L') →
    ∀ Q : VK, (∀ (F' : Hp) (φ' : List Addr) (H' : Hp) (v : V), Sub F F' → φ <+: φ' → Hs X.K X.mg Z F' φ' L' H' → R X.K F' φ' w v → Q v H') → Wp X e σ H Q) : IE X e f := ⟨h⟩

/-! ### names and constants -/
def cVar (i : Nat) : EF := fun ρ L => match ρ[i]? with
  | some (.va w) => some (w, L)
  | _ => none
theorem ie_var (i : Nat) {x : Str} (hN : X.N[i]? = some x := by rfl) (hv : Vis X.env.scope x := by first | exact Or.inl rfl | exact Or.inr (Or.inl rfl) | exact Or.inr (Or.inr rfl)) (hd : (x == ("__debug__" : Str)) = false := by decide)
    (hcd : (x == ("__classdict__" : Str)) = false := by decide) : IE X (.Name x pos) (cVar i) := by
  refine ⟨fun {Zx Z F φ L ρ σ H w L'} hs ss h Q q => PE.wp (pe_var hN hv hd hcd) ?_⟩
  unfold cVar at h
  split at h
  · rename_i w' e
    simp only [Option.some.injEq, Prod.mk.injEq] at h
    obtain ⟨rfl, rfl⟩ := h
    obtain ⟨v, h1, h2⟩ := ss.va i _ e
    exact ⟨v, h1, q F φ H v (Sub.refl F) (List.prefix_refl φ) hs h2⟩
  · cases h
def cK (w : W) : EF := fun _ L => some (w, L)
theorem ie_k {w : W} {v : V} (h : PE X e (tC v)) (r : ∀ F φ, R X.K F φ w v) : IE X e (cK w) := by
  refine ⟨fun {Zx Z F φ L ρ σ H w L'} hs ss h' Q q => PE.wp h ?_⟩
  simp only [cK, Option.some.injEq, Prod.mk.injEq] at h'
  obtain ⟨rfl, rfl⟩ := h'
  exact q F φ H v (Sub.refl F) (List.prefix_refl φ) hs (r F φ)
theorem ie_int {i : Int} {j} : IE X (.Constant (.int i) j pos) (cK (.int i)) := ie_k pe_int fun _ _ => .int i
theorem ie_bl {i : Bool} {j} : IE X (.Constant (.bool i) j pos) (cK (.bl i)) := ie_k pe_bl fun _ _ => .bl i
theorem ie_str {i : Str} {j} : IE X (.Constant (.str i) j pos) (cK (.str i)) := ie_k pe_str fun _ _ => .str i
theorem ie_non {j} : IE X (.Constant .none j pos) (cK .non) := ie_k pe_non fun _ _ => .non

/-! ### two expressions in a row -/
/-- what a step on values does: from a described heap and described values -/
def Op2 (X : Cx) (r : R2) (g : W → W → Option W) : Prop := ∀ {Z F : Hp} {φ : List Addr} {L : Lg} {H : Hp} {x y w : W} {vx vy : V}, Hs X.K X.mg Z F φ L H → R X.K F φ x vx → R X.K F φ y vy → g x y = some w →
  ∀ Q : VK, (∀ (F' : Hp) (H' : Hp) (v : V), Sub F F' → Hs X.K X.mg Z F' φ L H' → R X.K F' φ w v → Q v H') → r vx vy H Q
def cOp (g : W → W → Option W) (fa fb : EF) : EF := fun ρ L => match fa ρ L with
  | none => none
  | some (x, L1) => match fb ρ L1 with
    | none => none
    | some (y, L2) => match g x y with
      | none => none
      | some w => some (w, L2)
/-- both parts, then r -/
theorem two {r : R2} {g : W → W → Option W} {fa fb : EF} (sg : Op2 X r g) (ha : IE X a fa) (hb : IE X b fb)
    {Zx Z F : Hp} {φ : List Addr} {L : Lg} {ρ : Ro} {σ : L2.St} {H : Hp} {w : W} {L' : Lg} (hs : Hs X.K X.mg Z F φ L H) (ss : Ss X.K Zx Z F φ ρ σ) (h : cOp g fa fb ρ L = some (w, L'))
    (Q : VK) (q : ∀ (F' : Hp) (φ' : List Addr) (H' : Hp) (v : V), Sub F F' → φ <+: φ' → Hs X.K X.mg Z F' φ' L' H' → R X.K F' φ' w v → Q v H') : tOp r (Wp X a) (Wp X b) σ H Q := by
  unfold cOp at h
  split at h
  · cases h
  rename_i x L1 e1
  split at h
  · cases h
  rename_i y L2 e2
  split at h
  · cases h
  rename_i w' e3
  simp only [Option.some.injEq, Prod.mk.injEq] at h
  obtain ⟨rfl, rfl⟩ := h
  refine ha.run hs ss e1 _ fun F1 φ1 H1 vx s1 p1 hs1 rx => ?_
  refine hb.run hs1 (ss.mono s1 p1) e2 _ fun F2 φ2 H2 vy s2 p2 hs2 ry => ?_
  refine sg hs2 (rx.mono s2 p2) ry e3 Q fun F3 H3 v s3 hs3 rv => ?_
  exact q F3 φ2 H3 v ((s1.trans s2).trans s3) (List.IsPrefix.trans p1 p2) hs3 rv
theorem ie_op {op : Operator} {r : R2} {g : W → W → Option W} {fa fb : EF} (ho : OpR X (binaryOp op) r) (sg : Op2 X r g) (ha : IE X a fa) (hb : IE X b fb) : IE X (.BinOp a op b pos) (cOp g fa fb) :=
  ⟨fun hs ss h Q q => PE.wp (pe_op ho wpE wpE) (two sg ha hb hs ss h Q q)⟩

theorem orR {f : Value → Value → Sem Value} {r r' : R2} (h : OpR X f r) (h' : OpR X f r') : OpR X f (fun x y H Q => r x y H Q ∨ r' x y H Q) := by
  intro pins s σ H x y v u Q I rx ry q
  rcases q with q | q
  · exact h pins s σ H x y v u Q I rx ry q
  · exact h' pins s σ H x y v u Q I rx ry q
theorem flat {Z F : Hp} {φ : List Addr} {L : Lg} {H : Hp} {w : W} {v : V} {Q : VK} (hs : Hs X.K X.mg Z F φ L H) (r : R X.K F φ w v) (q : ∀ (F' : Hp) (H' : Hp) (v : V), Sub F F' → Hs X.K X.mg Z F' φ L H' → R X.K F' φ w v → Q v H') : Q v H := q F H v (Sub.refl F) hs r
/-- a new frozen list or tuple -/
theorem newL {Z F : Hp} {φ : List Addr} {L : Lg} {H : Hp} {ws : List W} {vs : List V} {Q : VK} (hs : Hs X.K X.mg Z F φ L H) (r : Rs X.K F φ ws vs) (q : ∀ (F' : Hp) (H' : Hp) (v : V), Sub F F' → Hs X.K X.mg Z F' φ L H' → R X.K F' φ (.lst ws) v → Q v H') {p : Addr} (hp : H p = none) : Q (.ref p) (upd H p (.lst vs)) := by
  obtain ⟨h1, h2⟩ := hs.fresh_frozen (o := .lst vs) hp
  exact q _ _ _ h2 h1 (.lst upd_same (r.mono h2 (List.prefix_refl φ)))
theorem newT {Z F : Hp} {φ : List Addr} {L : Lg} {H : Hp} {ws : List W} {vs : List V} {Q : VK} (hs : Hs X.K X.mg Z F φ L H) (r : Rs X.K F φ ws vs) (q : ∀ (F' : Hp) (H' : Hp) (v : V), Sub F F' → Hs X.K X.mg Z F' φ L H' → R X.K F' φ (.tup ws) v → Q v H') {p : Addr} (hp : H p = none) : Q (.ref p) (upd H p (.tup vs)) := by
  obtain ⟨h1, h2⟩ := hs.fresh_frozen (o := .tup vs) hp
  exact q _ _ _ h2 h1 (.tup upd_same (r.mono h2 (List.prefix_refl φ)))

/-! ### arithmetic -/
def addW : W → W → Option W
  | .int i, .int j => some (.int (i + j))
  | .str a, .str b => if a.length + b.length ≤ 16777216 then some (.str (a ++ b)) else none
  | .lst a, .lst b => if a.length + b.length ≤ 16777216 then some (.lst (a ++ b)) else none
  | .tup a, .tup b => if a ≠ [] ∧ b ≠ [] ∧ a.length + b.length ≤ 16777216 then some (.tup (a ++ b)) else none
  | _, _ => none
theorem ie_add {fa fb : EF} (ha : IE X a fa) (hb : IE X b fb) : IE X (.BinOp a .Add b pos) (cOp addW fa fb) := by
  refine ie_op (orR op_add (orR op_add_str (orR op_cat op_catT))) (fun {Z F φ L H x y w vx vy} hs rx ry h Q q => ?_) ha hb
  unfold addW at h
  split at h
  · cases h; cases rx; cases ry
    exact .inl ⟨_, _, rfl, rfl, flat hs (.int _) q⟩
  · split at h
    · rename_i hz
      cases h; cases rx; cases ry
      exact .inr (.inl ⟨_, _, rfl, rfl, by rw [sizeLine_eq]; exact hz, flat hs (.str _) q⟩)
    · cases h
  · split at h
    · rename_i hz
      cases h
      cases rx with
      | lst h1 r1 =>
        cases ry with
        | lst h2 r2 =>
          exact .inr (.inr (.inl ⟨_, _, _, _, rfl, rfl, hs.sub _ _ h1, hs.sub _ _ h2, by rw [sizeLine_eq, ← r1.length, ← r2.length]; exact hz, fun p hp => newL hs (r1.append r2) q hp⟩))
    · cases h
  · split at h
    · rename_i hz
      obtain ⟨z1, z2, z3⟩ := hz
      cases h
      cases rx with
      | tup h1 r1 =>
        cases ry with
        | tup h2 r2 =>
          rename_i aa bb _ _ vs _ vs'
          have n1 : vs ≠ [] := fun e => by subst e; cases r1; exact z1 rfl
          have n2 : vs' ≠ [] := fun e => by subst e; cases r2; exact z2 rfl
          refine .inr (.inr (.inr ⟨_, _, _, _, rfl, rfl, h1.sq hs.sub, h2.sq hs.sub, n1, by rw [sizeLine_eq, ← r1.length, ← r2.length]; exact z3, fun e => absurd e n2, fun _ p hp => newT hs (r1.append r2) q hp⟩))
    · cases h
  · cases h
def subW : W → W → Option W
  | .int i, .int j => some (.int (i - j))
  | _, _ => none
theorem ie_sub {fa fb : EF} (ha : IE X a fa) (hb : IE X b fb) : IE X (.BinOp a .Sub b pos) (cOp subW fa fb) := by
  refine ie_op op_sub (fun {Z F φ L H x y w vx vy} hs rx ry h Q q => ?_) ha hb
  unfold subW at h
  split at h
  · cases h; cases rx; cases ry
    exact ⟨_, _, rfl, rfl, flat hs (.int _) q⟩
  · cases h
def mulW : W → W → Option W
  | .int i, .int j => if (-(2 ^ 64) < i ∧ i < 2 ^ 64) ∨ (-(2 ^ 64) < j ∧ j < 2 ^ 64) then some (.int (i * j)) else none
  | .lst a, .int k => if -(2 ^ 63) ≤ k ∧ k < 2 ^ 63 ∧ a.length * k.toNat ≤ 16777216 then some (.lst (List.replicate k.toNat a).flatten) else none
  | _, _ => none
def fdivW : W → W → Option W
  | .int i, .int j => if 0 < j ∧ j < 2 ^ 64 then some (.int (i / j)) else none
  | _, _ => none
theorem ie_fdiv {fa fb : EF} (ha : IE X a fa) (hb : IE X b fb) : IE X (.BinOp a .FloorDiv b pos) (cOp fdivW fa fb) := by
  refine ie_op op_fdivW (fun {Z F φ L H x y w vx vy} hs rx ry h Q q => ?_) ha hb
  unfold fdivW at h
  split at h
  · split at h
    · rename_i i j hz
      cases h; cases rx; cases ry
      exact ⟨_, _, rfl, rfl, wide_div hz.1 (b := 64) (by have := hz.2; omega) (by decide) (by decide), flat hs (.int _) q⟩
    · cases h
  · cases h
def modW : W → W → Option W
  | .int i, .int j => if 0 < j then some (.int (i % j)) else none
  | _, _ => none
theorem ie_mod {fa fb : EF} (ha : IE X a fa) (hb : IE X b fb) : IE X (.BinOp a .Mod b pos) (cOp modW fa fb) := by
  refine ie_op op_mod (fun {Z F φ L H x y w vx vy} hs rx ry h Q q => ?_) ha hb
  unfold modW at h
  split at h
  · split at h
    · rename_i i j hz
      cases h; cases rx; cases ry
      exact ⟨_, _, rfl, rfl, hz, flat hs (.int _) q⟩
    · cases h
  · cases h
def shlW : W → W → Option W
  | .int i, .int j => if 0 ≤ j ∧ j ≤ 1000000 ∧ i.natAbs < 2 ^ 64 then some (.int (i * 2 ^ j.toNat)) else none
  | _, _ => none
theorem ie_shl {fa fb : EF} (ha : IE X a fa) (hb : IE X b fb) : IE X (.BinOp a .LShift b pos) (cOp shlW fa fb) := by
  refine ie_op op_shl (fun {Z F φ L H x y w vx vy} hs rx ry h Q q => ?_) ha hb
  unfold shlW at h
  split at h
  · split at h
    · rename_i i j hz
      cases h; cases rx; cases ry
      exact ⟨_, _, rfl, rfl, hz, flat hs (.int _) q⟩
    · cases h
  · cases h
def shrW : W → W → Option W
  | .int i, .int j => if 0 ≤ j then some (.int (i / 2 ^ j.toNat)) else none
  | _, _ => none
theorem ie_shr {fa fb : EF} (ha : IE X a fa) (hb : IE X b fb) : IE X (.BinOp a .RShift b pos) (cOp shrW fa fb) := by
  refine ie_op op_shr (fun {Z F φ L H x y w vx vy} hs rx ry h Q q => ?_) ha hb
  unfold shrW at h
  split at h
  · split at h
    · rename_i i j hz
      cases h; cases rx; cases ry
      exact ⟨_, _, rfl, rfl, hz, flat hs (.int _) q⟩
    · cases h
  · cases h
def bandW : W → W → Option W
  | .int i, .int j => some (.int (Builtin.bitAnd i j))
  | _, _ => none
theorem ie_band {fa fb : EF} (ha : IE X a fa) (hb : IE X b fb) : IE X (.BinOp a .BitAnd b pos) (cOp bandW fa fb) := by
  refine ie_op op_and (fun {Z F φ L H x y w vx vy} hs rx ry h Q q => ?_) ha hb
  unfold bandW at h
  split at h
  · cases h; cases rx; cases ry
    exact ⟨_, _, rfl, rfl, flat hs (.int _) q⟩
  · cases h
theorem ie_mul {fa fb : EF} (ha : IE X a fa) (hb : IE X b fb) : IE X (.BinOp a .Mult b pos) (cOp mulW fa fb) := by
  refine ie_op (orR op_mul op_rep) (fun {Z F φ L H x y w vx vy} hs rx ry h Q q => ?_) ha hb
  unfold mulW at h
  split at h
  · split at h
    · rename_i i j hz
      cases h; cases rx; cases ry
      exact .inl ⟨_, _, rfl, rfl, hz, flat hs (.int _) q⟩
    · cases h
  · split at h
    · rename_i i k hz
      obtain ⟨z1, z2, z3⟩ := hz
      cases h; cases ry
      cases rx with
      | lst h1 r1 =>
        rename_i vs
        have rr : ∀ n, Rs X.K F φ (List.replicate n i).flatten (List.replicate n vs).flatten := fun n => by
          induction n with
          | zero => exact .nil
          | succ n ih => rw [List.replicate_succ, List.replicate_succ, List.flatten_cons, List.flatten_cons]; exact r1.append ih
        exact .inr ⟨_, _, _, rfl, rfl, hs.sub _ _ h1, z1, z2, by rw [sizeLine_eq, ← r1.length]; exact z3, fun p hp => newL hs (rr _) q hp⟩
    · cases h
  · cases h
/-- one expression, then a step -/
def Op1 (X : Cx) (r : V → Hp → VK → Prop) (g : W → Option W) : Prop := ∀ {Z F : Hp} {φ : List Addr} {L : Lg} {H : Hp} {x w : W} {vx : V}, Hs X.K X.mg Z F φ L H → R X.K F φ x vx → g x = some w →
  ∀ Q : VK, (∀ (F' : Hp) (H' : Hp) (v : V), Sub F F' → Hs X.K X.mg Z F' φ L H' → R X.K F' φ w v → Q v H') → r vx H Q
def cUn (g : W → Option W) (fa : EF) : EF := fun ρ L => match fa ρ L with
  | none => none
  | some (x, L1) => match g x with
    | none => none
    | some w => some (w, L1)
theorem ie_un {op : UnaryOp} {r : V → Hp → VK → Prop} {g : W → Option W} {fa : EF} (ho : UnR X (unaryOp op) r) (sg : Op1 X r g) (ha : IE X a fa) : IE X (.UnaryOp op a pos) (cUn g fa) := by
  refine ⟨fun {Zx Z F φ L ρ σ H w L'} hs ss h Q q => PE.wp (pe_un ho wpE) ?_⟩
  unfold cUn at h
  split at h
  · cases h
  rename_i x L1 e1
  split at h
  · cases h
  rename_i w' e3
  simp only [Option.some.injEq, Prod.mk.injEq] at h
  obtain ⟨rfl, rfl⟩ := h
  refine ha.run hs ss e1 _ fun F1 φ1 H1 vx s1 p1 hs1 rx => ?_
  exact sg hs1 rx e3 Q fun F3 H3 v s3 hs3 rv => q F3 φ1 H3 v (s1.trans s3) p1 hs3 rv
def negW : W → Option W
  | .int i => some (.int (-i))
  | _ => none
theorem ie_neg {fa : EF} (ha : IE X a fa) : IE X (.UnaryOp .USub a pos) (cUn negW fa) := by
  refine ie_un un_neg (fun {Z F φ L H x w vx} hs rx h Q q => ?_) ha
  unfold negW at h
  split at h
  · cases h; cases rx
    exact ⟨_, rfl, flat hs (.int _) q⟩
  · cases h
end
end Lf

set_option maxHeartbeats 4000000
/-! Lf, part C: comparisons, tests, arguments, displays, subscripts. -/
namespace Lf
open PySem PySem.Spec PyProof.Rows L2

/-! ### data -/
mutual
def toD : W → Option PyData
  | .non => some .none
  | .bl b => some (.bool b)
  | .int i => some (.int i)
  | .str s => some (.str s)
  | .lst xs => match toDs xs with
    | some ds => some (.list ds)
    | none => none
  | .tup xs => match toDs xs with
    | some ds => some (.tuple ds)
    | none => none
  | .ty _ => none
  | .kt _ => none
  | .dK _ => none
  | .dT _ => none
  | .ob _ => none
  | .scr _ => none
def toDs : List W → Option (List PyData)
  | [] => some []
  | x :: xs => match toD x, toDs xs with
    | some d, some ds => some (d :: ds)
    | _, _ => none
end
mutual
theorem R.dp {K : PySem.W.Frag} {F H : Hp} {φ : List Addr} (s : Sub F H) : ∀ {w : W} {v : V}, R K F φ w v → ∀ {d : PyData}, toD w = some d → Dp K H v d
  | _, _, .non, d, h => by simp only [toD, Option.some.injEq] at h; subst h; exact .non
  | _, _, .bl b, d, h => by simp only [toD, Option.some.injEq] at h; subst h; exact .bl b
  | _, _, .int i, d, h => by simp only [toD, Option.some.injEq] at h; subst h; exact .int i
  | _, _, .str x, d, h => by simp only [toD, Option.some.injEq] at h; subst h; exact .str x
  | _, _, .lst (ws := ws) e r, d, h => by
    simp only [toD] at h
    split at h
    · rename_i ds e2
      simp only [Option.some.injEq] at h; subst h
      exact .lst (SqL.of (s _ _ e)) (Rs.dp s r e2)
    · cases h
  | _, _, .tup (ws := ws) e r, d, h => by
    simp only [toD] at h
    split at h
    · rename_i ds e2
      simp only [Option.some.injEq] at h; subst h
      exact .tup (e.sq s) (Rs.dp s r e2)
    · cases h
  | _, _, .ty _, d, h => by simp only [toD] at h; cases h
  | _, _, .kt _ _, d, h => by simp only [toD] at h; cases h
  | _, _, .dK _ _ _, d, h => by simp only [toD] at h; cases h
  | _, _, .dT _ _ _, d, h => by simp only [toD] at h; cases h
  | _, _, .ob _, d, h => by simp only [toD] at h; cases h
  | _, _, .scr _, d, h => by simp only [toD] at h; cases h
theorem Rs.dp {K : PySem.W.Frag} {F H : Hp} {φ : List Addr} (s : Sub F H) : ∀ {ws : List W} {vs : List V}, Rs K F φ ws vs → ∀ {ds : List PyData}, toDs ws = some ds → DpAll K H vs ds
  | _, _, .nil, ds, h => by simp only [toDs, Option.some.injEq] at h; subst h; exact .nil
  | _, _, .cons r t, ds, h => by
    simp only [toDs] at h
    split at h
    · rename_i d ds' e1 e2
      simp only [Option.some.injEq] at h; subst h
      exact .cons (R.dp s r e1) (Rs.dp s t e2)
    · cases h
end

/-! ### comparisons -/
def cmpI (p : Int → Int → Bool) : W → W → Option W
  | .int i, .int j => some (.bl (p i j))
  | _, _ => none
def isNoneW : W → Bool
  | .non => true
  | _ => false
def isW : W → W → Option W
  | x, .non => some (.bl (isNoneW x))
  | _, _ => none
def isNotW : W → W → Option W
  | x, .non => some (.bl (!isNoneW x))
  | _, _ => none
def eqD (x y : W) : Option Bool := match toD x, toD y with
  | some d, some e => if SeqAt.shaped d = true ∧ SeqAt.shaped e = true then some (PyData.eqv d e) else none
  | _, _ => none
def eqB : W → W → Option Bool
  | .int i, .int j => some (decide (i = j))
  | .str i, .str j => some (decide (i = j))
  | .bl i, .bl j => some (decide (i = j))
  | x, y => eqD x y
def eqW (x y : W) : Option W := match eqB x y with
  | some b => some (.bl b)
  | none => none
def neW (x y : W) : Option W := match eqB x y with
  | some b => some (.bl (!b))
  | none => none
section
variable {X : Cx} {e a b c : Expr} {es : List Expr} {pos : Pos}
theorem op2_int {p : Int → Int → Bool} : Op2 X (rI0 fun i j => .bl (p i j)) (cmpI p) := by
  intro Z F φ L H x y w vx vy hs rx ry h Q q
  unfold cmpI at h
  split at h
  · cases h; cases rx; cases ry
    exact ⟨_, _, rfl, rfl, flat hs (.bl _) q⟩
  · cases h
theorem R.none_iff {K : PySem.W.Frag} {F : Hp} {φ : List Addr} {w : W} {v : V} (r : R K F φ w v) : decide (v = .non) = isNoneW w := by
  cases r <;> rfl
theorem op2_is : Op2 X (fun x y H Q => y = .non ∧ Q (.bl (decide (x = .non))) H) isW := by
  intro Z F φ L H x y w vx vy hs rx ry h Q q
  unfold isW at h
  split at h
  · cases h; cases ry
    refine ⟨rfl, ?_⟩
    rw [rx.none_iff]
    exact flat hs (.bl _) q
  · cases h
theorem op2_isnot : Op2 X (fun x y H Q => y = .non ∧ Q (.bl (!decide (x = .non))) H) isNotW := by
  intro Z F φ L H x y w vx vy hs rx ry h Q q
  unfold isNotW at h
  split at h
  · cases h; cases ry
    refine ⟨rfl, ?_⟩
    rw [rx.none_iff]
    exact flat hs (.bl _) q
  · cases h
theorem eqB_ok {K : PySem.W.Frag} {F H : Hp} {φ : List Addr} {x y : W} {vx vy : V} {k : Bool} (s : Sub F H) (rx : R K F φ x vx) (ry : R K F φ y vy) (h : eqB x y = some k) :
    (scal vx vy = true ∧ decide (vx = vy) = k) ∨ ∃ d e, Dp K H vx d ∧ Dp K H vy e ∧ SeqAt.shaped d = true ∧ SeqAt.shaped e = true ∧ PyData.eqv d e = k := by
  unfold eqB at h
  split at h
  · cases h; cases rx; cases ry; refine .inl ⟨rfl, ?_⟩; simp
  · cases h; cases rx; cases ry; refine .inl ⟨rfl, ?_⟩; simp
  · cases h; cases rx; cases ry; refine .inl ⟨rfl, ?_⟩; simp
  · unfold eqD at h
    split at h
    · split at h
      · rename_i d e' e1 e2 hz
        simp only [Option.some.injEq] at h
        exact .inr ⟨d, e', rx.dp s e1, ry.dp s e2, hz.1, hz.2, h⟩
      · cases h
    · cases h
theorem op2_eq : Op2 X (fun x y H Q => rEq x y H Q ∨ rEqD X.K x y H Q) eqW := by
  intro Z F φ L H x y w vx vy hs rx ry h Q q
  unfold eqW at h
  split at h
  · rename_i k hk
    cases h
    rcases eqB_ok hs.sub rx ry hk with ⟨h1, h2⟩ | ⟨d, e', h1, h2, h3, h4, h5⟩
    · exact .inl ⟨h1, by rw [h2]; exact flat hs (.bl _) q⟩
    · exact .inr ⟨d, e', h1, h2, h3, h4, by rw [h5]; exact flat hs (.bl _) q⟩
  · cases h
theorem op2_ne : Op2 X (fun x y H Q => rNe x y H Q ∨ rNeD X.K x y H Q) neW := by
  intro Z F φ L H x y w vx vy hs rx ry h Q q
  unfold neW at h
  split at h
  · rename_i k hk
    cases h
    rcases eqB_ok hs.sub rx ry hk with ⟨h1, h2⟩ | ⟨d, e', h1, h2, h3, h4, h5⟩
    · exact .inl ⟨h1, by rw [h2]; exact flat hs (.bl _) q⟩
    · exact .inr ⟨d, e', h1, h2, h3, h4, by rw [h5]; exact flat hs (.bl _) q⟩
  · cases h
theorem ie_cmp {op : CmpOp} {r : R2} {g : W → W → Option W} {fa fb : EF} (ho : OpR X (compareOp op) r) (sg : Op2 X r g) (ha : IE X a fa) (hb : IE X b fb) (hm : behindInMarks op b = false) : IE X (.Compare a [op] [b] pos) (cOp g fa fb) :=
  ⟨fun hs ss h Q q => PE.wp (pe_cmpR ho wpE wpE hm) (two sg ha hb hs ss h Q q)⟩
theorem ie_lt {fa fb : EF} (ha : IE X a fa) (hb : IE X b fb) : IE X (.Compare a [.Lt] [b] pos) (cOp (cmpI fun i j => decide (i < j)) fa fb) := ie_cmp op_lt op2_int ha hb (nomark _)
theorem ie_le {fa fb : EF} (ha : IE X a fa) (hb : IE X b fb) : IE X (.Compare a [.LtE] [b] pos) (cOp (cmpI fun i j => decide (i ≤ j)) fa fb) := ie_cmp op_le op2_int ha hb (nomark _)
theorem ie_gt {fa fb : EF} (ha : IE X a fa) (hb : IE X b fb) : IE X (.Compare a [.Gt] [b] pos) (cOp (cmpI fun i j => decide (j < i)) fa fb) := ie_cmp op_gt op2_int ha hb (nomark _)
theorem ie_ge {fa fb : EF} (ha : IE X a fa) (hb : IE X b fb) : IE X (.Compare a [.GtE] [b] pos) (cOp (cmpI fun i j => decide (j ≤ i)) fa fb) := ie_cmp op_ge op2_int ha hb (nomark _)
theorem ie_is {fa fb : EF} (ha : IE X a fa) (hb : IE X b fb) : IE X (.Compare a [.Is] [b] pos) (cOp isW fa fb) := ie_cmp op_isN op2_is ha hb (nomark _)
theorem ie_isnot {fa fb : EF} (ha : IE X a fa) (hb : IE X b fb) : IE X (.Compare a [.IsNot] [b] pos) (cOp isNotW fa fb) := ie_cmp op_notN op2_isnot ha hb (nomark _)
theorem ie_eq {fa fb : EF} (hu : X.A.units + 64 < cLine) (ha : IE X a fa) (hb : IE X b fb) : IE X (.Compare a [.Eq] [b] pos) (cOp eqW fa fb) := ie_cmp (orR op_eq (op_eqD hu)) op2_eq ha hb (nomark _)
theorem ie_ne {fa fb : EF} (hu : X.A.units + 64 < cLine) (ha : IE X a fa) (hb : IE X b fb) : IE X (.Compare a [.NotEq] [b] pos) (cOp neW fa fb) := ie_cmp (orR op_ne (op_neD hu)) op2_ne ha hb (nomark _)

/-! ### tests -/
/-- a value that is True or False, as a test -/
def asT (f : EF) : TF := fun ρ L => match f ρ L with
  | some (.bl k, L') => some (k, L')
  | _ => none
theorem asT_some {f : EF} {ρ : Ro} {L L' : Lg} {k : Bool} (h : asT f ρ L = some (k, L')) : f ρ L = some (.bl k, L') := by
  unfold asT at h
  split at h
  · rename_i k' L2 e
    simp only [Option.some.injEq, Prod.mk.injEq] at h
    obtain ⟨rfl, rfl⟩ := h
    exact e
  · cases h
theorem it_cmp {op : CmpOp} {r : R2} {g : W → W → Option W} {fa fb : EF} (ho : OpR X (compareOp op) r) (sg : Op2 X r g) (ha : IE X a fa) (hb : IE X b fb) (hm : behindInMarks op b = false) : IT X (.Compare a [op] [b] pos) (asT (cOp g fa fb)) := by
  refine ⟨fun {Zx Z F φ L ρ σ H w L'} hs ss h Q q => PT.wp (pt_cmpR ho wpE wpE hm) ?_⟩
  refine two sg ha hb hs ss (asT_some h) _ fun F' φ' H' v s1 p1 hs1 r1 => ?_
  cases r1
  exact ⟨w, rfl, q F' φ' H' s1 p1 hs1⟩
theorem it_lt {fa fb : EF} (ha : IE X a fa) (hb : IE X b fb) : IT X (.Compare a [.Lt] [b] pos) (asT (cOp (cmpI fun i j => decide (i < j)) fa fb)) := it_cmp op_lt op2_int ha hb (nomark _)
theorem it_le {fa fb : EF} (ha : IE X a fa) (hb : IE X b fb) : IT X (.Compare a [.LtE] [b] pos) (asT (cOp (cmpI fun i j => decide (i ≤ j)) fa fb)) := it_cmp op_le op2_int ha hb (nomark _)
theorem it_gt {fa fb : EF} (ha : IE X a fa) (hb : IE X b fb) : IT X (.Compare a [.Gt] [b] pos) (asT (cOp (cmpI fun i j => decide (j < i)) fa fb)) := it_cmp op_gt op2_int ha hb (nomark _)
theorem it_ge {fa fb : EF} (ha : IE X a fa) (hb : IE X b fb) : IT X (.Compare a [.GtE] [b] pos) (asT (cOp (cmpI fun i j => decide (j ≤ i)) fa fb)) := it_cmp op_ge op2_int ha hb (nomark _)
theorem it_is {fa fb : EF} (ha : IE X a fa) (hb : IE X b fb) : IT X (.Compare a [.Is] [b] pos) (asT (cOp isW fa fb)) := it_cmp op_isN op2_is ha hb (nomark _)
theorem it_isnot {fa fb : EF} (ha : IE X a fa) (hb : IE X b fb) : IT X (.Compare a [.IsNot] [b] pos) (asT (cOp isNotW fa fb)) := it_cmp op_notN op2_isnot ha hb (nomark _)
theorem it_eq {fa fb : EF} (hu : X.A.units + 64 < cLine) (ha : IE X a fa) (hb : IE X b fb) : IT X (.Compare a [.Eq] [b] pos) (asT (cOp eqW fa fb)) := it_cmp (orR op_eq (op_eqD hu)) op2_eq ha hb (nomark _)
theorem it_ne {fa fb : EF} (hu : X.A.units + 64 < cLine) (ha : IE X a fa) (hb : IE X b fb) : IT X (.Compare a [.NotEq] [b] pos) (asT (cOp neW fa fb)) := it_cmp (orR op_ne (op_neD hu)) op2_ne ha hb (nomark _)
theorem it_val {f : EF} (ha : IE X e f) (he : ∀ whole, isTrue e X.env whole = (do let v ← whole; standAt e.pos; holding [v] (truthy v)) := by intro _; rfl) : IT X e (asT f) := by
  refine ⟨fun {Zx Z F φ L ρ σ H w L'} hs ss h Q q => PT.wp (pt_val wpE he) ?_⟩
  refine ha.run hs ss (asT_some h) _ fun F' φ' H' v s1 p1 hs1 r1 => ?_
  cases r1
  exact ⟨w, rfl, q F' φ' H' s1 p1 hs1⟩
/-- truth -/
def truW : W → Option Bool
  | .non => some false
  | .bl b => some b
  | .int i => some (i != 0)
  | .str s => if s.length ≤ 16777216 then some ((s.length : Int) != 0) else none
  | .lst xs => some (!xs.isEmpty)
  | .tup xs => some (!xs.isEmpty)
  | _ => none
theorem Rs.empty {K : PySem.W.Frag} {F : Hp} {φ : List Addr} {ws : List W} {vs : List V} (r : Rs K F φ ws vs) : ws.isEmpty = vs.isEmpty := by cases r <;> rfl
theorem R.tru {K : PySem.W.Frag} {F H : Hp} {φ : List Addr} {w : W} {v : V} {k : Bool} (s : Sub F H) (r : R K F φ w v) (h : truW w = some k) : TruV K v H k := by
  cases r with
  | lst e rs => simp only [truW, Option.some.injEq] at h; exact .inl ⟨_, SqL.of (s _ _ e), by rw [← h, rs.empty]⟩
  | tup e rs => simp only [truW, Option.some.injEq] at h; exact .inr (.inl ⟨_, e.sq s, by rw [← h, rs.empty]⟩)
  | str x =>
    simp only [truW] at h
    split at h
    · simp only [Option.some.injEq] at h
      exact ⟨by rw [sizeLine_eq]; assumption, h.symm⟩
    · cases h
  | non => simp only [truW, Option.some.injEq] at h; exact h.symm
  | bl b => simp only [truW, Option.some.injEq] at h; exact h.symm
  | int b => simp only [truW, Option.some.injEq] at h; exact h.symm
  | _ => cases h
theorem Cont.tru {K : PySem.W.Frag} {F H : Hp} {φ : List Addr} {w : W} {v : V} {k : Bool} (s : Sub F H) (r : Cont K F φ H w v) (h : truW w = some k) : TruV K v H k := by
  rcases r with r | ⟨a, o, m, rfl, rfl, h1, h2⟩
  · exact r.tru s h
  · cases m with
    | lst xs =>
      cases o <;> first | exact h2.elim | skip
      rename_i vs
      simp only [M.fz, truW, Option.some.injEq] at h
      exact .inl ⟨_, SqL.of h1, by rw [← h, Rs.empty h2]⟩
    | dK xs => cases h
    | dT xs => cases h
def cTru (f : EF) : TF := fun ρ L => match f ρ L with
  | some (w, L') => match truW w with
    | some k => some (k, L')
    | none => none
  | none => none
theorem it_tru {f : EF} (ha : IE X e f) (he : ∀ whole, isTrue e X.env whole = (do let v ← whole; standAt e.pos; holding [v] (truthy v)) := by intro _; rfl) : IT X e (cTru f) := by
  refine ⟨fun {Zx Z F φ L ρ σ H w L'} hs ss h Q q => PT.wp (pt_truth wpE he) ?_⟩
  unfold cTru at h
  split at h
  · rename_i x L1 e1
    split at h
    · rename_i k e2
      simp only [Option.some.injEq, Prod.mk.injEq] at h
      obtain ⟨rfl, rfl⟩ := h
      exact ha.run hs ss e1 _ fun F' φ' H' v s1 p1 hs1 r1 => ⟨k, r1.tru hs1.sub e2, q F' φ' H' s1 p1 hs1⟩
    · cases h
  · cases h
def cTruO (f : OF) : TF := fun ρ L => match f ρ L with
  | some (w, L') => match cont ρ L' w with
    | some w => match truW w with
      | some k => some (k, L')
      | none => none
    | none => none
  | none => none
theorem it_truO {f : OF} (ha : IO X e f) (he : ∀ whole, isTrue e X.env whole = (do let v ← whole; standAt e.pos; holding [v] (truthy v)) := by intro _; rfl) : IT X e (cTruO f) := by
  refine ⟨fun {Zx Z F φ L ρ σ H w L'} hs ss h Q q => PT.wp (pt_truth wpE he) ?_⟩
  unfold cTruO at h
  split at h
  · rename_i x L1 e1
    split at h
    · rename_i w' e3
      split at h
      · rename_i k e2
        simp only [Option.some.injEq, Prod.mk.injEq] at h
        obtain ⟨rfl, rfl⟩ := h
        exact ha.run hs ss e1 _ fun F' φ' H' v s1 p1 hs1 r1 => ⟨k, (cont_ok hs1 (ss.mono s1 p1) r1 e3).tru hs1.sub e2, q F' φ' H' s1 p1 hs1⟩
      · cases h
    · cases h
  · cases h
def cNot (f : TF) : TF := fun ρ L => match f ρ L with
  | some (k, L') => some (!k, L')
  | none => none
theorem it_not {f : TF} (ha : IT X a f) : IT X (.UnaryOp .Not a pos) (cNot f) := by
  refine ⟨fun {Zx Z F φ L ρ σ H w L'} hs ss h Q q => PT.wp (pt_not wpT) ?_⟩
  unfold cNot at h
  split at h
  · rename_i k L1 e1
    simp only [Option.some.injEq, Prod.mk.injEq] at h
    obtain ⟨rfl, rfl⟩ := h
    exact ha.run hs ss e1 _ q
  · cases h
def cAnd (f g : TF) : TF := fun ρ L => match f ρ L with
  | some (true, L') => g ρ L'
  | some (false, L') => some (false, L')
  | none => none
def cOr (f g : TF) : TF := fun ρ L => match f ρ L with
  | some (true, L') => some (true, L')
  | some (false, L') => g ρ L'
  | none => none
theorem iw_and1 {f : TF} (ha : IT X a f) : IW X (.BoolOp .And [a] pos) f := ⟨fun hs ss h Q q => PW.wp (pw_and1 wpT) (ha.run hs ss h Q q)⟩
theorem iw_or1 {f : TF} (ha : IT X a f) : IW X (.BoolOp .Or [a] pos) f := ⟨fun hs ss h Q q => PW.wp (pw_or1 wpT) (ha.run hs ss h Q q)⟩
theorem iw_and {f g : TF} (ha : IT X a f) (hb : IW X (.BoolOp .And (b :: es) pos) g) : IW X (.BoolOp .And (a :: b :: es) pos) (cAnd f g) := by
  refine ⟨fun {Zx Z F φ L ρ σ H w L'} hs ss h Q q => PW.wp (pw_and wpT wpW) ?_⟩
  unfold cAnd at h
  split at h
  · rename_i L1 e1
    refine ha.run hs ss e1 _ fun F1 φ1 H1 s1 p1 hs1 => ?_
    rw [if_pos rfl]
    exact hb.run hs1 (ss.mono s1 p1) h Q fun F2 φ2 H2 s2 p2 hs2 => q F2 φ2 H2 (s1.trans s2) (List.IsPrefix.trans p1 p2) hs2
  · rename_i L1 e1
    simp only [Option.some.injEq, Prod.mk.injEq] at h
    obtain ⟨rfl, rfl⟩ := h
    refine ha.run hs ss e1 _ fun F1 φ1 H1 s1 p1 hs1 => ?_
    rw [if_neg (by decide)]
    exact q F1 φ1 H1 s1 p1 hs1
  · cases h
theorem iw_or {f g : TF} (ha : IT X a f) (hb : IW X (.BoolOp .Or (b :: es) pos) g) : IW X (.BoolOp .Or (a :: b :: es) pos) (cOr f g) := by
  refine ⟨fun {Zx Z F φ L ρ σ H w L'} hs ss h Q q => PW.wp (pw_or wpT wpW) ?_⟩
  unfold cOr at h
  split at h
  · rename_i L1 e1
    simp only [Option.some.injEq, Prod.mk.injEq] at h
    obtain ⟨rfl, rfl⟩ := h
    refine ha.run hs ss e1 _ fun F1 φ1 H1 s1 p1 hs1 => ?_
    rw [if_pos rfl]
    exact q F1 φ1 H1 s1 p1 hs1
  · rename_i L1 e1
    refine ha.run hs ss e1 _ fun F1 φ1 H1 s1 p1 hs1 => ?_
    rw [if_neg (by decide)]
    exact hb.run hs1 (ss.mono s1 p1) h Q fun F2 φ2 H2 s2 p2 hs2 => q F2 φ2 H2 (s1.trans s2) (List.IsPrefix.trans p1 p2) hs2
  · cases h
theorem IW.it {f : TF} (h : IW X e f) : IT X e f := ⟨fun hs ss e Q q => PT.wp (PW.pt wpW) (h.run hs ss e Q q)⟩
/-! and, or, not as values -/
def asE (f : TF) : EF := fun ρ L => match f ρ L with
  | some (k, L') => some (.bl k, L')
  | none => none
theorem asE_some {f : TF} {ρ : Ro} {L L' : Lg} {w : W} (h : asE f ρ L = some (w, L')) : ∃ k, w = .bl k ∧ f ρ L = some (k, L') := by
  unfold asE at h
  split at h
  · rename_i k L1 e
    simp only [Option.some.injEq, Prod.mk.injEq] at h
    obtain ⟨rfl, rfl⟩ := h
    exact ⟨k, rfl, e⟩
  · cases h
def cNotV (f : EF) : EF := fun ρ L => match f ρ L with
  | some (.bl k, L') => some (.bl (!k), L')
  | _ => none
theorem ie_not {f : EF} (ha : IE X a f) : IE X (.UnaryOp .Not a pos) (cNotV f) := by
  refine ⟨fun {Zx Z F φ L ρ σ H w L'} hs ss h Q q => PE.wp (pe_not wpE) ?_⟩
  unfold cNotV at h
  split at h
  · rename_i k L1 e1
    simp only [Option.some.injEq, Prod.mk.injEq] at h
    obtain ⟨rfl, rfl⟩ := h
    refine ha.run hs ss e1 _ fun F' φ' H' v s1 p1 hs1 r1 => ?_
    cases r1
    exact ⟨k, rfl, q F' φ' H' _ s1 p1 hs1 (.bl _)⟩
  · cases h
def cAndV (f g : EF) : EF := fun ρ L => match f ρ L with
  | some (.bl true, L') => g ρ L'
  | some (.bl false, L') => some (.bl false, L')
  | _ => none
def cOrV (f g : EF) : EF := fun ρ L => match f ρ L with
  | some (.bl true, L') => some (.bl true, L')
  | some (.bl false, L') => g ρ L'
  | _ => none
theorem ie_one {op} {f : EF} (ha : IE X a f) : IE X (.BoolOp op [a] pos) f := ⟨fun hs ss h Q q => PE.wp (pe_one wpE) (ha.run hs ss h Q q)⟩
theorem ie_and {f g : EF} (ha : IE X a f) (hb : IE X (.BoolOp .And (b :: es) pos) g) : IE X (.BoolOp .And (a :: b :: es) pos) (cAndV f g) := by
  refine ⟨fun {Zx Z F φ L ρ σ H w L'} hs ss h Q q => PE.wp (pe_and wpE wpE) ?_⟩
  unfold cAndV at h
  split at h
  · rename_i L1 e1
    refine ha.run hs ss e1 _ fun F1 φ1 H1 v s1 p1 hs1 r1 => ?_
    cases r1
    refine ⟨true, rfl, ?_⟩
    rw [if_pos rfl]
    exact hb.run hs1 (ss.mono s1 p1) h Q fun F2 φ2 H2 v s2 p2 hs2 => q F2 φ2 H2 v (s1.trans s2) (List.IsPrefix.trans p1 p2) hs2
  · rename_i L1 e1
    simp only [Option.some.injEq, Prod.mk.injEq] at h
    obtain ⟨rfl, rfl⟩ := h
    refine ha.run hs ss e1 _ fun F1 φ1 H1 v s1 p1 hs1 r1 => ?_
    cases r1
    refine ⟨false, rfl, ?_⟩
    rw [if_neg (by decide)]
    exact q F1 φ1 H1 _ s1 p1 hs1 (.bl _)
  · cases h
theorem ie_or {f g : EF} (ha : IE X a f) (hb : IE X (.BoolOp .Or (b :: es) pos) g) : IE X (.BoolOp .Or (a :: b :: es) pos) (cOrV f g) := by
  refine ⟨fun {Zx Z F φ L ρ σ H w L'} hs ss h Q q => PE.wp (pe_or wpE wpE) ?_⟩
  unfold cOrV at h
  split at h
  · rename_i L1 e1
    simp only [Option.some.injEq, Prod.mk.injEq] at h
    obtain ⟨rfl, rfl⟩ := h
    refine ha.run hs ss e1 _ fun F1 φ1 H1 v s1 p1 hs1 r1 => ?_
    cases r1
    refine ⟨true, rfl, ?_⟩
    rw [if_pos rfl]
    exact q F1 φ1 H1 _ s1 p1 hs1 (.bl _)
  · rename_i L1 e1
    refine ha.run hs ss e1 _ fun F1 φ1 H1 v s1 p1 hs1 r1 => ?_
    cases r1
    refine ⟨false, rfl, ?_⟩
    rw [if_neg (by decide)]
    exact hb.run hs1 (ss.mono s1 p1) h Q fun F2 φ2 H2 v s2 p2 hs2 => q F2 φ2 H2 v (s1.trans s2) (List.IsPrefix.trans p1 p2) hs2
  · cases h
def cIf (t : TF) (f g : EF) : EF := fun ρ L => match t ρ L with
  | some (true, L') => f ρ L'
  | some (false, L') => g ρ L'
  | none => none
theorem ie_if {t : TF} {f g : EF} (hc : IT X c t) (ha : IE X a f) (hb : IE X b g) : IE X (.IfExp c a b pos) (cIf t f g) := by
  refine ⟨fun {Zx Z F φ L ρ σ H w L'} hs ss h Q q => PE.wp (pe_ifExp wpT wpE wpE) ?_⟩
  unfold cIf at h
  split at h
  · rename_i L1 e1
    refine hc.run hs ss e1 _ fun F1 φ1 H1 s1 p1 hs1 => ?_
    rw [if_pos rfl]
    exact ha.run hs1 (ss.mono s1 p1) h Q fun F2 φ2 H2 v s2 p2 hs2 => q F2 φ2 H2 v (s1.trans s2) (List.IsPrefix.trans p1 p2) hs2
  · rename_i L1 e1
    refine hc.run hs ss e1 _ fun F1 φ1 H1 s1 p1 hs1 => ?_
    rw [if_neg (by decide)]
    exact hb.run hs1 (ss.mono s1 p1) h Q fun F2 φ2 H2 v s2 p2 hs2 => q F2 φ2 H2 v (s1.trans s2) (List.IsPrefix.trans p1 p2) hs2
  · cases h

/-! ### arguments, displays -/
def cNil : AF := fun _ L => some ([], L)
def cCons (f : EF) (g : AF) : AF := fun ρ L => match f ρ L with
  | none => none
  | some (w, L1) => match g ρ L1 with
    | none => none
    | some (ws, L2) => some (w :: ws, L2)
theorem ia_nil : IA X [] cNil := by
  refine ⟨fun {Zx Z F φ L ρ σ H w L'} hs ss h Q q => PA.wp pa_nil ?_⟩
  simp only [cNil, Option.some.injEq, Prod.mk.injEq] at h
  obtain ⟨rfl, rfl⟩ := h
  exact q F φ H [] (Sub.refl F) (List.prefix_refl φ) hs .nil
theorem ia_cons {f : EF} {g : AF} (ha : IE X e f) (hr : IA X es g) (hs' : starEach (e :: es) X.env = (false, eval e X.env) :: starEach es X.env := by rfl) : IA X (e :: es) (cCons f g) := by
  refine ⟨fun {Zx Z F φ L ρ σ H w L'} hs ss h Q q => PA.wp (pa_cons wpE wpA hs') ?_⟩
  unfold cCons at h
  split at h
  · cases h
  rename_i x L1 e1
  split at h
  · cases h
  rename_i xs L2 e2
  simp only [Option.some.injEq, Prod.mk.injEq] at h
  obtain ⟨rfl, rfl⟩ := h
  refine ha.run hs ss e1 _ fun F1 φ1 H1 v s1 p1 hs1 r1 => ?_
  exact hr.run hs1 (ss.mono s1 p1) e2 _ fun F2 φ2 H2 vs s2 p2 hs2 r2 => q F2 φ2 H2 (v :: vs) (s1.trans s2) (List.IsPrefix.trans p1 p2) hs2 (.cons (r1.mono s2 p2) r2)
def cTup (g : AF) : EF := fun ρ L => match g ρ L with
  | none => none
  | some (ws, L1) => if ws.length ≤ 1000 then some (.tup ws, L1) else none
theorem ie_tup {g : AF} {k} (h : IA X es g) : IE X (.Tuple es k pos) (cTup g) := by
  refine ⟨fun {Zx Z F φ L ρ σ H w L'} hs ss h' Q q => PE.wp (pe_tup wpA) ?_⟩
  unfold cTup at h'
  split at h'
  · cases h'
  rename_i ws L1 e1
  split at h'
  · rename_i hz
    simp only [Option.some.injEq, Prod.mk.injEq] at h'
    obtain ⟨rfl, rfl⟩ := h'
    refine h.run hs ss e1 _ fun F1 φ1 H1 vs s1 p1 hs1 r1 => ⟨by rw [← r1.length, sizeLine_eq]; omega, fun p hp => ?_⟩
    exact newT (Q := Q) hs1 r1 (fun F' H' v s2 hs2 r2 => q F' φ1 H' v (s1.trans s2) p1 hs2 r2) hp
  · cases h'
def cLst (g : AF) : NF := fun ρ L => match g ρ L with
  | none => none
  | some (ws, L1) => if ws.length ≤ 1000 then some (.lst ws, L1) else none
theorem in_lst {g : AF} (h : IA X es g) : IN X (.List es pos) (cLst g) := by
  refine ⟨fun {Zx Z F φ L ρ σ H w L'} hs ss h' Q q => PE.wp (pe_lst wpA) ?_⟩
  unfold cLst at h'
  split at h'
  · cases h'
  rename_i ws L1 e1
  split at h'
  · rename_i hz
    simp only [Option.some.injEq, Prod.mk.injEq] at h'
    obtain ⟨rfl, rfl⟩ := h'
    refine h.run hs ss e1 _ fun F1 φ1 H1 vs s1 p1 hs1 r1 => ⟨by rw [← r1.length, sizeLine_eq]; omega, fun p hp => ?_⟩
    exact q F1 φ1 _ p (.lst vs) s1 p1 (hs1.free hp).2.1 (hs1.fresh hp) r1
  · cases h'
theorem in_dictK : IN X (.Dict [] [] pos) (fun _ L => some (.dK [], L)) := by
  refine ⟨fun {Zx Z F φ L ρ σ H w L'} hs ss h' Q q => PE.wp pe_dnewK fun p hp => ?_⟩
  simp only [Option.some.injEq, Prod.mk.injEq] at h'
  obtain ⟨rfl, rfl⟩ := h'
  exact q F φ _ p (.dK []) (Sub.refl F) (List.prefix_refl φ) (hs.free hp).2.1 (hs.fresh hp) ⟨rfl, .nil⟩
theorem in_dictT : IN X (.Dict [] [] pos) (fun _ L => some (.dT [], L)) := by
  refine ⟨fun {Zx Z F φ L ρ σ H w L'} hs ss h' Q q => PE.wp pe_dnewT fun p hp => ?_⟩
  simp only [Option.some.injEq, Prod.mk.injEq] at h'
  obtain ⟨rfl, rfl⟩ := h'
  exact q F φ _ p (.dT []) (Sub.refl F) (List.prefix_refl φ) (hs.free hp).2.1 (hs.fresh hp) ⟨rfl, .nil⟩
/-- a new thing, frozen at once -/
def cFz (f : NF) : EF := fun ρ L => match f ρ L with
  | none => none
  | some (m, L') => some (m.fz, L')
theorem IN.fz {f : NF} (h : IN X e f) : IE X e (cFz f) := by
  refine ⟨fun {Zx Z F φ L ρ σ H w L'} hs ss h' Q q => ?_⟩
  unfold cFz at h'
  split at h'
  · cases h'
  rename_i m L1 e1
  simp only [Option.some.injEq, Prod.mk.injEq] at h'
  obtain ⟨rfl, rfl⟩ := h'
  refine h.run hs ss e1 Q fun F1 φ1 H1 p o s1 p1 z hs1 m1 => ?_
  obtain ⟨h1, h2⟩ := hs1.freeze z
  exact q _ φ1 H1 _ (s1.trans h2) p1 h1 ((m1.mono h2 (List.prefix_refl φ1)).fz upd_same)
/-- a new thing, numbered -/
def cBox (f : NF) : EF := fun ρ L => match f ρ L with
  | none => none
  | some (m, L') => some (.ob L'.length, L' ++ [.box m])
theorem IN.box {f : NF} (h : IN X e f) : IE X e (cBox f) := by
  refine ⟨fun {Zx Z F φ L ρ σ H w L'} hs ss h' Q q => ?_⟩
  unfold cBox at h'
  split at h'
  · cases h'
  rename_i m L1 e1
  simp only [Option.some.injEq, Prod.mk.injEq] at h'
  obtain ⟨rfl, rfl⟩ := h'
  refine h.run hs ss e1 Q fun F1 φ1 H1 p o s1 p1 z hs1 m1 => ?_
  refine q F1 (φ1 ++ [p]) H1 _ s1 (List.IsPrefix.trans p1 (List.prefix_append _ _)) (hs1.box z m1) (.ob ?_)
  rw [← hs1.len, List.getElem?_append_right (Nat.le_refl _)]; simp

/-! ### containers in their places -/
def cOf (f : EF) : OF := fun ρ L => match f ρ L with
  | none => none
  | some (w, L') => some (.val w, L')
theorem IE.io {f : EF} (h : IE X e f) : IO X e (cOf f) := by
  refine ⟨fun {Zx Z F φ L ρ σ H w L'} hs ss h' Q q => ?_⟩
  unfold cOf at h'
  split at h'
  · cases h'
  rename_i m L1 e1
  simp only [Option.some.injEq, Prod.mk.injEq] at h'
  obtain ⟨rfl, rfl⟩ := h'
  exact h.run hs ss e1 Q q
def cOwn (i : Nat) : OF := fun ρ L => match ρ[i]? with
  | some (.ow _) => some (.own i, L)
  | _ => none
theorem io_own (i : Nat) {x : Str} (hN : X.N[i]? = some x := by rfl) (hv : Vis X.env.scope x := by first | exact Or.inl rfl | exact Or.inr (Or.inl rfl) | exact Or.inr (Or.inr rfl)) (hd : (x == ("__debug__" : Str)) = false := by decide)
    (hcd : (x == ("__classdict__" : Str)) = false := by decide) : IO X (.Name x pos) (cOwn i) := by
  refine ⟨fun {Zx Z F φ L ρ σ H w L'} hs ss h Q q => PE.wp (pe_var hN hv hd hcd) ?_⟩
  unfold cOwn at h
  split at h
  · rename_i m e
    simp only [Option.some.injEq, Prod.mk.injEq] at h
    obtain ⟨rfl, rfl⟩ := h
    obtain ⟨a, o, h1, h2, h3, h4⟩ := ss.ow i m e
    exact ⟨.ref a, h1, q F φ H _ (Sub.refl F) (List.prefix_refl φ) hs ⟨h1, m, e⟩⟩
  · cases h

/-! ### subscripts -/
def cIx (g : W → W → Option W) (fo : OF) (fi : EF) : EF := fun ρ L => match fo ρ L with
  | none => none
  | some (h, L1) => match fi ρ L1 with
    | none => none
    | some (i, L2) => match cont ρ L2 h with
      | none => none
      | some w => match g w i with
        | none => none
        | some r => some (r, L2)
def ixW : W → W → Option W
  | .lst xs, .int i => atI xs i
  | .tup xs, .int i => atI xs i
  | .kt xs, .int i => atI xs i
  | .str s, .int i => if s.length ≤ 16777216 then (match atI s.cps.toList i with
    | some c => some (.str ⟨#[c]⟩)
    | none => none) else none
  | .scr ns, .int i => match atI ns i with
    | some n => some (.int n)
    | none => none
  | _, _ => none
theorem Rs.at {K : PySem.W.Frag} {F : Hp} {φ : List Addr} {ws : List W} {vs : List V} {i : Int} {w : W} (r : Rs K F φ ws vs) (h : atI ws i = some w) : ∃ v, atI vs i = some v ∧ R K F φ w v := by
  unfold atI at h ⊢
  rw [← r.length]
  cases e : ixN ws.length i with
  | none => rw [e] at h; cases h
  | some j =>
    rw [e] at h
    obtain ⟨v, h1, h2⟩ := r.get (i := j) h
    exact ⟨v, h1, h2⟩
theorem atI_map {α β : Type} (f : α → β) (xs : List α) (i : Int) : atI (xs.map f) i = (atI xs i).map f := by
  unfold atI
  rw [List.length_map]
  cases ixN xs.length i <;> simp
theorem ie_ix {fo : OF} {fi : EF} (hc : IO X a fo) (hi : IE X b fi) (hs' : PlainIx b := by intro _ _; rfl) : IE X (.Subscript a b pos) (cIx ixW fo fi) := by
  refine ⟨fun {Zx Z F φ L ρ σ H w L'} hs ss h Q q => PE.wp (pe_ix ix_seq wpE wpE hs') ?_⟩
  unfold cIx at h
  split at h
  · cases h
  rename_i hd L1 e1
  split at h
  · cases h
  rename_i i L2 e2
  split at h
  · cases h
  rename_i w0 e3
  split at h
  · cases h
  rename_i r e4
  simp only [Option.some.injEq, Prod.mk.injEq] at h
  obtain ⟨rfl, rfl⟩ := h
  refine hc.run hs ss e1 _ fun F1 φ1 H1 vo s1 p1 hs1 r1 => ?_
  refine hi.run hs1 (ss.mono s1 p1) e2 _ fun F2 φ2 H2 vi s2 p2 hs2 r2 => ?_
  have r1' : HR X.K F2 φ2 ρ σ hd vo := by
    cases hd with
    | val w => exact R.mono s2 p2 r1
    | own i => exact r1
  have s12 := s1.trans s2
  have p12 := List.IsPrefix.trans p1 p2
  have fin : ∀ v, R X.K F2 φ2 r v → Q v H2 := fun v rv => q F2 φ2 H2 v s12 p12 hs2 rv
  show rIx X.K vo vi H2 Q
  rcases cont_ok hs2 (ss.mono s12 p12) r1' e3 with rc | ⟨aa, o, m, rfl, rfl, ha, hm⟩
  · unfold ixW at e4
    split at e4
    · cases r2
      cases rc with
      | lst h1 h2 =>
        obtain ⟨v, k1, k2⟩ := h2.at e4
        exact .inl ⟨_, _, _, v, rfl, rfl, SqL.of (hs2.sub _ _ h1), k1, fin v k2⟩
    · cases r2
      cases rc with
      | tup h1 h2 =>
        obtain ⟨v, k1, k2⟩ := h2.at e4
        exact .inr (.inl ⟨_, _, _, v, rfl, rfl, h1.sq hs2.sub, k1, fin v k2⟩)
    · cases r2
      cases rc with
      | kt h1 h2 =>
        obtain ⟨v, k1, k2⟩ := h2.at e4
        exact .inr (.inl ⟨_, _, _, v, rfl, rfl, h1.sq, k1, fin v k2⟩)
    · cases r2
      cases rc
      split at e4
      · split at e4
        · rename_i hz _ c hc'
          simp only [Option.some.injEq] at e4
          subst e4
          exact .inr (.inr ⟨_, _, c, rfl, rfl, by rw [sizeLine_eq]; exact hz, hc', fin _ (.str _)⟩)
        · cases e4
      · cases e4
    · cases r2
      cases rc with
      | scr h1 =>
        split at e4
        · rename_i n hn
          simp only [Option.some.injEq] at e4
          subst e4
          exact .inl ⟨_, _, _, .int n, rfl, rfl, SqL.mono hs2.sub h1, by rw [atI_map, hn]; rfl, fin _ (.int _)⟩
        · cases e4
    · cases e4
  · cases m with
    | lst xs =>
      cases o <;> first | exact hm.elim | skip
      rename_i vs
      unfold ixW at e4
      simp only [M.fz] at e4
      split at e4
      · rename_i e5
        cases e5
        cases r2
        obtain ⟨v, k1, k2⟩ := Rs.at hm e4
        exact .inl ⟨_, _, _, v, rfl, rfl, SqL.of ha, k1, fin v k2⟩
      all_goals first | (rename_i e5; cases e5) | cases e4
    | dK xs => cases e4
    | dT xs => cases e4
end
end Lf

set_option maxHeartbeats 4000000
/-! Lf, part D: targets, what is walked, list comprehensions, statements, defs. -/
namespace Lf
open PySem PySem.Spec PyProof.Rows L2

def WpG (X : Cx) (tg : Expr) : TG := fun v σ H Q => ∀ (pins : List (Addr × Obj)) (s : Shared) (u : Value), Inv X pins σ H s → RelV v u → wpAny (model X.prog X.w) X.A (assign tg X.env u) (fun _ s' => ∃ σ' H', Inv X pins σ' H' s' ∧ Q σ' H') X.xe s
theorem wpG {X : Cx} {tg : Expr} : PG X tg (WpG X tg) := ⟨fun pins s σ H v u Q I r h => h pins s u I r⟩
theorem PG.wp {X : Cx} {tg : Expr} {t : TG} (h : PG X tg t) {v : V} {σ : L2.St} {H : Hp} {Q : L2.St → Hp → Prop} (q : t v σ H Q) : WpG X tg v σ H Q := fun pins s u I r => h.run pins s σ H v u Q I r q
def WpGs (X : Cx) (ts : List Expr) : TGs := fun vs σ H Q => ∀ (pins : List (Addr × Obj)) (s : Shared) (us : List Value), Inv X pins σ H s → Vals vs us → wpAny (model X.prog X.w) X.A (assignInOrder ((assignEach ts X.env).map (·.2)) us) (fun _ s' => ∃ σ' H', Inv X pins σ' H' s' ∧ Q σ' H') X.xe s
theorem wpGs {X : Cx} {ts : List Expr} : PGs X ts (WpGs X ts) := ⟨fun pins s σ H vs us Q I r h => h pins s us I r⟩
theorem PGs.wp {X : Cx} {ts : List Expr} {t : TGs} (h : PGs X ts t) {vs : List V} {σ : L2.St} {H : Hp} {Q : L2.St → Hp → Prop} (q : t vs σ H Q) : WpGs X ts vs σ H Q := fun pins s us I r => h.run pins s σ H vs us Q I r q
def WpI (X : Cx) (tg iter : Expr) : TI := fun σ H R => ∀ (pins : List (Addr × Obj)) (s : Shared), Inv X pins σ H s →
    wpAny (model X.prog X.w) X.A (eval iter X.env) (fun v s1 => wpAny (model X.prog X.w) X.A (pyIter v) (PIE X pins σ tg R) X.xe s1) X.xe s
theorem wpI {X : Cx} {tg iter : Expr} : PI X tg iter (WpI X tg iter) := ⟨fun pins s σ H R I h => h pins s I⟩
theorem PI.wp {X : Cx} {tg iter : Expr} {wi : TI} (h : PI X tg iter wi) {σ : L2.St} {H : Hp} {R : It → Hp → Prop} (q : wi σ H R) : WpI X tg iter σ H R := fun pins s I => h.run pins s σ H R I q

/-! ### slots set -/
theorem wipe_get (σ : L2.St) : ∀ (vs : List Nat) (j : Nat), (wipe σ vs)[j]? = if j ∈ vs then (σ[j]?).map (fun _ => none) else σ[j]?
  | [], j => by simp [wipe]
  | v :: vs, j => by
    unfold wipe
    rw [List.getElem?_set, wipe_length, wipe_get σ vs j]
    by_cases h : v = j
    · subst h
      simp only [if_true, List.mem_cons, true_or]
      by_cases hl : v < σ.length
      · rw [if_pos hl, List.getElem?_eq_getElem hl]; rfl
      · rw [if_neg hl, List.getElem?_eq_none (by omega)]; rfl
    · have h' : ¬ j = v := fun e => h e.symm
      simp only [if_neg h, List.mem_cons, h', false_or]
theorem wipe_set {σ : L2.St} {vs : List Nat} {i : Nat} {x : Option V} (h : i ∈ vs) : wipe (σ.set i x) vs = wipe σ vs := by
  apply List.ext_getElem?
  intro j
  rw [wipe_get, wipe_get]
  by_cases hj : j ∈ vs
  · rw [if_pos hj, if_pos hj, List.getElem?_set]
    by_cases e : i = j
    · subst e
      by_cases hl : i < σ.length
      · simp [hl]
      · simp [hl]
    · simp [e]
  · have e : ¬ i = j := fun e => hj (e ▸ h)
    rw [if_neg hj, if_neg hj, List.getElem?_set]
    simp [e]
theorem wipe_wipe (σ : L2.St) (vs : List Nat) : wipe (wipe σ vs) vs = wipe σ vs := by
  apply List.ext_getElem?
  intro j
  rw [wipe_get, wipe_get]
  by_cases hj : j ∈ vs
  · rw [if_pos hj, if_pos hj]; cases σ[j]? <;> rfl
  · rw [if_neg hj, if_neg hj]
def wipeR (ρ : Ro) (vs : List Nat) : Ro := vs.foldr (fun v r => r.set v .un) ρ
theorem wipeR_get (ρ : Ro) : ∀ (vs : List Nat) (j : Nat), (wipeR ρ vs)[j]? = if j ∈ vs then (ρ[j]?).map (fun _ => .un) else ρ[j]?
  | [], j => by simp [wipeR]
  | v :: vs, j => by
    have ih := wipeR_get ρ vs j
    have hl : (wipeR ρ vs).length = ρ.length := by
      clear ih
      induction vs with
      | nil => rfl
      | cons a r ih => show ((wipeR ρ r).set a .un).length = _; rw [List.length_set, ih]
    show ((wipeR ρ vs).set v .un)[j]? = _
    rw [List.getElem?_set, hl, ih]
    by_cases h : v = j
    · subst h
      simp only [if_true, List.mem_cons, true_or]
      by_cases hl : v < ρ.length
      · rw [if_pos hl, List.getElem?_eq_getElem hl]; rfl
      · rw [if_neg hl, List.getElem?_eq_none (by omega)]; rfl
    · have h' : ¬ j = v := fun e => h e.symm
      simp only [if_neg h, List.mem_cons, h', false_or]
theorem wipeR_length (ρ : Ro) : ∀ vs : List Nat, (wipeR ρ vs).length = ρ.length
  | [] => rfl
  | v :: vs => by show ((wipeR ρ vs).set v .un).length = _; rw [List.length_set, wipeR_length ρ vs]
section
variable {K : PySem.W.Frag} {Zx Z F : Hp} {φ : List Addr} {ρ : Ro} {σ : L2.St}
theorem Ss.wiped (h : Ss K Zx Z F φ ρ σ) (vs : List Nat) : Ss K Zx Z F φ (wipeR ρ vs) (wipe σ vs) := by
  have key : ∀ {i : Nat} {x : Sl}, (wipeR ρ vs)[i]? = some x → x ≠ .un → i ∉ vs ∧ ρ[i]? = some x := fun {i x} e n => by
    rw [wipeR_get] at e
    by_cases hi : i ∈ vs
    · rw [if_pos hi] at e
      cases q : ρ[i]? with
      | none => rw [q] at e; cases e
      | some y => rw [q] at e; simp at e; exact absurd e.symm n
    · rw [if_neg hi] at e; exact ⟨hi, e⟩
  refine ⟨by rw [wipeR_length, wipe_length, h.len], fun i w e => ?_, fun i m e => ?_, fun i j m m' a e1 e2 e3 e4 => ?_, h.out⟩
  · obtain ⟨hi, e'⟩ := key e (fun z => by cases z)
    obtain ⟨v, h1, h2⟩ := h.va i w e'
    exact ⟨v, by rw [wipe_get, if_neg hi]; exact h1, h2⟩
  · obtain ⟨hi, e'⟩ := key e (fun z => by cases z)
    obtain ⟨a, o, h1, h2⟩ := h.ow i m e'
    exact ⟨a, o, by rw [wipe_get, if_neg hi]; exact h1, h2⟩
  · obtain ⟨hi, e1'⟩ := key e1 (fun z => by cases z)
    obtain ⟨hj, e2'⟩ := key e2 (fun z => by cases z)
    rw [wipe_get, if_neg hi] at e3
    rw [wipe_get, if_neg hj] at e4
    exact h.sep i j m m' a e1' e2' e3 e4
theorem Ss.setva {i : Nat} {w : W} {v : V} (h : Ss K Zx Z F φ ρ σ) (hi : i < ρ.length) (r : R K F φ w v) : Ss K Zx Z F φ (ρ.set i (.va w)) (σ.set i (some v)) := by
  have hi' : i < σ.length := by rw [← h.len]; exact hi
  refine ⟨by simp [h.len], fun j w' e => ?_, fun j m e => ?_, fun j k m m' a e1 e2 e3 e4 => ?_, h.out⟩
  · by_cases q : i = j
    · subst q
      rw [List.getElem?_set_self hi] at e; cases e
      exact ⟨v, by rw [List.getElem?_set_self hi'], r⟩
    · rw [List.getElem?_set_ne q] at e ⊢; exact h.va j w' e
  · by_cases q : i = j
    · subst q; rw [List.getElem?_set_self hi] at e; cases e
    · rw [List.getElem?_set_ne q] at e ⊢; exact h.ow j m e
  · by_cases q : i = j
    · subst q; rw [List.getElem?_set_self hi] at e1; cases e1
    · by_cases q' : i = k
      · subst q'; rw [List.getElem?_set_self hi] at e2; cases e2
      · rw [List.getElem?_set_ne q] at e1 e3
        rw [List.getElem?_set_ne q'] at e2 e4
        exact h.sep j k m m' a e1 e2 e3 e4
/-- a slot takes a new thing -/
theorem Ss.setow {i : Nat} {m : M} {p : Addr} {o : HO} (h : Ss K Zx Z F φ ρ σ) (hi : i < ρ.length) (hz : Z p = none) (r : MOk K F φ m o) : Ss K Zx (upd Z p o) F φ (ρ.set i (.ow m)) (σ.set i (some (.ref p))) := by
  have hi' : i < σ.length := by rw [← h.len]; exact hi
  have hx : Zx p = none := by
    cases e : Zx p with
    | none => rfl
    | some u => rw [h.out p u e] at hz; cases hz
  have no : ∀ {j : Nat} {m' : M}, ρ[j]? = some (.ow m') → σ[j]? ≠ some (some (.ref p)) := fun {j m'} e e' => by
    obtain ⟨a, u, h1, h2, _⟩ := h.ow j m' e
    rw [e'] at h1; cases h1
    rw [hz] at h2; cases h2
  refine ⟨by simp [h.len], fun j w' e => ?_, fun j m' e => ?_, fun j k m1 m2 a e1 e2 e3 e4 => ?_, fun a u e => ?_⟩
  · by_cases q : i = j
    · subst q; rw [List.getElem?_set_self hi] at e; cases e
    · rw [List.getElem?_set_ne q] at e ⊢; exact h.va j w' e
  · by_cases q : i = j
    · subst q
      rw [List.getElem?_set_self hi] at e; cases e
      exact ⟨p, o, by rw [List.getElem?_set_self hi'], upd_same, hx, r⟩
    · rw [List.getElem?_set_ne q] at e ⊢
      obtain ⟨a, u, h1, h2, h3, h4⟩ := h.ow j m' e
      exact ⟨a, u, h1, by rw [upd_ne (ne_of_none h2 hz)]; exact h2, h3, h4⟩
  · by_cases q : i = j
    · subst q
      rw [List.getElem?_set_self hi'] at e3; simp at e3; subst e3
      by_cases q' : i = k
      · exact q'
      · rw [List.getElem?_set_ne q'] at e2 e4
        exact absurd e4 (no e2)
    · rw [List.getElem?_set_ne q] at e1 e3
      by_cases q' : i = k
      · subst q'
        rw [List.getElem?_set_self hi'] at e4; simp at e4; subst e4
        exact absurd e3 (no e1)
      · rw [List.getElem?_set_ne q'] at e2 e4
        exact h.sep j k m1 m2 a e1 e2 e3 e4
  · rw [upd_ne (ne_of_none e hx)]; exact h.out a u e
/-- a slot's own thing is changed -/
theorem Ss.turn {i : Nat} {m m' : M} {p : Addr} {o : HO} (h : Ss K Zx Z F φ ρ σ) (e : ρ[i]? = some (.ow m)) (es : σ[i]? = some (some (.ref p))) (r : MOk K F φ m' o) : Ss K Zx (upd Z p o) F φ (ρ.set i (.ow m')) σ := by
  have hi : i < ρ.length := (List.getElem?_eq_some_iff.mp e).1
  obtain ⟨a, u, h1, h2, h3, h4⟩ := h.ow i m e
  rw [es] at h1; cases h1
  refine ⟨by simp [h.len], fun j w' e' => ?_, fun j m2 e' => ?_, fun j k m1 m2 a e1 e2 e3 e4 => ?_, fun a u e' => ?_⟩
  · by_cases q : i = j
    · subst q; rw [List.getElem?_set_self hi] at e'; cases e'
    · rw [List.getElem?_set_ne q] at e'; exact h.va j w' e'
  · by_cases q : i = j
    · subst q
      rw [List.getElem?_set_self hi] at e'; cases e'
      exact ⟨p, o, es, upd_same, h3, r⟩
    · rw [List.getElem?_set_ne q] at e'
      obtain ⟨b, u', g1, g2, g3, g4⟩ := h.ow j m2 e'
      have : b ≠ p := fun z => by subst z; exact q (h.sep i j m m2 _ e e' es g1)
      exact ⟨b, u', g1, by rw [upd_ne this]; exact g2, g3, g4⟩
  · have old : ∀ {j : Nat} {m1 : M}, (ρ.set i (.ow m'))[j]? = some (.ow m1) → ∃ m2, ρ[j]? = some (.ow m2) := fun {j m1} q => by
      by_cases z : i = j
      · subst z; exact ⟨m, e⟩
      · rw [List.getElem?_set_ne z] at q; exact ⟨m1, q⟩
    obtain ⟨n1, q1⟩ := old e1
    obtain ⟨n2, q2⟩ := old e2
    exact h.sep j k n1 n2 a q1 q2 e3 e4
  · rw [upd_ne (fun z => by subst z; rw [h3] at e'; cases e')]; exact h.out a u e'
/-- a slot's own thing is frozen -/
theorem Ss.frozen {mg : Str → Option Value} {L : Lg} {H : Hp} {i : Nat} {m : M} (hs : Hs K mg Z F φ L H) (h : Ss K Zx Z F φ ρ σ) (e : ρ[i]? = some (.ow m)) :
    ∃ Z' F', Sub F F' ∧ Hs K mg Z' F' φ L H ∧ Ss K Zx Z' F' φ (ρ.set i (.va m.fz)) σ := by
  have hi : i < ρ.length := (List.getElem?_eq_some_iff.mp e).1
  obtain ⟨p, o, h1, h2, h3, h4⟩ := h.ow i m e
  let Z' : Hp := fun b => if b = p then none else Z b
  have zp : Z' p = none := by show (if p = p then none else Z p) = none; rw [if_pos rfl]
  have zn : ∀ b, b ≠ p → Z' b = Z b := fun b q => by show (if b = p then none else Z b) = Z b; rw [if_neg q]
  have hz : Z = upd Z' p o := by
    funext b
    by_cases q : b = p
    · subst q; rw [upd_same]; exact h2
    · rw [upd_ne q, zn b q]
  have hs' : Hs K mg (upd Z' p o) F φ L H := by rw [← hz]; exact hs
  obtain ⟨k1, k2⟩ := hs'.freeze zp
  refine ⟨Z', _, k2, k1, ?_⟩
  refine ⟨by simp [h.len], fun j w' e' => ?_, fun j m2 e' => ?_, fun j k m1 m2 a e1 e2 e3 e4 => ?_, fun a u e' => ?_⟩
  · by_cases q : i = j
    · subst q; rw [List.getElem?_set_self hi] at e'; cases e'
      exact ⟨_, h1, (h4.mono k2 (List.prefix_refl φ)).fz upd_same⟩
    · rw [List.getElem?_set_ne q] at e'
      obtain ⟨v, g1, g2⟩ := h.va j w' e'
      exact ⟨v, g1, g2.mono k2 (List.prefix_refl φ)⟩
  · by_cases q : i = j
    · subst q; rw [List.getElem?_set_self hi] at e'; cases e'
    · rw [List.getElem?_set_ne q] at e'
      obtain ⟨b, u', g1, g2, g3, g4⟩ := h.ow j m2 e'
      have : b ≠ p := fun z => by subst z; exact q (h.sep i j m m2 _ e e' h1 g1)
      exact ⟨b, u', g1, by rw [zn b this]; exact g2, g3, g4.mono k2 (List.prefix_refl φ)⟩
  · by_cases q : i = j
    · subst q; rw [List.getElem?_set_self hi] at e1; cases e1
    · by_cases q' : i = k
      · subst q'; rw [List.getElem?_set_self hi] at e2; cases e2
      · rw [List.getElem?_set_ne q] at e1
        rw [List.getElem?_set_ne q'] at e2
        exact h.sep j k m1 m2 a e1 e2 e3 e4
  · rw [zn a (fun z => by subst z; rw [h3] at e'; cases e')]; exact h.out a u e'
end

/-! ### targets -/
abbrev GF := W → Ro → Option Ro
abbrev GsF := List W → Ro → Option Ro
structure IG (X : Cx) (tg : Expr) (ix : List Nat) (g : GF) : Prop where
  run : ∀ {Zx Z F : Hp} {φ : List Addr} {L : Lg} {ρ ρ' : Ro} {σ : L2.St} {H : Hp} {w : W} {v : V}, Hs X.K X.mg Z F φ L H → Ss X.K Zx Z F φ ρ σ → R X.K F φ w v → g w ρ = some ρ' →
    ∀ Q : L2.St → Hp → Prop, (∀ σ', Ss X.K Zx Z F φ ρ' σ' → (∀ vs, (∀ i ∈ ix, i ∈ vs) → wipe σ' vs = wipe σ vs) → Q σ' H) → WpG X tg v σ H Q
structure IGs (X : Cx) (ts : List Expr) (ix : List Nat) (g : GsF) : Prop where
  run : ∀ {Zx Z F : Hp} {φ : List Addr} {L : Lg} {ρ ρ' : Ro} {σ : L2.St} {H : Hp} {w : List W} {v : List V}, Hs X.K X.mg Z F φ L H → Ss X.K Zx Z F φ ρ σ → Rs X.K F φ w v → g w ρ = some ρ' →
    ∀ Q : L2.St → Hp → Prop, (∀ σ', Ss X.K Zx Z F φ ρ' σ' → (∀ vs, (∀ i ∈ ix, i ∈ vs) → wipe σ' vs = wipe σ vs) → Q σ' H) → WpGs X ts v σ H Q
section
variable {X : Cx} {e : Expr} {es : List Expr} {pos : Pos}
def gN (i : Nat) : GF := fun w ρ => if i < ρ.length then some (ρ.set i (.va w)) else none
theorem ig_name (i : Nat) {x : Str} (hN : X.N.Nodup) (hi : X.N[i]? = some x) (hx : Loc X.env.scope x) (hf : X.fn x = true ∨ X.env.scope.names.lookup x = some .local := by first | exact .inl rfl | exact .inr rfl | assumption) : IG X (.Name x pos) [i] (gN i) := by
  refine ⟨fun {Zx Z F φ L ρ ρ' σ H w v} hs ss r h Q q => PG.wp (pg_name hN hi hx hf) ?_⟩
  unfold gN at h
  split at h
  · rename_i hl
    simp only [Option.some.injEq] at h
    subst h
    exact q _ (ss.setva hl r) fun vs hv => wipe_set (hv i (by simp))
  · cases h
def gsN : GsF := fun ws ρ => match ws with
  | [] => some ρ
  | _ => none
def gsC (g : GF) (k : GsF) : GsF := fun ws ρ => match ws with
  | [] => none
  | w :: r => match g w ρ with
    | none => none
    | some ρ1 => k r ρ1
theorem igs_nil : IGs X [] [] gsN := by
  refine ⟨fun {Zx Z F φ L ρ ρ' σ H w v} hs ss r h Q q => PGs.wp pgs_nil ?_⟩
  unfold gsN at h
  split at h
  · simp only [Option.some.injEq] at h
    subst h
    cases r
    exact ⟨rfl, q σ ss fun _ _ => rfl⟩
  · cases h
theorem igs_cons {ix jx : List Nat} {g : GF} {k : GsF} (h1 : IG X e ix g) (h2 : IGs X es jx k) (hs' : (assignEach (e :: es) X.env).map (·.2) = assign e X.env :: (assignEach es X.env).map (·.2) := by rfl) : IGs X (e :: es) (ix ++ jx) (gsC g k) := by
  refine ⟨fun {Zx Z F φ L ρ ρ' σ H w v} hs ss r h Q q => PGs.wp (pgs_cons wpG wpGs hs') ?_⟩
  unfold gsC at h
  split at h
  · cases h
  rename_i w1 wr
  split at h
  · cases h
  rename_i ρ1 e1
  cases r with
  | cons r1 rr =>
    refine ⟨_, _, rfl, h1.run hs ss r1 e1 _ fun σ1 ss1 k1 => ?_⟩
    exact h2.run hs ss1 rr h Q fun σ2 ss2 k2 => q σ2 ss2 fun vs hv => (k2 vs fun i hi => hv i (List.mem_append_right _ hi)).trans (k1 vs fun i hi => hv i (List.mem_append_left _ hi))
def gTupW (n : Nat) (k : GsF) : GF := fun w ρ => match w with
  | .tup ws => if ws.length = n then k ws ρ else none
  | .kt ws => if ws.length = n then k ws ρ else none
  | _ => none
theorem ig_tup {j : Nat} {ix : List Nat} {k : GsF} {n : Nat} (hc : X.calm = true) (h : IGs X es ix k)
    (hn : (assignEach es X.env).length = n := by rfl) (hst : (assignEach es X.env).findIdx? (·.1) = none := by rfl) : IG X (.Tuple es j pos) ix (gTupW n k) := by
  refine ⟨fun {Zx Z F φ L ρ ρ' σ H w v} hs ss r h' Q q => PG.wp (pg_tup hc wpGs hn hst) ?_⟩
  unfold gTupW at h'
  split at h'
  · split at h'
    · rename_i ws hl
      cases r with
      | tup h1 r1 => exact ⟨_, _, rfl, h1.sq hs.sub, by rw [← r1.length]; exact hl, h.run hs ss r1 h' Q q⟩
    · cases h'
  · split at h'
    · rename_i ws hl
      cases r with
      | kt h1 r1 => exact ⟨_, _, rfl, h1.sq, by rw [← r1.length]; exact hl, h.run hs ss r1 h' Q q⟩
    · cases h'
  · cases h'
end

/-! ### what is walked -/
/-- an iterator that yields what the list xs tells -/
def ItOk (K : PySem.W.Frag) (mg : Str → Option Value) (F : Hp) (φ : List Addr) (J : It) (xs : List W) : Prop :=
  ∀ {Z F1 : Hp} {φ1 : List Addr} {L1 : Lg} {H1 : Hp} (i : Nat), Sub F F1 → φ <+: φ1 → Hs K mg Z F1 φ1 L1 H1 →
    (∀ x, xs[i]? = some x → J.go i H1 ∧ ∀ v H2, J.yld i H1 v H2 → ∃ F2, Sub F1 F2 ∧ Hs K mg Z F2 φ1 L1 H2 ∧ R K F2 φ1 x v) ∧ (xs.length ≤ i → J.stop i H1)
structure II (X : Cx) (tg iter : Expr) (f : AF) : Prop where
  run : ∀ {Zx Z F : Hp} {φ : List Addr} {L : Lg} {ρ : Ro} {σ : L2.St} {H : Hp} {xs : List W} {L' : Lg}, Hs X.K X.mg Z F φ L H → Ss X.K Zx Z F φ ρ σ → f ρ L = some (xs, L') →
    ∀ Q : It → Hp → Prop, (∀ (F' : Hp) (φ' : List Addr) (H' : Hp) (J : It), Sub F F' → φ <+: φ' → Hs X.K X.mg Z F' φ' L' H' → ItOk X.K X.mg F' φ' J xs → Q J H') → WpI X tg iter σ H Q
section
variable {X : Cx} {tg e a b : Expr} {pos : Pos}
theorem itok_list {K : PySem.W.Frag} {mg : Str → Option Value} {F : Hp} {φ : List Addr} {a : Addr} {xs : List W} {vs : List V} (h : F a = some (.lst vs)) (r : Rs K F φ xs vs) : ItOk K mg F φ (Itl K a) xs := by
  intro Z F1 φ1 L1 H1 i s p hs
  have hq : SqL K H1 a vs := SqL.of (hs.sub _ _ (s _ _ h))
  refine ⟨fun x hx => ?_, fun hl => ⟨vs, hq, by rw [← r.length]; exact hl⟩⟩
  obtain ⟨v, h1, h2⟩ := r.get hx
  refine ⟨⟨vs, v, hq, h1⟩, fun u H2 y => ?_⟩
  obtain ⟨rfl, y⟩ := y
  have : vs[i]? = some u := y vs hq
  rw [h1] at this; cases this
  exact ⟨F1, Sub.refl F1, hs, h2.mono s p⟩
theorem itok_tup {K : PySem.W.Frag} {mg : Str → Option Value} {F : Hp} {φ : List Addr} {a : Addr} {xs : List W} {vs : List V} (h : TupAt K F a vs) (r : Rs K F φ xs vs) : ItOk K mg F φ (Itt K a) xs := by
  intro Z F1 φ1 L1 H1 i s p hs
  have hq : SqT K H1 a vs := (h.mono s).sq hs.sub
  refine ⟨fun x hx => ?_, fun hl => ⟨vs, hq, by rw [← r.length]; exact hl⟩⟩
  obtain ⟨v, h1, h2⟩ := r.get hx
  refine ⟨⟨vs, v, hq, h1⟩, fun u H2 y => ?_⟩
  obtain ⟨rfl, y⟩ := y
  have : vs[i]? = some u := y vs hq
  rw [h1] at this; cases this
  exact ⟨F1, Sub.refl F1, hs, h2.mono s p⟩
def sLst (f : EF) : AF := fun ρ L => match f ρ L with
  | some (.lst xs, L') => some (xs, L')
  | _ => none
theorem ii_list {f : EF} (h : IE X e f) : II X tg e (sLst f) := by
  refine ⟨fun {Zx Z F φ L ρ σ H xs L'} hs ss h' Q q => PI.wp (pi_list wpE) ?_⟩
  unfold sLst at h'
  split at h'
  · rename_i ys L2 e1
    simp only [Option.some.injEq, Prod.mk.injEq] at h'
    obtain ⟨rfl, rfl⟩ := h'
    refine h.run hs ss e1 _ fun F1 φ1 H1 v s1 p1 hs1 r1 => ?_
    cases r1 with
    | lst g1 g2 => exact ⟨_, rfl, ⟨_, SqL.of (hs1.sub _ _ g1)⟩, q F1 φ1 H1 _ s1 p1 hs1 (itok_list g1 g2)⟩
  · cases h'
theorem itok_kt {K : PySem.W.Frag} {mg : Str → Option Value} {F : Hp} {φ : List Addr} {a : Addr} {xs : List W} {vs : List V} (h : TupK K a vs) (r : Rs K F φ xs vs) : ItOk K mg F φ (Itt K a) xs := by
  intro Z F1 φ1 L1 H1 i s p hs
  have hq : SqT K H1 a vs := h.sq
  refine ⟨fun x hx => ?_, fun hl => ⟨vs, hq, by rw [← r.length]; exact hl⟩⟩
  obtain ⟨v, h1, h2⟩ := r.get hx
  refine ⟨⟨vs, v, hq, h1⟩, fun u H2 y => ?_⟩
  obtain ⟨rfl, y⟩ := y
  have : vs[i]? = some u := y vs hq
  rw [h1] at this; cases this
  exact ⟨F1, Sub.refl F1, hs, h2.mono s p⟩
def sTup (f : EF) : AF := fun ρ L => match f ρ L with
  | some (.tup xs, L') => some (xs, L')
  | some (.kt xs, L') => some (xs, L')
  | _ => none
theorem ii_tup {f : EF} (h : IE X e f) : II X tg e (sTup f) := by
  refine ⟨fun {Zx Z F φ L ρ σ H xs L'} hs ss h' Q q => PI.wp (pi_tup wpE) ?_⟩
  unfold sTup at h'
  split at h'
  · rename_i ys L2 e1
    simp only [Option.some.injEq, Prod.mk.injEq] at h'
    obtain ⟨rfl, rfl⟩ := h'
    refine h.run hs ss e1 _ fun F1 φ1 H1 v s1 p1 hs1 r1 => ?_
    cases r1 with
    | tup g1 g2 => exact ⟨_, rfl, ⟨_, g1.sq hs1.sub⟩, q F1 φ1 H1 _ s1 p1 hs1 (itok_tup g1 g2)⟩
  · rename_i ys L2 e1
    simp only [Option.some.injEq, Prod.mk.injEq] at h'
    obtain ⟨rfl, rfl⟩ := h'
    refine h.run hs ss e1 _ fun F1 φ1 H1 v s1 p1 hs1 r1 => ?_
    cases r1 with
    | kt g1 g2 => exact ⟨_, rfl, ⟨_, g1.sq⟩, q F1 φ1 H1 _ s1 p1 hs1 (itok_kt g1 g2)⟩
  · cases h'
def rangeW (lo : Int) (n : Nat) : List W := (List.range n).map fun (i : Nat) => .int (lo + (i : Int))
theorem itok_range {K : PySem.W.Frag} {mg : Str → Option Value} {F : Hp} {φ : List Addr} {lo : Int} {n : Nat} : ItOk K mg F φ (Itr lo n) (rangeW lo n) := by
  intro Z F1 φ1 L1 H1 i s p hs
  have hl : (rangeW lo n).length = n := by simp [rangeW]
  refine ⟨fun x hx => ?_, fun h => by rw [hl] at h; exact h⟩
  have hi : i < n := by have := (List.getElem?_eq_some_iff.mp hx).1; rw [hl] at this; exact this
  refine ⟨hi, fun u H2 y => ?_⟩
  obtain ⟨rfl, rfl⟩ := y
  refine ⟨F1, Sub.refl F1, hs, ?_⟩
  unfold rangeW at hx
  rw [List.getElem?_map, List.getElem?_range hi] at hx
  simp at hx
  subst hx
  exact .int _
def sRange1 (f : AF) : AF := fun ρ L => match f ρ L with
  | some ([.int j], L') => if -(2 ^ 62) ≤ j ∧ j < 2 ^ 62 then some (rangeW 0 j.toNat, L') else none
  | _ => none
theorem ii_range1 {f : AF} {p : Pos} (hg : Gl X "range") (hm : X.mg "range" = none) (h : IA X [a] f) (hst : starEach [a] X.env = [(false, eval a X.env)] := by rfl) : II X tg (.Call (.Name "range" p) [a] [] pos) (sRange1 f) := by
  refine ⟨fun {Zx Z F φ L ρ σ H xs L'} hs ss h' Q q => PI.wp (pi_range1 hg hm wpA hst) ?_⟩
  unfold sRange1 at h'
  split at h'
  · rename_i j L2 e1
    split at h'
    · rename_i hz
      simp only [Option.some.injEq, Prod.mk.injEq] at h'
      obtain ⟨rfl, rfl⟩ := h'
      refine h.run hs ss e1 _ fun F1 φ1 H1 v s1 p1 hs1 r1 => ?_
      cases r1 with
      | cons r1 r2 =>
        cases r1; cases r2
        exact ⟨j, rfl, hz.1, hz.2, q F1 φ1 H1 _ s1 p1 hs1 itok_range⟩
    · cases h'
  · cases h'
def sRange2 (f : AF) : AF := fun ρ L => match f ρ L with
  | some ([.int i, .int j], L') => if -(2 ^ 62) ≤ i ∧ i < 2 ^ 62 ∧ -(2 ^ 62) ≤ j ∧ j < 2 ^ 62 then some (rangeW i (j - i).toNat, L') else none
  | _ => none
theorem ii_range2 {f : AF} {p : Pos} (hg : Gl X "range") (hm : X.mg "range" = none) (h : IA X [a, b] f) (hst : starEach [a, b] X.env = [(false, eval a X.env), (false, eval b X.env)] := by rfl) (hst2 : starEach [b] X.env = [(false, eval b X.env)] := by rfl) :
    II X tg (.Call (.Name "range" p) [a, b] [] pos) (sRange2 f) := by
  refine ⟨fun {Zx Z F φ L ρ σ H xs L'} hs ss h' Q q => PI.wp (pi_range2 hg hm wpA hst hst2) ?_⟩
  unfold sRange2 at h'
  split at h'
  · rename_i i j L2 e1
    split at h'
    · rename_i hz
      simp only [Option.some.injEq, Prod.mk.injEq] at h'
      obtain ⟨rfl, rfl⟩ := h'
      refine h.run hs ss e1 _ fun F1 φ1 H1 v s1 p1 hs1 r1 => ?_
      cases r1 with
      | cons r1 r2 =>
        cases r1
        cases r2 with
        | cons r2 r3 =>
          cases r2; cases r3
          exact ⟨i, j, rfl, hz, q F1 φ1 H1 _ s1 p1 hs1 itok_range⟩
    · cases h'
  · cases h'
end

/-! ### list comprehensions -/
structure ITs (X : Cx) (ifs : List Expr) (f : TF) : Prop where
  run : ∀ {Zx Z F : Hp} {φ : List Addr} {L : Lg} {ρ : Ro} {σ : L2.St} {H : Hp} {w : Bool} {L' : Lg}, Hs X.K X.mg Z F φ L H → Ss X.K Zx Z F φ ρ σ → f ρ L = some (w, L') →
    ∀ Q : Bool → Hp → Prop, (∀ (F' : Hp) (φ' : List Addr) (H' : Hp), Sub F F' → φ <+: φ' → Hs X.K X.mg Z F' φ' L' H' → Q w H') → ∃ t, PTs X ifs t ∧ t σ H Q
def WpTs (X : Cx) (ifs : List Expr) : TT := fun σ H Q => ∀ (pins : List (Addr × Obj)) (s : Shared), Inv X pins σ H s →
    wpAny (model X.prog X.w) X.A (forIn ifs true fun c r => if r = true then do let ok ← isTrue c X.env (eval c X.env); pure (ForInStep.yield ok) else pure (ForInStep.yield r)) (TP X pins σ Q) X.xe s
theorem wpTs {X : Cx} {ifs : List Expr} : PTs X ifs (WpTs X ifs) := ⟨fun pins s σ H Q I h => h pins s I⟩
theorem PTs.wp {X : Cx} {ifs : List Expr} {t : TT} (h : PTs X ifs t) {σ : L2.St} {H : Hp} {Q : Bool → Hp → Prop} (q : t σ H Q) : WpTs X ifs σ H Q := fun pins s I => h.run pins s σ H Q I q
def cYes : TF := fun _ L => some (true, L)
theorem its_nil {X : Cx} : ITs X [] cYes := by
  refine ⟨fun {Zx Z F φ L ρ σ H w L'} hs ss h Q q => ⟨_, pts_nil, ?_⟩⟩
  simp only [cYes, Option.some.injEq, Prod.mk.injEq] at h
  obtain ⟨rfl, rfl⟩ := h
  exact q F φ H (Sub.refl F) (List.prefix_refl φ) hs
theorem its_one {X : Cx} {c : Expr} {f : TF} (h : IT X c f) : ITs X [c] f := ⟨fun hs ss e Q q => ⟨_, pts_one wpT, h.run hs ss e Q q⟩⟩
def lcLoop (g : GF) (tt : TF) (te : EF) (ρ : Ro) : List W → Lg → Option (List W × Lg)
  | [], L => some ([], L)
  | x :: xs, L => match g x ρ with
    | none => none
    | some ρ1 => match tt ρ1 L with
      | none => none
      | some (false, L1) => lcLoop g tt te ρ xs L1
      | some (true, L1) => match te ρ1 L1 with
        | none => none
        | some (w, L2) => match lcLoop g tt te ρ xs L2 with
          | none => none
          | some (ws, L3) => some (w :: ws, L3)
def cLc (src : AF) (g : GF) (tt : TF) (te : EF) (vs : List Nat) : NF := fun ρ L => match src ρ L with
  | none => none
  | some (xs, L1) => match lcLoop g tt te (wipeR ρ vs) xs L1 with
    | none => none
    | some (ws, L2) => if ws.length ≤ 16777216 then some (.lst ws, L2) else none
section
variable {X : Cx}
/-- the turns of a comprehension -/
theorem lc_w {J : It} {xs : List W} {g : GF} {tt : TF} {te : EF} {ix vs : List Nat} (hix : ∀ i ∈ ix, i ∈ vs)
    (gW : TG) (tW : TT) (eW : TE)
    (hg : ∀ {Zx Z F : Hp} {φ : List Addr} {L : Lg} {ρ ρ' : Ro} {σ : L2.St} {H : Hp} {w : W} {v : V}, Hs X.K X.mg Z F φ L H → Ss X.K Zx Z F φ ρ σ → R X.K F φ w v → g w ρ = some ρ' →
      ∀ Q : L2.St → Hp → Prop, (∀ σ', Ss X.K Zx Z F φ ρ' σ' → (∀ vs, (∀ i ∈ ix, i ∈ vs) → wipe σ' vs = wipe σ vs) → Q σ' H) → gW v σ H Q)
    (ht : ∀ {Zx Z F : Hp} {φ : List Addr} {L : Lg} {ρ : Ro} {σ : L2.St} {H : Hp} {w : Bool} {L' : Lg}, Hs X.K X.mg Z F φ L H → Ss X.K Zx Z F φ ρ σ → tt ρ L = some (w, L') →
      ∀ Q : Bool → Hp → Prop, (∀ (F' : Hp) (φ' : List Addr) (H' : Hp), Sub F F' → φ <+: φ' → Hs X.K X.mg Z F' φ' L' H' → Q w H') → tW σ H Q)
    (he : ∀ {Zx Z F : Hp} {φ : List Addr} {L : Lg} {ρ : Ro} {σ : L2.St} {H : Hp} {w : W} {L' : Lg}, Hs X.K X.mg Z F φ L H → Ss X.K Zx Z F φ ρ σ → te ρ L = some (w, L') →
      ∀ Q : VK, (∀ (F' : Hp) (φ' : List Addr) (H' : Hp) (v : V), Sub F F' → φ <+: φ' → Hs X.K X.mg Z F' φ' L' H' → R X.K F' φ' w v → Q v H') → eW σ H Q)
    {Zx Z F1 : Hp} {φ1 : List Addr} {L1 L9 : Lg} {ρ : Ro} {σ : L2.St} {H1 : Hp} {ws : List W} (hs1 : Hs X.K X.mg Z F1 φ1 L1 H1) (ss : Ss X.K Zx Z F1 φ1 ρ σ) (itok : ItOk X.K X.mg F1 φ1 J xs) (e2 : lcLoop g tt te (wipeR ρ vs) xs L1 = some (ws, L9)) (hz : ws.length ≤ 16777216)
    (Q : VK) (q : ∀ (F' : Hp) (φ' : List Addr) (H' : Hp) (p : Addr) (o : HO), Sub F1 F' → φ1 <+: φ' → Z p = none → Hs X.K X.mg (upd Z p o) F' φ' L9 H' → MOk X.K F' φ' (.lst ws) o → Q (.ref p) H') {D : Addr} (hD : H1 D = none) :
    ∃ W : Nat → Nat → Hp → Prop, (∃ m, W 0 m (upd H1 D (.lst []))) ∧ ∀ i m H, W i m H →
      (J.stop i H ∧ Q (.ref D) H) ∨ (J.go i H ∧ ∃ Nx : Hp → Prop, (∀ H', Nx H' → ∃ m', m' < m ∧ W (i + 1) m' H') ∧ ∀ x H', J.yld i H x H' → gW x (wipe σ vs) H' fun σ2 H2 => wipe σ2 vs = wipe σ vs ∧ tW σ2 H2 fun b H3 =>
        if b = true then eW σ2 H3 fun y H4 => ∃ acc, H4 D = some (.lst acc) ∧ acc.length < sizeLine ∧ Nx (upd H4 D (.lst (acc ++ [y]))) else Nx H3) := by
  have zD : Z D = none := (hs1.free hD).2.1
  -- what holds at turn i: the rest is still to be done
  refine ⟨fun i mm H' => mm = xs.length - i ∧ i ≤ xs.length ∧ ∃ (F2 : Hp) (φ2 : List Addr) (L3 : Lg) (acc rest : List W) (vacc : List V), Sub F1 F2 ∧ φ1 <+: φ2 ∧ Hs X.K X.mg (upd Z D (.lst vacc)) F2 φ2 L3 H' ∧ Rs X.K F2 φ2 acc vacc ∧
    lcLoop g tt te (wipeR ρ vs) (xs.drop i) L3 = some (rest, L9) ∧ acc ++ rest = ws,
    ⟨xs.length, rfl, Nat.zero_le _, F1, φ1, L1, [], ws, [], Sub.refl F1, List.prefix_refl φ1, hs1.fresh hD, .nil, by simpa using e2, rfl⟩, ?_⟩
  rintro i mm H' ⟨rfl, hi', F2, φ2, L3, acc, rest, vacc, s2, p2, hs2, racc, e3, e4⟩
  obtain ⟨it1, it2⟩ := itok i s2 p2 hs2
  by_cases hlt : i < xs.length
  · have hx : xs[i]? = some xs[i] := List.getElem?_eq_getElem hlt
    obtain ⟨go, yl⟩ := it1 _ hx
    refine .inr ⟨go, fun H'' => ∃ (F2 : Hp) (φ2 : List Addr) (L3 : Lg) (acc rest : List W) (vacc : List V), Sub F1 F2 ∧ φ1 <+: φ2 ∧ Hs X.K X.mg (upd Z D (.lst vacc)) F2 φ2 L3 H'' ∧ Rs X.K F2 φ2 acc vacc ∧
      lcLoop g tt te (wipeR ρ vs) (xs.drop (i + 1)) L3 = some (rest, L9) ∧ acc ++ rest = ws, fun H'' n => ⟨xs.length - (i + 1), by omega, rfl, hlt, n⟩, fun v H3 y => ?_⟩
    obtain ⟨F3, s3, hs3, r3⟩ := yl v H3 y
    rw [List.drop_eq_getElem_cons hlt] at e3
    unfold lcLoop at e3
    split at e3
    · cases e3
    rename_i ρ1 g1
    have s13 : Sub F1 F3 := s2.trans s3
    have ssw : Ss X.K (fun _ => none) (upd Z D (.lst vacc)) F3 φ2 (wipeR ρ vs) (wipe σ vs) := by
      have k := (ss.mono s13 p2).wiped vs
      exact ⟨k.len, k.va, fun j m' ej => let ⟨a, o, h1, h2, h3, h4⟩ := k.ow j m' ej; ⟨a, o, h1, by rw [upd_ne (ne_of_none h2 zD)]; exact h2, rfl, h4⟩, k.sep, fun _ _ z => nomatch z⟩
    refine hg hs3 ssw r3 g1 _ fun σ2 ss2 wq => ⟨(wq _ hix).trans (wipe_wipe σ _), ?_⟩
    split at e3
    · cases e3
    · -- the test fails
      rename_i L4 t1
      refine ht hs3 ss2 t1 _ fun F4 φ4 H4 s4 p4 hs4 => ?_
      rw [if_neg (by decide)]
      exact ⟨F4, φ4, L4, acc, rest, vacc, (s2.trans s3).trans s4, List.IsPrefix.trans p2 p4, hs4, racc.mono (s3.trans s4) p4, e3, e4⟩
    · rename_i L4 t1
      refine ht hs3 ss2 t1 _ fun F4 φ4 H4 s4 p4 hs4 => ?_
      rw [if_pos rfl]
      split at e3
      · cases e3
      rename_i w L5 e5
      split at e3
      · cases e3
      rename_i ws' L6 e6
      simp only [Option.some.injEq, Prod.mk.injEq] at e3
      obtain ⟨e3a, rfl⟩ := e3
      refine he hs4 (ss2.mono s4 p4) e5 _ fun F5 φ5 H5 v5 s5 p5 hs5 r5 => ?_
      have hd5 := (hs5.ext D (.lst vacc) upd_same).1
      have racc5 : Rs X.K F5 φ5 acc vacc := racc.mono ((s3.trans s4).trans s5) (List.IsPrefix.trans p4 p5)
      have hlen : acc.length + (rest.length) = ws.length := by rw [← e4, List.length_append]
      have hrl : rest.length = ws'.length + 1 := by rw [← e3a]; rfl
      refine ⟨vacc, hd5, by rw [← racc.length, sizeLine_eq]; omega, ?_⟩
      have hs6 := hs5.turn (o' := .lst (vacc ++ [v5])) (p := D) upd_same
      rw [upd_upd] at hs6
      exact ⟨F5, φ5, L5, acc ++ [w], ws', vacc ++ [v5], ((s2.trans s3).trans s4).trans s5, List.IsPrefix.trans (List.IsPrefix.trans p2 p4) p5, hs6, racc5.append (.one r5), e6, by rw [List.append_assoc, ← e4, ← e3a]; rfl⟩
  · have ei : i = xs.length := by omega
    subst ei
    refine .inl ⟨it2 (Nat.le_refl _), ?_⟩
    rw [List.drop_length] at e3
    simp only [lcLoop, Option.some.injEq, Prod.mk.injEq] at e3
    obtain ⟨rfl, rfl⟩ := e3
    rw [List.append_nil] at e4
    subst e4
    exact q F2 φ2 H' D _ s2 p2 zD hs2 racc
/-- the reading of a comprehension, from the pieces -/
theorem lc_run {tg iter elt : Expr} {ifs : List Expr} {own : List (Str × Nat)} {scope : Scope} {src : AF} {g : GF} {tt : TF} {te : EF} {ix : List Nat} (hi : II X tg iter src) (hix : ∀ i ∈ ix, i ∈ own.map (·.2))
    (gW : TG) (tW : TT) (eW : TE)
    (hg : ∀ {Zx Z F : Hp} {φ : List Addr} {L : Lg} {ρ ρ' : Ro} {σ : L2.St} {H : Hp} {w : W} {v : V}, Hs X.K X.mg Z F φ L H → Ss X.K Zx Z F φ ρ σ → R X.K F φ w v → g w ρ = some ρ' →
      ∀ Q : L2.St → Hp → Prop, (∀ σ', Ss X.K Zx Z F φ ρ' σ' → (∀ vs, (∀ i ∈ ix, i ∈ vs) → wipe σ' vs = wipe σ vs) → Q σ' H) → gW v σ H Q)
    (ht : ∀ {Zx Z F : Hp} {φ : List Addr} {L : Lg} {ρ : Ro} {σ : L2.St} {H : Hp} {w : Bool} {L' : Lg}, Hs X.K X.mg Z F φ L H → Ss X.K Zx Z F φ ρ σ → tt ρ L = some (w, L') →
      ∀ Q : Bool → Hp → Prop, (∀ (F' : Hp) (φ' : List Addr) (H' : Hp), Sub F F' → φ <+: φ' → Hs X.K X.mg Z F' φ' L' H' → Q w H') → tW σ H Q)
    (he : ∀ {Zx Z F : Hp} {φ : List Addr} {L : Lg} {ρ : Ro} {σ : L2.St} {H : Hp} {w : W} {L' : Lg}, Hs X.K X.mg Z F φ L H → Ss X.K Zx Z F φ ρ σ → te ρ L = some (w, L') →
      ∀ Q : VK, (∀ (F' : Hp) (φ' : List Addr) (H' : Hp) (v : V), Sub F F' → φ <+: φ' → Hs X.K X.mg Z F' φ' L' H' → R X.K F' φ' w v → Q v H') → eW σ H Q)
    {Zx Z F : Hp} {φ : List Addr} {L : Lg} {ρ : Ro} {σ : L2.St} {H : Hp} {m : M} {L' : Lg} (hs : Hs X.K X.mg Z F φ L H) (ss : Ss X.K Zx Z F φ ρ σ) (h : cLc src g tt te (own.map (·.2)) ρ L = some (m, L'))
    (Q : VK) (q : ∀ (F' : Hp) (φ' : List Addr) (H' : Hp) (p : Addr) (o : HO), Sub F F' → φ <+: φ' → Z p = none → Hs X.K X.mg (upd Z p o) F' φ' L' H' → MOk X.K F' φ' m o → Q (.ref p) H') : tLc (WpI X tg iter) gW tW eW (own.map (·.2)) σ H Q := by
  unfold cLc at h
  split at h
  · cases h
  rename_i xs L1 e1
  split at h
  · cases h
  rename_i ws L2 e2
  split at h
  · rename_i hz
    simp only [Option.some.injEq, Prod.mk.injEq] at h
    obtain ⟨rfl, rfl⟩ := h
    refine hi.run hs ss e1 _ fun F1 φ1 H1 J s1 p1 hs1 itok => fun D hD => ?_
    exact lc_w hix gW tW eW hg ht he hs1 (ss.mono s1 p1) itok e2 hz Q (fun F' φ' H' p o s' p' z hs' m' => q F' φ' H' p o (s1.trans s') (List.IsPrefix.trans p1 p') z hs' m') hD
  · cases h
theorem in_lc {elt tg iter : Expr} {ifs : List Expr} {scope : Scope} {own : List (Str × Nat)} {pos : Pos} {src : AF} {g : GF} {tt : TF} {te : EF} {ix : List Nat} (hc : X.calm = true) (hN : X.N.Nodup) (hi : II X tg iter src) (ok : BlkOk X.N X.env.scope scope own) (hix : ∀ i ∈ ix, i ∈ own.map (·.2))
    (hg : ∀ (s : Shared) (H : Hp) (C : Addr) (cl : List (Str × Addr)) (fp : List Addr), IG (X.blk s H scope (compEnvC scope cl C X.env) fp) tg ix g) (ht : ∀ (s : Shared) (H : Hp) (C : Addr) (cl : List (Str × Addr)) (fp : List Addr), ITs (X.blk s H scope (compEnvC scope cl C X.env) fp) ifs tt)
    (he : ∀ (s : Shared) (H : Hp) (C : Addr) (cl : List (Str × Addr)) (fp : List Addr), IE (X.blk s H scope (compEnvC scope cl C X.env) fp) elt te) (hs' : ∀ x, foldedSetIterable iter X.env x = pure x := by intro _; rfl) :
    IN X (.ListComp elt [⟨tg, iter, ifs, 0⟩] scope pos) (cLc src g tt te (own.map (·.2))) := by
  refine ⟨fun {Zx Z F φ L ρ σ H m L'} hs ss h Q q => ?_⟩
  -- one reading for all blocks
  let gW : TG := fun v σ H Q => ∀ (s : Shared) (H0 : Hp) (C : Addr) (cl : List (Str × Addr)) (fp : List Addr), WpG (X.blk s H0 scope (compEnvC scope cl C X.env) fp) tg v σ H Q
  let tW : TT := fun σ H Q => ∀ (s : Shared) (H0 : Hp) (C : Addr) (cl : List (Str × Addr)) (fp : List Addr), WpTs (X.blk s H0 scope (compEnvC scope cl C X.env) fp) ifs σ H Q
  let eW : TE := fun σ H Q => ∀ (s : Shared) (H0 : Hp) (C : Addr) (cl : List (Str × Addr)) (fp : List Addr), Wp (X.blk s H0 scope (compEnvC scope cl C X.env) fp) elt σ H Q
  refine PE.wp (pe_lc hc hN wpI ok (g := gW) (tt := tW) (te := eW) (fun s H C cl fp => ⟨fun pins s' σ H v u Q I r h => h s _ C cl fp pins s' u I r⟩) (fun s H C cl fp => ⟨fun pins s' σ H Q I h => h s _ C cl fp pins s' I⟩) (fun s H C cl fp => ⟨fun pins s' σ H Q I h => h s _ C cl fp pins s' I⟩) hs') ?_
  refine lc_run (ifs := ifs) (elt := elt) (scope := scope) hi hix gW tW eW ?_ ?_ ?_ hs ss h Q q
  · intro _ _ _ _ _ _ _ _ _ _ _ h1 h2 h3 h4 Q q s H0 C cl fp
    exact (hg s H0 C cl fp).run h1 h2 h3 h4 Q q
  · intro _ _ _ _ _ _ _ _ _ _ h1 h2 h3 Q q s H0 C cl fp
    obtain ⟨t, k1, k2⟩ := (ht s H0 C cl fp).run h1 h2 h3 Q q
    exact PTs.wp k1 k2
  · intro _ _ _ _ _ _ _ _ _ _ h1 h2 h3 Q q s H0 C cl fp
    exact (he s H0 C cl fp).run h1 h2 h3 Q q
end
end Lf

set_option maxHeartbeats 4000000
/-! Lf, part E: statements, loops, defs, calls. -/
namespace Lf
open PySem PySem.Spec PyProof.Rows L2

inductive Out where
  | nx (ρ : Ro) (L : Lg) | rt (w : W) (L : Lg) | bk (ρ : Ro) (L : Lg) | ct (ρ : Ro) (L : Lg)
abbrev SF := Ro → Lg → Option Out
def GoOn (X : Cx) (Zx F : Hp) (φ : List Addr) (ρ' : Ro) (L' : Lg) (P : L2.St → Hp → Prop) : Prop :=
  ∀ (Z' F' : Hp) (φ' : List Addr) (σ' : L2.St) (H' : Hp), Sub F F' → φ <+: φ' → Hs X.K X.mg Z' F' φ' L' H' → Ss X.K Zx Z' F' φ' ρ' σ' → P σ' H'
def EndOk (X : Cx) (Zx F : Hp) (φ : List Addr) (D : Ends) : Out → Prop
  | .nx ρ' L' => GoOn X Zx F φ ρ' L' D.nx
  | .bk ρ' L' => GoOn X Zx F φ ρ' L' D.bk
  | .ct ρ' L' => GoOn X Zx F φ ρ' L' D.ct
  | .rt w L' => ∀ (Z' F' : Hp) (φ' : List Addr) (H' : Hp) (v : V), Sub F F' → φ <+: φ' → Sub Zx Z' → Hs X.K X.mg Z' F' φ' L' H' → R X.K F' φ' w v → D.rt v H'
theorem GoOn.step {X : Cx} {Zx F F1 : Hp} {φ φ1 : List Addr} {ρ' : Ro} {L' : Lg} {P : L2.St → Hp → Prop} (s : Sub F F1) (p : φ <+: φ1) (h : GoOn X Zx F φ ρ' L' P) : GoOn X Zx F1 φ1 ρ' L' P :=
  fun Z' F' φ' σ' H' s' p' hs ss => h Z' F' φ' σ' H' (s.trans s') (List.IsPrefix.trans p p') hs ss
theorem EndOk.step {X : Cx} {Zx F F1 : Hp} {φ φ1 : List Addr} {D : Ends} {o : Out} (s : Sub F F1) (p : φ <+: φ1) (h : EndOk X Zx F φ D o) : EndOk X Zx F1 φ1 D o := by
  cases o with
  | nx ρ L => exact GoOn.step s p h
  | bk ρ L => exact GoOn.step s p h
  | ct ρ L => exact GoOn.step s p h
  | rt w L => exact fun Z' F' φ' H' v s' p' z hs r => h Z' F' φ' H' v (s.trans s') (List.IsPrefix.trans p p') z hs r
structure IS (X : Cx) (st : Stmt) (f : SF) : Prop where
  run : ∀ {Zx Z F : Hp} {φ : List Addr} {L : Lg} {ρ : Ro} {σ : L2.St} {H : Hp} {o : Out}, Hs X.K X.mg Z F φ L H → Ss X.K Zx Z F φ ρ σ → f ρ L = some o → ∀ D : Ends, EndOk X Zx F φ D o → WpS X st D σ H
structure ISs (X : Cx) (st : List Stmt) (f : SF) : Prop where
  run : ∀ {Zx Z F : Hp} {φ : List Addr} {L : Lg} {ρ : Ro} {σ : L2.St} {H : Hp} {o : Out}, Hs X.K X.mg Z F φ L H → Ss X.K Zx Z F φ ρ σ → f ρ L = some o → ∀ D : Ends, EndOk X Zx F φ D o → WpSs X st D σ H
section
variable {X : Cx} {st : Stmt} {rest : List Stmt} {e a b : Expr} {es : List Expr} {pos : Pos}

def cNx : SF := fun ρ L => some (.nx ρ L)
def cSeq (f g : SF) : SF := fun ρ L => match f ρ L with
  | some (.nx ρ1 L1) => g ρ1 L1
  | o => o
theorem iss_nil : ISs X [] cNx := by
  refine ⟨fun {Zx Z F φ L ρ σ H o} hs ss h D q => PSs.wp pss_nil ?_⟩
  simp only [cNx, Option.some.injEq] at h
  subst h
  exact q Z F φ σ H (Sub.refl F) (List.prefix_refl φ) hs ss
theorem iss_cons {f g : SF} (h1 : IS X st f) (h2 : ISs X rest g) : ISs X (st :: rest) (cSeq f g) := by
  refine ⟨fun {Zx Z F φ L ρ σ H o} hs ss h D q => PSs.wp (pss_cons wpS wpSs) ?_⟩
  unfold cSeq at h
  cases e1 : f ρ L with
  | none => rw [e1] at h; cases h
  | some o1 =>
    rw [e1] at h
    refine h1.run hs ss e1 { D with nx := WpSs X rest D } ?_
    cases o1 with
    | nx ρ1 L1 =>
      exact fun Z1 F1 φ1 σ1 H1 s1 p1 hs1 ss1 => h2.run hs1 ss1 h D (q.step s1 p1)
    | bk ρ1 L1 => cases h; exact q
    | ct ρ1 L1 => cases h; exact q
    | rt w L1 => cases h; exact q
theorem iss_one {f : SF} (h1 : IS X st f) : ISs X [st] f := ⟨fun hs ss h D q => PSs.wp (pss_one wpS) (h1.run hs ss h D q)⟩
theorem is_pass : IS X (.Pass pos) cNx := by
  refine ⟨fun {Zx Z F φ L ρ σ H o} hs ss h D q => PS.wp ps_pass ?_⟩
  simp only [cNx, Option.some.injEq] at h
  subst h
  exact q Z F φ σ H (Sub.refl F) (List.prefix_refl φ) hs ss
/-- a ghost: the slot's own thing is frozen ahead of a statement -/
def cFr (i : Nat) (f : SF) : SF := fun ρ L => match ρ[i]? with
  | some (.ow m) => f (ρ.set i (.va m.fz)) L
  | _ => f ρ L
theorem IS.frz {f : SF} (i : Nat) (h : IS X st f) : IS X st (cFr i f) := by
  refine ⟨fun {Zx Z F φ L ρ σ H o} hs ss h' D q => ?_⟩
  unfold cFr at h'
  split at h'
  · rename_i m e1
    obtain ⟨Z', F', s1, hs1, ss1⟩ := ss.frozen hs e1
    exact h.run hs1 ss1 h' D (q.step s1 (List.prefix_refl φ))
  · exact h.run hs ss h' D q
def cDrop (f : EF) : SF := fun ρ L => match f ρ L with
  | none => none
  | some (_, L') => some (.nx ρ L')
theorem is_expr {f : EF} (he : IE X e f) (hs' : swapsWith e none pos.line X.env = pure false := by rfl) : IS X (.Expr e pos) (cDrop f) := by
  refine ⟨fun {Zx Z F φ L ρ σ H o} hs ss h D q => PS.wp (ps_expr wpE hs') ?_⟩
  unfold cDrop at h
  split at h
  · cases h
  rename_i w L1 e1
  simp only [Option.some.injEq] at h
  subst h
  exact he.run hs ss e1 _ fun F1 φ1 H1 v s1 p1 hs1 r1 => q Z F1 φ1 σ H1 s1 p1 hs1 (ss.mono s1 p1)
def cRet (f : EF) : SF := fun ρ L => match f ρ L with
  | none => none
  | some (w, L') => some (.rt w L')
theorem is_ret {f : EF} (he : IE X e f) : IS X (.Return (some e) pos) (cRet f) := by
  refine ⟨fun {Zx Z F φ L ρ σ H o} hs ss h D q => PS.wp (ps_ret wpE) ?_⟩
  unfold cRet at h
  split at h
  · cases h
  rename_i w L1 e1
  simp only [Option.some.injEq] at h
  subst h
  exact he.run hs ss e1 _ fun F1 φ1 H1 v s1 p1 hs1 r1 => q Z F1 φ1 H1 v s1 p1 ss.out hs1 r1
def cRetN : SF := fun _ L => some (.rt .non L)
theorem is_retN : IS X (.Return none pos) cRetN := by
  refine ⟨fun {Zx Z F φ L ρ σ H o} hs ss h D q => PS.wp ps_retN ?_⟩
  simp only [cRetN, Option.some.injEq] at h
  subst h
  exact q Z F φ H .non (Sub.refl F) (List.prefix_refl φ) ss.out hs .non
def cIfS (t : TF) (f g : SF) : SF := fun ρ L => match t ρ L with
  | none => none
  | some (true, L') => f ρ L'
  | some (false, L') => g ρ L'
theorem is_if {c : Expr} {x y : List Stmt} {t : TF} {f g : SF} (hc : IT X c t) (ha : ISs X x f) (hb : ISs X y g) : IS X (.If c x y pos) (cIfS t f g) := by
  refine ⟨fun {Zx Z F φ L ρ σ H o} hs ss h D q => PS.wp (ps_if wpT wpSs wpSs) ?_⟩
  unfold cIfS at h
  split at h
  · cases h
  · rename_i L1 e1
    refine hc.run hs ss e1 _ fun F1 φ1 H1 s1 p1 hs1 => ?_
    rw [if_pos rfl]
    exact ha.run hs1 (ss.mono s1 p1) h D (q.step s1 p1)
  · rename_i L1 e1
    refine hc.run hs ss e1 _ fun F1 φ1 H1 s1 p1 hs1 => ?_
    rw [if_neg (by decide)]
    exact hb.run hs1 (ss.mono s1 p1) h D (q.step s1 p1)
/-! ### storing -/
def cSet (i : Nat) (f : EF) : SF := fun ρ L => match f ρ L with
  | none => none
  | some (w, L') => if i < ρ.length then some (.nx (ρ.set i (.va w)) L') else none
theorem setting {i : Nat} {f : EF} {st : Stmt} (h0 : ∀ te, (∀ σ H Q, te σ H Q → Wp X e σ H Q) → PS X st (tAsg te (gName i))) (he : IE X e f) : IS X st (cSet i f) := by
  refine ⟨fun {Zx Z F φ L ρ σ H o} hs ss h D q => PS.wp (h0 (Wp X e) fun _ _ _ h => h) ?_⟩
  unfold cSet at h
  split at h
  · cases h
  rename_i w L1 e1
  split at h
  · rename_i hi
    simp only [Option.some.injEq] at h
    subst h
    exact he.run hs ss e1 _ fun F1 φ1 H1 v s1 p1 hs1 r1 => q Z F1 φ1 _ H1 s1 p1 hs1 ((ss.mono s1 p1).setva hi r1)
  · cases h
theorem is_set (i : Nat) {x : Str} {pos' : Pos} {f : EF} (hN : X.N.Nodup) (hi : X.N[i]? = some x) (hx : Loc X.env.scope x) (he : IE X e f) (hs' : swapsWith e (some (.Name x pos')) pos.line X.env = pure false := by rfl)
    (hf : X.fn x = true ∨ X.env.scope.names.lookup x = some .local := by first | exact .inl rfl | exact .inr rfl | assumption) : IS X (.Assign [.Name x pos'] e pos) (cSet i f) :=
  setting (fun te ht => ps_set hN hi hx ⟨fun pins s σ H Q I h => ht σ H Q h pins s I⟩ hs' hf) he
def cSetO (i : Nat) (f : NF) : SF := fun ρ L => match f ρ L with
  | none => none
  | some (m, L') => if i < ρ.length then some (.nx (ρ.set i (.ow m)) L') else none
theorem settingO {i : Nat} {f : NF} {st : Stmt} (h0 : PS X st (tAsg (Wp X e) (gName i))) (he : IN X e f) : IS X st (cSetO i f) := by
  refine ⟨fun {Zx Z F φ L ρ σ H o} hs ss h D q => PS.wp h0 ?_⟩
  unfold cSetO at h
  split at h
  · cases h
  rename_i w L1 e1
  split at h
  · rename_i hi
    simp only [Option.some.injEq] at h
    subst h
    exact he.run hs ss e1 _ fun F1 φ1 H1 p o s1 p1 z hs1 r1 => q _ F1 φ1 _ H1 s1 p1 hs1 ((ss.mono s1 p1).setow hi z r1)
  · cases h
theorem is_setO (i : Nat) {x : Str} {pos' : Pos} {f : NF} (hN : X.N.Nodup) (hi : X.N[i]? = some x) (hx : Loc X.env.scope x) (he : IN X e f) (hs' : swapsWith e (some (.Name x pos')) pos.line X.env = pure false := by rfl)
    (hf : X.fn x = true ∨ X.env.scope.names.lookup x = some .local := by first | exact .inl rfl | exact .inr rfl | assumption) : IS X (.Assign [.Name x pos'] e pos) (cSetO i f) :=
  settingO (ps_set hN hi hx wpE hs' hf) he
/-- name = [..] on one line -/
theorem ps_setLcW {i : Nat} {y : Str} {py : Pos} {elt tg iter : Expr} {ifs : List Expr} {scope : Scope} {own : List (Str × Nat)} {spos : Pos} {src : AF} {g : GF} {tt : TF} {te : EF} {ix : List Nat} (hc : X.calm = true) (hN : X.N.Nodup) (hy : X.N[i]? = some y) (hyl : X.env.scope.names.lookup y = some .local)
    (hsw : swapsWith (.ListComp elt [⟨tg, iter, ifs, 0⟩] scope pos) (some (.Name y py)) spos.line X.env = pure true) (hi : II X tg iter src) (ok : BlkOk X.N X.env.scope scope own) (hix : ∀ i ∈ ix, i ∈ own.map (·.2))
    (hg : ∀ (s : Shared) (H : Hp) (C : Addr) (cl : List (Str × Addr)) (fp : List Addr), IG (X.blk s H scope (compEnvC scope cl C X.env) fp) tg ix g) (ht : ∀ (s : Shared) (H : Hp) (C : Addr) (cl : List (Str × Addr)) (fp : List Addr), ITs (X.blk s H scope (compEnvC scope cl C X.env) fp) ifs tt)
    (he : ∀ (s : Shared) (H : Hp) (C : Addr) (cl : List (Str × Addr)) (fp : List Addr), IE (X.blk s H scope (compEnvC scope cl C X.env) fp) elt te) (hs' : ∀ x, foldedSetIterable iter X.env x = pure x := by intro _; rfl) :
    IS X (.Assign [.Name y py] (.ListComp elt [⟨tg, iter, ifs, 0⟩] scope pos) spos) (cSetO i (cLc src g tt te (own.map (·.2)))) := by
  refine ⟨fun {Zx Z F φ L ρ σ H o} hs ss h D q => ?_⟩
  let gW : TG := fun v σ H Q => ∀ (s : Shared) (H0 : Hp) (C : Addr) (cl : List (Str × Addr)) (fp : List Addr), WpG (X.blk s H0 scope (compEnvC scope cl C X.env) fp) tg v σ H Q
  let tW : TT := fun σ H Q => ∀ (s : Shared) (H0 : Hp) (C : Addr) (cl : List (Str × Addr)) (fp : List Addr), WpTs (X.blk s H0 scope (compEnvC scope cl C X.env) fp) ifs σ H Q
  let eW : TE := fun σ H Q => ∀ (s : Shared) (H0 : Hp) (C : Addr) (cl : List (Str × Addr)) (fp : List Addr), Wp (X.blk s H0 scope (compEnvC scope cl C X.env) fp) elt σ H Q
  refine PS.wp (ps_setLc hc hN hy hyl hsw wpI ok (g := gW) (tt := tW) (te := eW) (fun s H C cl fp => ⟨fun pins s' σ H v u Q I r h => h s _ C cl fp pins s' u I r⟩) (fun s H C cl fp => ⟨fun pins s' σ H Q I h => h s _ C cl fp pins s' I⟩) (fun s H C cl fp => ⟨fun pins s' σ H Q I h => h s _ C cl fp pins s' I⟩) hs') ?_
  unfold cSetO at h
  split at h
  · cases h
  rename_i m L1 e1
  split at h
  · rename_i hi'
    simp only [Option.some.injEq] at h
    subst h
    refine lc_run (ifs := ifs) (elt := elt) (scope := scope) hi hix gW tW eW ?_ ?_ ?_ hs ss e1 _ fun F1 φ1 H1 p o s1 p1 z hs1 r1 => ?_
    · intro _ _ _ _ _ _ _ _ _ _ _ h1 h2 h3 h4 Q q s H0 C cl fp
      exact (hg s H0 C cl fp).run h1 h2 h3 h4 Q q
    · intro _ _ _ _ _ _ _ _ _ _ h1 h2 h3 Q q s H0 C cl fp
      obtain ⟨t, k1, k2⟩ := (ht s H0 C cl fp).run h1 h2 h3 Q q
      exact PTs.wp k1 k2
    · intro _ _ _ _ _ _ _ _ _ _ h1 h2 h3 Q q s H0 C cl fp
      exact (he s H0 C cl fp).run h1 h2 h3 Q q
    · exact q _ F1 φ1 _ H1 s1 p1 hs1 ((ss.mono s1 p1).setow hi' z r1)
  · cases h
/-- behind a statement, the slot's own thing is frozen -/
def cFz2 (i : Nat) (f : SF) : SF := fun ρ L => match f ρ L with
  | some (.nx ρ1 L1) => (match ρ1[i]? with
    | some (.ow m) => some (.nx (ρ1.set i (.va m.fz)) L1)
    | _ => some (.nx ρ1 L1))
  | o => o
theorem IS.fz2 {f : SF} (i : Nat) (h : IS X st f) : IS X st (cFz2 i f) := by
  refine ⟨fun {Zx Z F φ L ρ σ H o} hs ss h' D q => ?_⟩
  unfold cFz2 at h'
  cases e1 : f ρ L with
  | none => rw [e1] at h'; cases h'
  | some o1 =>
    rw [e1] at h'
    refine h.run hs ss e1 D ?_
    cases o1 with
    | nx ρ1 L1 =>
      simp only at h'
      split at h'
      · rename_i m e2
        simp only [Option.some.injEq] at h'
        subst h'
        intro Z1 F1 φ1 σ1 H1 s1 p1 hs1 ss1
        obtain ⟨Z', F', s2, hs2, ss2⟩ := ss1.frozen hs1 e2
        exact q Z' F' φ1 σ1 H1 (s1.trans s2) p1 hs2 ss2
      · simp only [Option.some.injEq] at h'
        subst h'
        exact q
    | bk ρ1 L1 => cases h'; exact q
    | ct ρ1 L1 => cases h'; exact q
    | rt w L1 => cases h'; exact q
def cAsg (g : GF) (f : EF) : SF := fun ρ L => match f ρ L with
  | none => none
  | some (w, L') => match g w ρ with
    | none => none
    | some ρ' => some (.nx ρ' L')
theorem is_asg {tg : Expr} {ix : List Nat} {g : GF} {f : EF} (he : IE X e f) (hg : IG X tg ix g) (hs' : swapsWithSole [tg] e pos.line X.env = pure false := by rfl) (hw : swappedStores [tg] e X.env = pure none := by rfl)
    (h1 : (assignEach [tg] X.env).map (·.2) = [assign tg X.env] := by rfl) : IS X (.Assign [tg] e pos) (cAsg g f) := by
  refine ⟨fun {Zx Z F φ L ρ σ H o} hs ss h D q => PS.wp (ps_asg wpE wpG hs' hw h1) ?_⟩
  unfold cAsg at h
  split at h
  · cases h
  rename_i w L1 e1
  split at h
  · cases h
  rename_i ρ' e2
  simp only [Option.some.injEq] at h
  subst h
  exact he.run hs ss e1 _ fun F1 φ1 H1 v s1 p1 hs1 r1 => hg.run hs1 (ss.mono s1 p1) r1 e2 _ fun σ' ss' _ => q Z F1 φ1 σ' H1 s1 p1 hs1 ss'
/-- x += e -/
def cAug (i : Nat) (g : W → W → Option W) (f : EF) : SF := fun ρ L => match ρ[i]? with
  | some (.va x) => (match f ρ L with
    | none => none
    | some (y, L') => match g x y with
      | none => none
      | some w => some (.nx (ρ.set i (.va w)) L'))
  | _ => none
theorem is_aug {i : Nat} {x : Str} {op : Operator} {pos' : Pos} {r : R2} {g : W → W → Option W} {f : EF} (ho : OpR X (inplaceOp op) r) (sg : Op2 X r g) (hN : X.N.Nodup) (hi : X.N[i]? = some x) (hx : Loc X.env.scope x) (he : IE X e f)
    (hf : X.fn x = true ∨ X.env.scope.names.lookup x = some .local := by first | exact .inl rfl | exact .inr rfl | assumption) : IS X (.AugAssign (.Name x pos') op e pos) (cAug i g f) := by
  refine ⟨fun {Zx Z F φ L ρ σ H o} hs ss h D q => PS.wp (ps_aug hN hi hx wpE (ti := r) ho hf) ?_⟩
  unfold cAug at h
  split at h
  · rename_i wx e0
    have hl : i < ρ.length := (List.getElem?_eq_some_iff.mp e0).1
    split at h
    · cases h
    rename_i y L1 e1
    split at h
    · cases h
    rename_i w e2
    simp only [Option.some.injEq] at h
    subst h
    obtain ⟨v, h1, h2⟩ := ss.va i _ e0
    refine ⟨v, h1, he.run hs ss e1 _ fun F1 φ1 H1 vy s1 p1 hs1 r1 => ?_⟩
    exact sg hs1 (h2.mono s1 p1) r1 e2 _ fun F3 H3 v3 s3 hs3 rv => q Z F3 φ1 _ H3 (s1.trans s3) p1 hs3 ((ss.mono (s1.trans s3) p1).setva hl rv)
  · cases h
def addI : W → W → Option W
  | .int i, .int j => some (.int (i + j))
  | _, _ => none
theorem is_augadd {i : Nat} {x : Str} {pos' : Pos} {f : EF} (hN : X.N.Nodup) (hi : X.N[i]? = some x) (hx : Loc X.env.scope x) (he : IE X e f)
    (hf : X.fn x = true ∨ X.env.scope.names.lookup x = some .local := by first | exact .inl rfl | exact .inr rfl | assumption) : IS X (.AugAssign (.Name x pos') .Add e pos) (cAug i addI f) := by
  refine is_aug iop_add (fun {Z F φ L H x y w vx vy} hs rx ry h Q q => ?_) hN hi hx he hf
  unfold addI at h
  split at h
  · cases h; cases rx; cases ry
    exact ⟨_, _, rfl, rfl, flat hs (.int _) q⟩
  · cases h
/-! ### an own list or dict is changed -/
def cApp (i : Nat) (f : EF) : SF := fun ρ L => match f ρ L with
  | none => none
  | some (w, L') => match ρ[i]? with
    | some (.ow (.lst ws)) => if ws.length < 16777216 then some (.nx (ρ.set i (.ow (.lst (ws ++ [w])))) L') else none
    | _ => none
theorem is_app (i : Nat) {x : Str} {px apos cpos : Pos} {f : EF} (he : IE X e f) (hN : X.N[i]? = some x := by rfl) (hv : Vis X.env.scope x := by first | exact Or.inl rfl | exact Or.inr (Or.inl rfl) | exact Or.inr (Or.inr rfl)) (hd : (x == ("__debug__" : Str)) = false := by decide)
    (hcd : (x == ("__classdict__" : Str)) = false := by decide) (hs' : swapsWith (.Call (.Attribute (.Name x px) "append" apos) [e] [] cpos) none pos.line X.env = pure false := by rfl)
    (hb : attributeBase (.Name x px) "append" X.env (eval (.Name x px) X.env) = eval (.Name x px) X.env := by rfl)
    (hfew : ((backTo cpos (starEach (e :: []) X.env)).all (fun x => !x.1) && (backToKw cpos (keywordEach [] X.env)).all (fun x => x.1.isSome)
      && decide ((e :: []).length + ([] : List Keyword).length + (if ([] : List Keyword).isEmpty then 0 else 1) < 30)) = true := by rfl)
    (hline : (apos.endLine == cpos.line) = true := by rfl) (hst : starEach (e :: []) X.env = (false, eval e X.env) :: starEach [] X.env := by rfl) (hplain : (backTo cpos (starEach [] X.env)).any (·.1) = false := by rfl) :
    IS X (.Expr (.Call (.Attribute (.Name x px) "append" apos) [e] [] cpos) pos) (cApp i f) := by
  refine ⟨fun {Zx Z F φ L ρ σ H o} hs ss h D q => PS.wp (ps_expr (pe_bm PySem.F.plainAttrs_list PySem.F.slot_list_append PySem.F.type_list_append mt_append (pe_var hN hv hd hcd) (pa_cons wpE pa_nil hst) hb hfew hline hst hplain) hs') ?_⟩
  unfold cApp at h
  split at h
  · cases h
  rename_i w L1 e1
  split at h
  · rename_i ws e2
    split at h
    · rename_i hz
      simp only [Option.some.injEq] at h
      subst h
      obtain ⟨p, ho, h1, h2, h3, h4⟩ := ss.ow i _ e2
      have hH := (hs.ext p ho h2).1
      cases ho <;> first | exact h4.elim | skip
      rename_i vs
      refine ⟨_, h1, .inl ⟨rfl, _, SqL.of hH⟩, ?_⟩
      refine he.run hs ss e1 _ fun F1 φ1 H1 v s1 p1 hs1 r1 => ?_
      have hH1 := (hs1.ext p _ h2).1
      have rv : Rs X.K F φ ws vs := h4
      refine ⟨p, vs, v, rfl, rfl, hH1, by rw [← rv.length, sizeLine_eq]; exact hz, ?_⟩
      have m2 : MOk X.K F1 φ1 (.lst (ws ++ [w])) (.lst (vs ++ [v])) := Rs.append (rv.mono s1 p1) (.one r1)
      exact q _ F1 φ1 σ _ s1 p1 (hs1.turn h2) ((ss.mono s1 p1).turn e2 h1 m2)
    · cases h
  · cases h

/-! ### loops -/
def forLoop (g : GF) (body : SF) : List W → Ro → Lg → Option Out
  | [], ρ, L => some (.nx ρ L)
  | x :: xs, ρ, L => match g x ρ with
    | none => none
    | some ρ1 => match body ρ1 L with
      | none => none
      | some (.nx ρ2 L2) => forLoop g body xs ρ2 L2
      | some (.ct ρ2 L2) => forLoop g body xs ρ2 L2
      | some (.bk ρ2 L2) => some (.nx ρ2 L2)
      | some (.rt w L2) => some (.rt w L2)
def cFor (src : AF) (g : GF) (body : SF) : SF := fun ρ L => match src ρ L with
  | none => none
  | some (xs, L1) => forLoop g body xs ρ L1
theorem is_for {tg iter : Expr} {bd : List Stmt} {src : AF} {g : GF} {body : SF} {ix : List Nat} (hp : PassesOwn (model X.prog X.w) X.A X.env X.xe) (hc : X.calm = true) (hi : II X tg iter src) (hg : IG X tg ix g) (hb : ISs X bd body)
    (hs' : ∀ x, foldedSetIterable iter X.env x = pure x := by intro _; rfl) : IS X (.For tg iter bd [] pos) (cFor src g body) := by
  refine ⟨fun {Zx Z F φ L ρ σ H o} hs ss h D q => PS.wp (ps_for hp hc wpI wpG wpSs hs') ?_⟩
  unfold cFor at h
  split at h
  · cases h
  rename_i xs L1 e1
  refine hi.run hs ss e1 _ fun F1 φ1 H1 J s1 p1 hs1 itok => ?_
  refine ⟨fun i mm σ' H' => mm = xs.length - i ∧ i ≤ xs.length ∧ ∃ (Z2 F2 : Hp) (φ2 : List Addr) (ρ2 : Ro) (L2 : Lg), Sub F1 F2 ∧ φ1 <+: φ2 ∧ Hs X.K X.mg Z2 F2 φ2 L2 H' ∧ Ss X.K Zx Z2 F2 φ2 ρ2 σ' ∧ forLoop g body (xs.drop i) ρ2 L2 = some o,
    ⟨xs.length, rfl, Nat.zero_le _, Z, F1, φ1, ρ, L1, Sub.refl F1, List.prefix_refl φ1, hs1, ss.mono s1 p1, by simpa using h⟩, ?_⟩
  rintro i mm σ' H' ⟨rfl, hi', Z2, F2, φ2, ρ2, L2, s2, p2, hs2, ss2, e2⟩
  obtain ⟨it1, it2⟩ := itok i s2 p2 hs2
  by_cases hlt : i < xs.length
  · obtain ⟨go, yl⟩ := it1 _ (List.getElem?_eq_getElem hlt)
    refine .inr ⟨go, fun σ' H' => ∃ (Z2 F2 : Hp) (φ2 : List Addr) (ρ2 : Ro) (L2 : Lg), Sub F1 F2 ∧ φ1 <+: φ2 ∧ Hs X.K X.mg Z2 F2 φ2 L2 H' ∧ Ss X.K Zx Z2 F2 φ2 ρ2 σ' ∧ forLoop g body (xs.drop (i + 1)) ρ2 L2 = some o,
      fun σ' H' n => ⟨xs.length - (i + 1), by omega, rfl, hlt, n⟩, fun v H3 y => ?_⟩
    obtain ⟨F3, s3, hs3, r3⟩ := yl v H3 y
    rw [List.drop_eq_getElem_cons hlt] at e2
    unfold forLoop at e2
    split at e2
    · cases e2
    rename_i ρ3 g1
    refine hg.run hs3 (ss2.mono s3 (List.prefix_refl φ2)) r3 g1 _ fun σ4 ss4 _ => ?_
    have s13 := s2.trans s3
    cases e5 : body ρ3 L2 with
    | none => rw [e5] at e2; cases e2
    | some o1 =>
      rw [e5] at e2
      refine hb.run hs3 ss4 e5 _ ?_
      cases o1 with
      | nx ρ5 L5 => exact fun Z5 F5 φ5 σ5 H5 s5 p5 hs5 ss5 => ⟨Z5, F5, φ5, ρ5, L5, s13.trans s5, List.IsPrefix.trans p2 p5, hs5, ss5, e2⟩
      | ct ρ5 L5 => exact fun Z5 F5 φ5 σ5 H5 s5 p5 hs5 ss5 => ⟨Z5, F5, φ5, ρ5, L5, s13.trans s5, List.IsPrefix.trans p2 p5, hs5, ss5, e2⟩
      | bk ρ5 L5 =>
        cases e2
        exact fun Z5 F5 φ5 σ5 H5 s5 p5 hs5 ss5 => q Z5 F5 φ5 σ5 H5 (s1.trans (s13.trans s5)) (List.IsPrefix.trans p1 (List.IsPrefix.trans p2 p5)) hs5 ss5
      | rt w L5 =>
        cases e2
        exact fun Z5 F5 φ5 H5 v5 s5 p5 z hs5 r5 => q Z5 F5 φ5 H5 v5 (s1.trans (s13.trans s5)) (List.IsPrefix.trans p1 (List.IsPrefix.trans p2 p5)) z hs5 r5
  · have ei : i = xs.length := by omega
    subst ei
    refine .inl ⟨it2 (Nat.le_refl _), ?_⟩
    rw [List.drop_length] at e2
    simp only [forLoop, Option.some.injEq] at e2
    subst e2
    exact q Z2 F2 φ2 σ' H' (s1.trans s2) (List.IsPrefix.trans p1 p2) hs2 ss2
def whN (t : TF) (b : SF) : Nat → Ro → Lg → Option Out
  | 0, _, _ => none
  | n + 1, ρ, L => match t ρ L with
    | none => none
    | some (false, L1) => some (.nx ρ L1)
    | some (true, L1) => match b ρ L1 with
      | none => none
      | some (.nx ρ2 L2) => whN t b n ρ2 L2
      | some (.ct ρ2 L2) => whN t b n ρ2 L2
      | some (.bk ρ2 L2) => some (.nx ρ2 L2)
      | some (.rt w L2) => some (.rt w L2)
theorem whN_more {t : TF} {b : SF} : ∀ (n : Nat) (ρ : Ro) (L : Lg) (o : Out), whN t b n ρ L = some o → whN t b (n + 1) ρ L = some o
  | 0, _, _, _, h => by cases h
  | n + 1, ρ, L, o, h => by
    unfold whN at h ⊢
    cases e1 : t ρ L with
    | none => rw [e1] at h; cases h
    | some kl =>
      obtain ⟨k, L1⟩ := kl
      rw [e1] at h
      cases k with
      | false => exact h
      | true =>
        simp only at h ⊢
        cases e2 : b ρ L1 with
        | none => rw [e2] at h; cases h
        | some o1 =>
          rw [e2] at h
          cases o1 with
          | nx ρ2 L2 => exact whN_more n ρ2 L2 o h
          | ct ρ2 L2 => exact whN_more n ρ2 L2 o h
          | bk ρ2 L2 => exact h
          | rt w L2 => exact h
open Classical in
noncomputable def cWhile (t : TF) (b : SF) : SF := fun ρ L => if h : ∃ o n, whN t b n ρ L = some o then some (Classical.choose h) else none
theorem whN_add {t : TF} {b : SF} {ρ : Ro} {L : Lg} {o : Out} {n : Nat} (h : whN t b n ρ L = some o) : ∀ k, whN t b (n + k) ρ L = some o
  | 0 => h
  | k + 1 => whN_more _ _ _ _ (whN_add h k)
theorem cWhile_of {t : TF} {b : SF} {ρ : Ro} {L : Lg} {o : Out} {n : Nat} (h : whN t b n ρ L = some o) : cWhile t b ρ L = some o := by
  have hx : ∃ o n, whN t b n ρ L = some o := ⟨o, n, h⟩
  unfold cWhile
  rw [dif_pos hx]
  obtain ⟨n', h'⟩ := Classical.choose_spec hx
  have a1 := whN_add h n'
  have a2 := whN_add h' n
  rw [Nat.add_comm n' n, a1] at a2
  exact a2.symm
theorem cWhile_some {t : TF} {b : SF} {ρ : Ro} {L : Lg} {o : Out} (h : cWhile t b ρ L = some o) : ∃ n, whN t b n ρ L = some o := by
  unfold cWhile at h
  split at h
  · rename_i hx
    simp only [Option.some.injEq] at h
    rw [← h]
    exact Classical.choose_spec hx
  · cases h
theorem is_while {c : Expr} {bd : List Stmt} {t : TF} {body : SF} (hp : PassesOwn (model X.prog X.w) X.A X.env X.xe) (hc : IT X c t) (hb : ISs X bd body) : IS X (.While c bd [] pos) (cWhile t body) := by
  refine ⟨fun {Zx Z F φ L ρ σ H o} hs ss h D q => PS.wp (ps_while hp wpT wpSs) ?_⟩
  obtain ⟨n0, h⟩ := cWhile_some h
  refine ⟨fun n σ' H' => ∃ (Z2 F2 : Hp) (φ2 : List Addr) (ρ2 : Ro) (L2 : Lg), Sub F F2 ∧ φ <+: φ2 ∧ Hs X.K X.mg Z2 F2 φ2 L2 H' ∧ Ss X.K Zx Z2 F2 φ2 ρ2 σ' ∧ whN t body n ρ2 L2 = some o,
    ⟨n0, Z, F, φ, ρ, L, Sub.refl F, List.prefix_refl φ, hs, ss, h⟩, ?_⟩
  rintro n σ' H' ⟨Z2, F2, φ2, ρ2, L2, s2, p2, hs2, ss2, e2⟩
  cases n with
  | zero => cases e2
  | succ n =>
    unfold whN at e2
    split at e2
    · cases e2
    · rename_i L3 e3
      simp only [Option.some.injEq] at e2
      subst e2
      refine hc.run hs2 ss2 e3 _ fun F4 φ4 H4 s4 p4 hs4 => ?_
      rw [if_neg (by decide)]
      exact q Z2 F4 φ4 σ' H4 (s2.trans s4) (List.IsPrefix.trans p2 p4) hs4 (ss2.mono s4 p4)
    · rename_i L3 e3
      refine hc.run hs2 ss2 e3 _ fun F4 φ4 H4 s4 p4 hs4 => ?_
      rw [if_pos rfl]
      refine ⟨fun σ' H' => ∃ (Z2 F2 : Hp) (φ2 : List Addr) (ρ2 : Ro) (L2 : Lg), Sub F F2 ∧ φ <+: φ2 ∧ Hs X.K X.mg Z2 F2 φ2 L2 H' ∧ Ss X.K Zx Z2 F2 φ2 ρ2 σ' ∧ whN t body n ρ2 L2 = some o,
        fun σ' H' w => ⟨n, Nat.lt_succ_self n, w⟩, ?_⟩
      have s24 := s2.trans s4
      have p24 := List.IsPrefix.trans p2 p4
      cases e5 : body ρ2 L3 with
      | none => rw [e5] at e2; cases e2
      | some o1 =>
        rw [e5] at e2
        refine hb.run hs4 (ss2.mono s4 p4) e5 _ ?_
        cases o1 with
        | nx ρ5 L5 => exact fun Z5 F5 φ5 σ5 H5 s5 p5 hs5 ss5 => ⟨Z5, F5, φ5, ρ5, L5, s24.trans s5, List.IsPrefix.trans p24 p5, hs5, ss5, e2⟩
        | ct ρ5 L5 => exact fun Z5 F5 φ5 σ5 H5 s5 p5 hs5 ss5 => ⟨Z5, F5, φ5, ρ5, L5, s24.trans s5, List.IsPrefix.trans p24 p5, hs5, ss5, e2⟩
        | bk ρ5 L5 =>
          cases e2
          exact fun Z5 F5 φ5 σ5 H5 s5 p5 hs5 ss5 => q Z5 F5 φ5 σ5 H5 (s24.trans s5) (List.IsPrefix.trans p24 p5) hs5 ss5
        | rt w L5 =>
          cases e2
          exact fun Z5 F5 φ5 H5 v5 s5 p5 z hs5 r5 => q Z5 F5 φ5 H5 v5 (s24.trans s5) (List.IsPrefix.trans p24 p5) z hs5 r5

/-! ### calls of defs -/
abbrev DF := List W → Lg → Option (W × Lg)
def spI (K : PySem.W.Frag) (mg : Str → Option Value) (n : Nat) (d : DF) : Sp := fun vs H Q _ => ∃ (Z F : Hp) (φ : List Addr) (L : Lg) (ws : List W) (w : W) (L' : Lg), Hs K mg Z F φ L H ∧ Rs K F φ ws vs ∧ ws.length = n ∧ d ws L = some (w, L') ∧
  ∀ (Z' F' : Hp) (φ' : List Addr) (H' : Hp) (v : V), Sub F F' → φ <+: φ' → Sub Z Z' → Hs K mg Z' F' φ' L' H' → R K F' φ' w v → Q v H'
def cCall (d : DF) (g : AF) : EF := fun ρ L => match g ρ L with
  | none => none
  | some (ws, L1) => d ws L1
theorem ie_call {k n : Nat} {f : Addr} {fd : FuncData} {ps : List Str} {x : Str} {p : Pos} {d : DF} {g : AF} (F : FnOk X.prog X.w X.K X.mg X.base CX0 k f fd ps (spI X.K X.mg n d)) (hr : Room k X.A) (hg : Gl X x) (hm : X.mg x = some (.ref f)) (hk : PySem.W.keepIn X.K (.ref f) = true) (hb : Binds X.K fd ps [])
    (ha : IA X (e :: es) g) (hn : ∀ ρ L ws L', g ρ L = some (ws, L') → ws.length = n) (hdb : (x == ("__debug__" : Str)) = false := by decide) (he : starEach (e :: es) X.env = (false, eval e X.env) :: starEach es X.env := by rfl) (hpl : (backTo pos (starEach es X.env)).any (·.1) = false := by rfl) :
    IE X (.Call (.Name x p) (e :: es) [] pos) (cCall d g) := by
  refine ⟨fun {Zx Z F1 φ L ρ σ H w L'} hs ss h Q q => PE.wp (pe_call (E := E0) (dvs := []) F hr hg hm hk hb .nil pass0 wpA hdb he hpl) ?_⟩
  unfold cCall at h
  split at h
  · cases h
  rename_i ws L1 e1
  refine ha.run hs ss e1 _ fun F2 φ2 H2 vs s2 p2 hs2 r2 => ?_
  refine ⟨Z, F2, φ2, L1, ws, w, L', hs2, by rw [List.append_nil]; exact r2, hn _ _ _ _ e1, h, fun Z' F' φ' H' v s3 p3 z hs3 r3 => ?_⟩
  exact q F' φ' H' v (s2.trans s3) (List.IsPrefix.trans p2 p3) (hs3.weak z) r3
theorem ie_call0 {k : Nat} {f : Addr} {fd : FuncData} {ps : List Str} {x : Str} {p : Pos} {d : DF} (F : FnOk X.prog X.w X.K X.mg X.base CX0 k f fd ps (spI X.K X.mg 0 d)) (hr : Room k X.A) (hg : Gl X x) (hm : X.mg x = some (.ref f)) (hk : PySem.W.keepIn X.K (.ref f) = true) (hb : Binds X.K fd ps [])
    (hdb : (x == ("__debug__" : Str)) = false := by decide) : IE X (.Call (.Name x p) [] [] pos) (cCall d cNil) := by
  refine ⟨fun {Zx Z F1 φ L ρ σ H w L'} hs ss h Q q => PE.wp (pe_call0 (E := E0) (dvs := []) F hr hg hm hk hb .nil pass0 hdb) ?_⟩
  simp only [cCall, cNil] at h
  refine ⟨Z, F1, φ, L, [], w, L', hs, .nil, rfl, h, fun Z' F' φ' H' v s3 p3 z hs3 r3 => ?_⟩
  exact q F' φ' H' v s3 p3 (hs3.weak z) r3
theorem len_nil : ∀ (ρ : Ro) (L : Lg) (ws : List W) (L' : Lg), cNil ρ L = some (ws, L') → ws.length = 0 := fun ρ L ws L' h => by
  simp only [cNil, Option.some.injEq, Prod.mk.injEq] at h
  rw [← h.1]; rfl
theorem len_cons {f : EF} {g : AF} {n : Nat} (hg : ∀ ρ L ws L', g ρ L = some (ws, L') → ws.length = n) : ∀ (ρ : Ro) (L : Lg) (ws : List W) (L' : Lg), cCons f g ρ L = some (ws, L') → ws.length = n + 1 := fun ρ L ws L' h => by
  unfold cCons at h
  split at h
  · cases h
  rename_i w L1 e1
  split at h
  · cases h
  rename_i ws' L2 e2
  simp only [Option.some.injEq, Prod.mk.injEq] at h
  rw [← h.1, List.length_cons, hg _ _ _ _ e2]
/-- a def's body, run on arguments -/
def runDef (N : Nat) (body : SF) : DF := fun ws L => match body (ws.map Sl.va ++ List.replicate (N - ws.length) .un) L with
  | some (.nx _ L') => some (.non, L')
  | some (.rt w L') => some (w, L')
  | _ => none
theorem Ss.start {K : PySem.W.Frag} {Z F : Hp} {φ : List Addr} {ws : List W} {vs : List V} {N : List Str} (r : Rs K F φ ws vs) : Ss K Z Z F φ (ws.map Sl.va ++ List.replicate (N.length - ws.length) .un) (L2.start N vs) := by
  have hl := r.length
  have key : ∀ {i : Nat} {x : Sl}, (ws.map Sl.va ++ List.replicate (N.length - ws.length) .un)[i]? = some x → x ≠ .un → ∃ w, ws[i]? = some w ∧ x = .va w := fun {i x} e n => by
    by_cases hi : i < ws.length
    · rw [List.getElem?_append_left (by simpa using hi), List.getElem?_map] at e
      cases q : ws[i]? with
      | none => rw [q] at e; cases e
      | some w => rw [q] at e; simp at e; exact ⟨w, rfl, e.symm⟩
    · rw [List.getElem?_append_right (by simpa using hi), List.getElem?_replicate] at e
      split at e
      · simp at e; exact absurd e.symm n
      · cases e
  refine ⟨by unfold L2.start; simp [hl], fun i w e => ?_, fun i m e => ?_, fun i j m m' a e1 e2 e3 e4 => ?_, Sub.refl Z⟩
  · obtain ⟨w', h1, h2⟩ := key e (fun z => by cases z)
    cases h2
    obtain ⟨v, k1, k2⟩ := r.get h1
    refine ⟨v, ?_, k2⟩
    unfold L2.start
    have hi : i < vs.length := (List.getElem?_eq_some_iff.mp k1).1
    rw [List.getElem?_append_left (by simpa using hi), List.getElem?_map, k1]; rfl
  · obtain ⟨w', h1, h2⟩ := key e (fun z => by cases z)
    cases h2
  · obtain ⟨w', h1, h2⟩ := key e1 (fun z => by cases z)
    cases h2
theorem fn_ok {P : Program} {w : World} {K : PySem.W.Frag} {mg : Str → Option Value} {base : Heap} {x qual : Str} {st : Stmt} {f : Addr} {fd : FuncData} {N ps : List Str} {k : Nat} {body : SF} (F : Fun K x qual st f fd) (S : FnScope N ps (defScope st))
    (hb : ∀ (cdv : Value) (A : Around) (outer : List Env) (s : Shared) (H : Hp) (E : XK), Room k (A.deeper (envOfC qual (defScope st) s.heap.objs.size f cdv)) → ISs (cxOf CX0 P w K mg base N qual (defScope st) f cdv A outer s H E).nox (defBody st) body) :
    FnOk P w K mg base CX0 (k + 1) f fd ps (spI K mg ps.length (runDef N.length body)) := by
  refine F.ok S (fun vs H Q E h => ?_) (fun cdv A outer s H vs Q E hr h => ?_)
  · obtain ⟨Z, F, φ, L, ws, w, L', h1, h2, h3, _⟩ := h
    rw [← h2.length]; exact h3
  · obtain ⟨Z, F1, φ, L, ws, w1, L', h1, h2, h3, h4, q⟩ := h
    refine ⟨_, wpSs, ?_⟩
    unfold runDef at h4
    split at h4
    · rename_i ρ1 L1 e1
      simp only [Option.some.injEq, Prod.mk.injEq] at h4
      obtain ⟨rfl, rfl⟩ := h4
      exact (hb cdv A outer s H E hr).run h1 (Ss.start h2) e1 _ fun Z' F' φ' σ' H' s1 p1 hs1 ss1 => q Z' F' φ' H' .non s1 p1 ss1.out hs1 .non
    · rename_i w2 L1 e1
      simp only [Option.some.injEq, Prod.mk.injEq] at h4
      obtain ⟨rfl, rfl⟩ := h4
      exact (hb cdv A outer s H E hr).run h1 (Ss.start h2) e1 _ fun Z' F' φ' H' v s1 p1 z hs1 r1 => q Z' F' φ' H' v s1 p1 z hs1 r1
    · cases h4

/-! ### built-ins -/
/-- a built-in by values -/
def OpN (X : Cx) (r : List V → Hp → VK → Prop) (g : List W → Option W) : Prop := ∀ {Z F : Hp} {φ : List Addr} {L : Lg} {H : Hp} {ws : List W} {w : W} {vs : List V}, Hs X.K X.mg Z F φ L H → Rs X.K F φ ws vs → g ws = some w →
  ∀ Q : VK, (∀ (F' : Hp) (H' : Hp) (v : V), Sub F F' → Hs X.K X.mg Z F' φ L H' → R X.K F' φ w v → Q v H') → r vs H Q
def cN (g : List W → Option W) (f : AF) : EF := fun ρ L => match f ρ L with
  | none => none
  | some (ws, L1) => match g ws with
    | none => none
    | some w => some (w, L1)
theorem ie_blt {x : Str} {id : String} {r : List V → Hp → VK → Prop} {g : List W → Option W} {f : AF} {p : Pos} (hc : CallR X (.builtin id) r) (sg : OpN X r g) (hg : Gl X x) (hm : X.mg x = none) (hv : bootBuiltins x = some (.builtin id)) (ha : IA X (e :: es) f) (hn : x ≠ "__name__" := by decide) (hdb : (x == ("__debug__" : Str)) = false := by decide)
    (he : starEach (e :: es) X.env = (false, eval e X.env) :: starEach es X.env := by rfl) (hpl : (backTo pos (starEach es X.env)).any (·.1) = false := by rfl) : IE X (.Call (.Name x p) (e :: es) [] pos) (cN g f) := by
  refine ⟨fun {Zx Z F φ L ρ σ H w L'} hs ss h Q q => PE.wp (pe_callB hc hg hm hv wpA hn hdb he hpl) ?_⟩
  unfold cN at h
  split at h
  · cases h
  rename_i ws L1 e1
  split at h
  · cases h
  rename_i w' e2
  simp only [Option.some.injEq, Prod.mk.injEq] at h
  obtain ⟨rfl, rfl⟩ := h
  refine ha.run hs ss e1 _ fun F1 φ1 H1 vs s1 p1 hs1 r1 => ?_
  exact sg hs1 r1 e2 Q fun F3 H3 v s3 hs3 rv => q F3 φ1 H3 v (s1.trans s3) p1 hs3 rv
theorem ie_bltT {x : Str} {T : String} {r : List V → Hp → VK → Prop} {g : List W → Option W} {f : AF} {p : Pos} (hc : CallR X (.type T) r) (sg : OpN X r g) (hg : Gl X x) (hm : X.mg x = none) (hv : bootBuiltins x = some (.type T)) (ha : IA X (e :: es) f) (hn : x ≠ "__name__" := by decide) (hdb : (x == ("__debug__" : Str)) = false := by decide)
    (he : starEach (e :: es) X.env = (false, eval e X.env) :: starEach es X.env := by rfl) (hpl : (backTo pos (starEach es X.env)).any (·.1) = false := by rfl) : IE X (.Call (.Name x p) (e :: es) [] pos) (cN g f) := by
  refine ⟨fun {Zx Z F φ L ρ σ H w L'} hs ss h Q q => PE.wp (pe_callTy hc hg hm hv wpA hn hdb he hpl) ?_⟩
  unfold cN at h
  split at h
  · cases h
  rename_i ws L1 e1
  split at h
  · cases h
  rename_i w' e2
  simp only [Option.some.injEq, Prod.mk.injEq] at h
  obtain ⟨rfl, rfl⟩ := h
  refine ha.run hs ss e1 _ fun F1 φ1 H1 vs s1 p1 hs1 r1 => ?_
  exact sg hs1 r1 e2 Q fun F3 H3 v s3 hs3 rv => q F3 φ1 H3 v (s1.trans s3) p1 hs3 rv
def absW : List W → Option W
  | [.int i] => some (.int (if i < 0 then -i else i))
  | _ => none
theorem ie_abs {f : AF} {p : Pos} (hg : Gl X "abs") (hm : X.mg "abs" = none) (ha : IA X [a] f) (he : starEach [a] X.env = (false, eval a X.env) :: starEach [] X.env := by rfl) : IE X (.Call (.Name "abs" p) [a] [] pos) (cN absW f) := by
  refine ie_blt call_abs (fun {Z F φ L H ws w vs} hs rs h Q q => ?_) hg hm (by decide +kernel) ha (he := he)
  unfold absW at h
  split at h
  · cases h
    cases rs with
    | cons r1 r2 => cases r1; cases r2; exact ⟨_, rfl, flat hs (.int _) q⟩
  · cases h
def intW : List W → Option W
  | [.int i] => some (.int i)
  | [.bl b] => some (.int (if b then 1 else 0))
  | _ => none
theorem ie_int1 {f : AF} {p : Pos} (hg : Gl X "int") (hm : X.mg "int" = none) (ha : IA X [a] f) (he : starEach [a] X.env = (false, eval a X.env) :: starEach [] X.env := by rfl) : IE X (.Call (.Name "int" p) [a] [] pos) (cN intW f) := by
  refine ie_bltT call_int1 (fun {Z F φ L H ws w vs} hs rs h Q q => ?_) hg hm (by decide +kernel) ha (he := he)
  unfold intW at h
  split at h
  · cases h
    cases rs with
    | cons r1 r2 => cases r1; cases r2; exact .inl ⟨_, rfl, flat hs (.int _) q⟩
  · cases h
    cases rs with
    | cons r1 r2 => cases r1; cases r2; exact .inr ⟨_, rfl, flat hs (.int _) q⟩
  · cases h
def minW2 : List W → Option W
  | [.int i, .int j] => some (.int (if j < i then j else i))
  | _ => none
def maxW2 : List W → Option W
  | [.int i, .int j] => some (.int (if j > i then j else i))
  | _ => none
theorem ie_min2 {f : AF} {p : Pos} (hcm : X.calm = true) (hg : Gl X "min") (hm : X.mg "min" = none) (ha : IA X [a, b] f) (he : starEach [a, b] X.env = (false, eval a X.env) :: starEach [b] X.env := by rfl) (hpl : (backTo pos (starEach [b] X.env)).any (·.1) = false := by rfl) : IE X (.Call (.Name "min" p) [a, b] [] pos) (cN minW2 f) := by
  refine ie_blt (call_min2 hcm) (fun {Z F φ L H ws w vs} hs rs h Q q => ?_) hg hm (by decide +kernel) ha (he := he) (hpl := hpl)
  unfold minW2 at h
  split at h
  · cases h
    cases rs with
    | cons r1 r2 =>
      cases r2 with
      | cons r2 r3 => cases r1; cases r2; cases r3; exact ⟨_, _, rfl, flat hs (.int _) q⟩
  · cases h
theorem ie_max2 {f : AF} {p : Pos} (hcm : X.calm = true) (hg : Gl X "max") (hm : X.mg "max" = none) (ha : IA X [a, b] f) (he : starEach [a, b] X.env = (false, eval a X.env) :: starEach [b] X.env := by rfl) (hpl : (backTo pos (starEach [b] X.env)).any (·.1) = false := by rfl) : IE X (.Call (.Name "max" p) [a, b] [] pos) (cN maxW2 f) := by
  refine ie_blt (call_max2 hcm) (fun {Z F φ L H ws w vs} hs rs h Q q => ?_) hg hm (by decide +kernel) ha (he := he) (hpl := hpl)
  unfold maxW2 at h
  split at h
  · cases h
    cases rs with
    | cons r1 r2 =>
      cases r2 with
      | cons r2 r3 => cases r1; cases r2; cases r3; exact ⟨_, _, rfl, flat hs (.int _) q⟩
  · cases h
/-! one container as the argument -/
def OpC (X : Cx) (r : List V → Hp → VK → Prop) (g : W → Option W) : Prop := ∀ {Z F : Hp} {φ : List Addr} {L : Lg} {H : Hp} {w0 w : W} {v0 : V}, Hs X.K X.mg Z F φ L H → Cont X.K F φ H w0 v0 → g w0 = some w →
  ∀ Q : VK, (∀ (F' : Hp) (H' : Hp) (v : V), Sub F F' → Hs X.K X.mg Z F' φ L H' → R X.K F' φ w v → Q v H') → r [v0] H Q
def cC (g : W → Option W) (f : OF) : EF := fun ρ L => match f ρ L with
  | none => none
  | some (h, L1) => match cont ρ L1 h with
    | none => none
    | some w0 => match g w0 with
      | none => none
      | some w => some (w, L1)
theorem ctn {r : List V → Hp → VK → Prop} {g : W → Option W} {f : OF} (sg : OpC X r g) (ha : IO X a f) {Zx Z F : Hp} {φ : List Addr} {L : Lg} {ρ : Ro} {σ : L2.St} {H : Hp} {w : W} {L' : Lg} (hs : Hs X.K X.mg Z F φ L H) (ss : Ss X.K Zx Z F φ ρ σ) (h : cC g f ρ L = some (w, L'))
    (Q : VK) (q : ∀ (F' : Hp) (φ' : List Addr) (H' : Hp) (v : V), Sub F F' → φ <+: φ' → Hs X.K X.mg Z F' φ' L' H' → R X.K F' φ' w v → Q v H') : tCB r (tCons (Wp X a) tNil) σ H Q := by
  unfold cC at h
  split at h
  · cases h
  rename_i hd L1 e1
  split at h
  · cases h
  rename_i w0 e2
  split at h
  · cases h
  rename_i w1 e3
  simp only [Option.some.injEq, Prod.mk.injEq] at h
  obtain ⟨rfl, rfl⟩ := h
  refine ha.run hs ss e1 _ fun F1 φ1 H1 v s1 p1 hs1 r1 => ?_
  exact sg hs1 (cont_ok hs1 (ss.mono s1 p1) r1 e2) e3 Q fun F3 H3 v s3 hs3 rv => q F3 φ1 H3 v (s1.trans s3) p1 hs3 rv
theorem ie_bltC {x : Str} {id : String} {r : List V → Hp → VK → Prop} {g : W → Option W} {f : OF} {p : Pos} (hc : CallR X (.builtin id) r) (sg : OpC X r g) (hg : Gl X x) (hm : X.mg x = none) (hv : bootBuiltins x = some (.builtin id)) (ha : IO X a f) (hn : x ≠ "__name__" := by decide) (hdb : (x == ("__debug__" : Str)) = false := by decide)
    (he : starEach [a] X.env = (false, eval a X.env) :: starEach [] X.env := by rfl) (hpl : (backTo pos (starEach [] X.env)).any (·.1) = false := by rfl) : IE X (.Call (.Name x p) [a] [] pos) (cC g f) :=
  ⟨fun hs ss h Q q => PE.wp (pe_callB hc hg hm hv (pa_cons wpE pa_nil he) hn hdb he hpl) (ctn sg ha hs ss h Q q)⟩
theorem ie_bltCT {x : Str} {T : String} {r : List V → Hp → VK → Prop} {g : W → Option W} {f : OF} {p : Pos} (hc : CallR X (.type T) r) (sg : OpC X r g) (hg : Gl X x) (hm : X.mg x = none) (hv : bootBuiltins x = some (.type T)) (ha : IO X a f) (hn : x ≠ "__name__" := by decide) (hdb : (x == ("__debug__" : Str)) = false := by decide)
    (he : starEach [a] X.env = (false, eval a X.env) :: starEach [] X.env := by rfl) (hpl : (backTo pos (starEach [] X.env)).any (·.1) = false := by rfl) : IE X (.Call (.Name x p) [a] [] pos) (cC g f) :=
  ⟨fun hs ss h Q q => PE.wp (pe_callTy hc hg hm hv (pa_cons wpE pa_nil he) hn hdb he hpl) (ctn sg ha hs ss h Q q)⟩
/-- a list's or tuple's items -/
theorem Cont.seq {K : PySem.W.Frag} {F H : Hp} {φ : List Addr} {ws : List W} {v : V} (s : Sub F H) (h : Cont K F φ H (.lst ws) v) : ∃ a vs, v = .ref a ∧ SqL K H a vs ∧ Rs K F φ ws vs := by
  rcases h with h | ⟨a, o, m, rfl, e, h1, h2⟩
  · cases h with
    | lst g1 g2 => exact ⟨_, _, rfl, SqL.of (s _ _ g1), g2⟩
  · cases m with
    | lst xs =>
      cases e
      cases o <;> first | exact h2.elim | skip
      exact ⟨a, _, rfl, SqL.of h1, h2⟩
    | dK xs => cases e
    | dT xs => cases e
theorem Cont.tup {K : PySem.W.Frag} {F H : Hp} {φ : List Addr} {ws : List W} {v : V} (s : Sub F H) (h : Cont K F φ H (.tup ws) v) : ∃ a vs, v = .ref a ∧ SqT K H a vs ∧ Rs K F φ ws vs := by
  rcases h with h | ⟨a, o, m, rfl, e, h1, h2⟩
  · cases h with
    | tup g1 g2 => exact ⟨_, _, rfl, g1.sq s, g2⟩
  · cases m <;> cases e
theorem Cont.scr {K : PySem.W.Frag} {F H : Hp} {φ : List Addr} {ns : List Int} {v : V} (s : Sub F H) (h : Cont K F φ H (.scr ns) v) : ∃ a, v = .ref a ∧ SqL K H a (ns.map V.int) := by
  rcases h with h | ⟨a, o, m, rfl, e, h1, h2⟩
  · cases h with
    | scr g1 => exact ⟨_, rfl, SqL.mono s g1⟩
  · cases m <;> cases e
theorem Cont.str {K : PySem.W.Frag} {F H : Hp} {φ : List Addr} {x : Str} {v : V} (h : Cont K F φ H (.str x) v) : v = .str x := by
  rcases h with h | ⟨a, o, m, rfl, e, h1, h2⟩
  · cases h; rfl
  · cases m <;> cases e
def lenW : W → Option W
  | .lst xs => some (.int xs.length)
  | .tup xs => some (.int xs.length)
  | .scr ns => some (.int ns.length)
  | .str s => if s.length ≤ 16777216 then some (.int s.length) else none
  | _ => none
theorem ie_len {f : OF} {p : Pos} (hg : Gl X "len") (hm : X.mg "len" = none) (ha : IO X a f) (he : starEach [a] X.env = (false, eval a X.env) :: starEach [] X.env := by rfl) : IE X (.Call (.Name "len" p) [a] [] pos) (cC lenW f) := by
  refine ie_bltC call_len (fun {Z F φ L H w0 w v0} hs c h Q q => ?_) hg hm (by decide +kernel) ha (he := he)
  unfold lenW at h
  split at h
  · cases h
    obtain ⟨a, vs, rfl, g1, g2⟩ := c.seq hs.sub
    exact ⟨_, _, rfl, .inl ⟨_, g1, g2.length⟩, flat hs (.int _) q⟩
  · cases h
    obtain ⟨a, vs, rfl, g1, g2⟩ := c.tup hs.sub
    exact ⟨_, _, rfl, .inr ⟨_, g1, g2.length⟩, flat hs (.int _) q⟩
  · cases h
    obtain ⟨a, rfl, g1⟩ := c.scr hs.sub
    exact ⟨_, _, rfl, .inl ⟨_, g1, by simp⟩, flat hs (.int _) q⟩
  · split at h
    · rename_i hz
      cases h
      have e := c.str
      subst e
      exact ⟨_, _, rfl, ⟨by rw [sizeLine_eq]; exact hz, rfl⟩, flat hs (.int _) q⟩
    · cases h
  · cases h
def intsW : List W → Option (List Int)
  | [] => some []
  | .int i :: r => match intsW r with
    | some ns => some (i :: ns)
    | none => none
  | _ => none
theorem intsW_eq : ∀ {ws : List W} {ns : List Int}, intsW ws = some ns → ws = ns.map W.int
  | [], ns, h => by simp only [intsW, Option.some.injEq] at h; subst h; rfl
  | w :: r, ns, h => by
    cases w <;> try (simp only [intsW] at h; cases h; done)
    simp only [intsW] at h
    split at h
    · rename_i ns' e
      simp only [Option.some.injEq] at h
      subst h
      rw [List.map_cons, intsW_eq e]
    · cases h
theorem intsW_map (ns : List Int) : intsW (ns.map W.int) = some ns := by
  induction ns with
  | nil => rfl
  | cons n r ih => simp only [List.map_cons, intsW, ih]
def sumW : W → Option W
  | .lst xs => match intsW xs with
    | some ns => some (.int ns.sum)
    | none => none
  | _ => none
theorem ie_sum {f : OF} {p : Pos} (hcm : X.calm = true) (hg : Gl X "sum") (hm : X.mg "sum" = none) (ha : IO X a f) (he : starEach [a] X.env = (false, eval a X.env) :: starEach [] X.env := by rfl) : IE X (.Call (.Name "sum" p) [a] [] pos) (cC sumW f) := by
  refine ie_bltC (cr_sum hcm) (fun {Z F φ L H w0 w v0} hs c h Q q => ?_) hg hm (by decide +kernel) ha (he := he)
  unfold sumW at h
  split at h
  · split at h
    · rename_i ns e
      cases h
      obtain ⟨a, vs, rfl, g1, g2⟩ := c.seq hs.sub
      rw [intsW_eq e] at g2
      rw [g2.ints] at g1
      exact ⟨_, _, rfl, g1, flat hs (.int _) q⟩
    · cases h
  · cases h
def leastI : List Int → Option Int
  | [] => none
  | n :: r => some (r.foldl (fun a b => if b < a then b else a) n)
def mostI : List Int → Option Int
  | [] => none
  | n :: r => some (r.foldl (fun a b => if a < b then b else a) n)
theorem fold_least : ∀ (r : List Int) (n : Int), (r.foldl (fun a b => if b < a then b else a) n ∈ n :: r) ∧ ∀ y ∈ n :: r, r.foldl (fun a b => if b < a then b else a) n ≤ y
  | [], n => by simp
  | b :: r, n => by
    rw [List.foldl_cons]
    have hc : ∃ c, (if b < n then b else n) = c ∧ c ≤ b ∧ c ≤ n ∧ (c = b ∨ c = n) := by
      by_cases h : b < n
      · exact ⟨b, if_pos h, Int.le_refl _, by omega, .inl rfl⟩
      · exact ⟨n, if_neg h, by omega, Int.le_refl _, .inr rfl⟩
    obtain ⟨c, ec, c1, c2, c3⟩ := hc
    rw [ec]
    obtain ⟨h1, h2⟩ := fold_least r c
    have h3 := h2 c List.mem_cons_self
    refine ⟨?_, fun y hy => ?_⟩
    · rcases List.mem_cons.mp h1 with h1 | h1
      · rw [h1]; rcases c3 with e | e <;> rw [e] <;> simp
      · simp [h1]
    · rcases List.mem_cons.mp hy with rfl | hy
      · omega
      · rcases List.mem_cons.mp hy with rfl | hy
        · omega
        · exact h2 y (List.mem_cons_of_mem _ hy)
theorem fold_most : ∀ (r : List Int) (n : Int), (r.foldl (fun a b => if a < b then b else a) n ∈ n :: r) ∧ ∀ y ∈ n :: r, y ≤ r.foldl (fun a b => if a < b then b else a) n
  | [], n => by simp
  | b :: r, n => by
    rw [List.foldl_cons]
    have hc : ∃ c, (if n < b then b else n) = c ∧ b ≤ c ∧ n ≤ c ∧ (c = b ∨ c = n) := by
      by_cases h : n < b
      · exact ⟨b, if_pos h, Int.le_refl _, by omega, .inl rfl⟩
      · exact ⟨n, if_neg h, by omega, Int.le_refl _, .inr rfl⟩
    obtain ⟨c, ec, c1, c2, c3⟩ := hc
    rw [ec]
    obtain ⟨h1, h2⟩ := fold_most r c
    have h3 := h2 c List.mem_cons_self
    refine ⟨?_, fun y hy => ?_⟩
    · rcases List.mem_cons.mp h1 with h1 | h1
      · rw [h1]; rcases c3 with e | e <;> rw [e] <;> simp
      · simp [h1]
    · rcases List.mem_cons.mp hy with rfl | hy
      · omega
      · rcases List.mem_cons.mp hy with rfl | hy
        · omega
        · exact h2 y (List.mem_cons_of_mem _ hy)
theorem leastI_spec {ns : List Int} {m : Int} (h : leastI ns = some m) : m ∈ ns ∧ ∀ y ∈ ns, m ≤ y := by
  cases ns with
  | nil => cases h
  | cons n r => simp only [leastI, Option.some.injEq] at h; subst h; exact fold_least r n
theorem mostI_spec {ns : List Int} {m : Int} (h : mostI ns = some m) : m ∈ ns ∧ ∀ y ∈ ns, y ≤ m := by
  cases ns with
  | nil => cases h
  | cons n r => simp only [mostI, Option.some.injEq] at h; subst h; exact fold_most r n
def minW1 : W → Option W
  | .lst xs => match intsW xs with
    | some ns => (match leastI ns with
      | some m => some (.int m)
      | none => none)
    | none => none
  | _ => none
def maxW1 : W → Option W
  | .lst xs => match intsW xs with
    | some ns => (match mostI ns with
      | some m => some (.int m)
      | none => none)
    | none => none
  | _ => none
theorem ie_min1 {f : OF} {p : Pos} (hcm : X.calm = true) (hg : Gl X "min") (hm : X.mg "min" = none) (ha : IO X a f) (he : starEach [a] X.env = (false, eval a X.env) :: starEach [] X.env := by rfl) : IE X (.Call (.Name "min" p) [a] [] pos) (cC minW1 f) := by
  refine ie_bltC (cr_min hcm) (fun {Z F φ L H w0 w v0} hs c h Q q => ?_) hg hm (by decide +kernel) ha (he := he)
  unfold minW1 at h
  split at h
  · split at h
    · rename_i ns e
      split at h
      · rename_i m em
        cases h
        obtain ⟨a, vs, rfl, g1, g2⟩ := c.seq hs.sub
        rw [intsW_eq e] at g2
        rw [g2.ints] at g1
        obtain ⟨k1, k2⟩ := leastI_spec em
        refine ⟨_, ns, rfl, g1, List.length_pos_of_mem k1, fun m' h1 h2 => ?_⟩
        have : m' = m := Int.le_antisymm (h2 m k1) (k2 m' h1)
        rw [this]
        exact flat hs (.int _) q
      · cases h
    · cases h
  · cases h
theorem ie_max1 {f : OF} {p : Pos} (hcm : X.calm = true) (hg : Gl X "max") (hm : X.mg "max" = none) (ha : IO X a f) (he : starEach [a] X.env = (false, eval a X.env) :: starEach [] X.env := by rfl) : IE X (.Call (.Name "max" p) [a] [] pos) (cC maxW1 f) := by
  refine ie_bltC (cr_max hcm) (fun {Z F φ L H w0 w v0} hs c h Q q => ?_) hg hm (by decide +kernel) ha (he := he)
  unfold maxW1 at h
  split at h
  · split at h
    · rename_i ns e
      split at h
      · rename_i m em
        cases h
        obtain ⟨a, vs, rfl, g1, g2⟩ := c.seq hs.sub
        rw [intsW_eq e] at g2
        rw [g2.ints] at g1
        obtain ⟨k1, k2⟩ := mostI_spec em
        refine ⟨_, ns, rfl, g1, List.length_pos_of_mem k1, fun m' h1 h2 => ?_⟩
        have : m' = m := Int.le_antisymm (k2 m' h1) (h2 m k1)
        rw [this]
        exact flat hs (.int _) q
      · cases h
    · cases h
  · cases h
/-- isinstance(x, T), T a built-in type -/
def tyName : W → Option String
  | .non => some "NoneType"
  | .bl _ => some "bool"
  | .int _ => some "int"
  | .str _ => some "str"
  | .lst _ => some "list"
  | .tup _ => some "tuple"
  | _ => none
def isiW (T : String) : List W → Option W
  | [x, .ty T'] => if T' = T then (match tyName x with
    | some n => (match kitB n T with
      | some b => some (.bl b)
      | none => none)
    | none => none) else none
  | _ => none
theorem R.tyx {K : PySem.W.Frag} {F H : Hp} {φ : List Addr} {w : W} {v : V} {n : String} (s : Sub F H) (r : R K F φ w v) (h : tyName w = some n) : TyX K H v (.type n) := by
  cases r with
  | non => cases h; exact .base .non
  | bl b => cases h; exact .base (.bl b)
  | int i => cases h; exact .base (.int i)
  | str x => cases h; exact .base (.str x)
  | lst g1 g2 => cases h; exact .base (.lst (s _ _ g1))
  | tup g1 g2 =>
    cases h
    exact .base (.tup (s _ _ g1))
  | _ => cases h
theorem ie_isi {T : String} {f : AF} {p : Pos} (hg : Gl X "isinstance") (hm : X.mg "isinstance" = none) (ha : IA X [a, b] f) (he : starEach [a, b] X.env = (false, eval a X.env) :: starEach [b] X.env := by rfl) (hpl : (backTo pos (starEach [b] X.env)).any (·.1) = false := by rfl) : IE X (.Call (.Name "isinstance" p) [a, b] [] pos) (cN (isiW T) f) := by
  refine ie_blt call_isi (fun {Z F φ L H ws w vs} hs rs h Q q => ?_) hg hm (by decide +kernel) ha (he := he) (hpl := hpl)
  unfold isiW at h
  split at h
  · split at h
    · rename_i x T' hT
      subst hT
      split at h
      · rename_i n e1
        split at h
        · rename_i k e2
          cases h
          cases rs with
          | cons r1 r2 =>
            cases r2 with
            | cons r2 r3 =>
              cases r2; cases r3
              exact ⟨_, _, _, _, k, rfl, .ty _, r1.tyx hs.sub e1, kit_ty e2, flat hs (.bl _) q⟩
        · cases h
      · cases h
    · cases h
  · cases h
theorem ie_ty {x : Str} {T : String} (hg : Gl X x) (hm : X.mg x = none) (hv : bootBuiltins x = some (.type T)) (hn : x ≠ "__name__" := by decide) (hdb : (x == ("__debug__" : Str)) = false := by decide) : IE X (.Name x pos) (cK (.ty T)) := ie_k (pe_bltn (v := .ty T) hg hm hv rfl hn hdb) fun _ _ => .ty T
/-- list(xs) -/
def listW (f : OF) : NF := fun ρ L => match f ρ L with
  | none => none
  | some (h, L1) => match cont ρ L1 h with
    | some (.lst ws) => some (.lst ws, L1)
    | some (.tup ws) => some (.lst ws, L1)
    | _ => none
theorem in_list {f : OF} {p : Pos} (hg : Gl X "list") (hm : X.mg "list" = none) (ha : IO X a f) (he : starEach [a] X.env = (false, eval a X.env) :: starEach [] X.env := by rfl) (hpl : (backTo pos (starEach [] X.env)).any (·.1) = false := by rfl) : IN X (.Call (.Name "list" p) [a] [] pos) (listW f) := by
  refine ⟨fun {Zx Z F φ L ρ σ H m L'} hs ss h Q q => PE.wp (pe_callTy call_list_of hg hm (by decide +kernel) (pa_cons wpE pa_nil he) (he := he) (hpl := hpl)) ?_⟩
  unfold listW at h
  split at h
  · cases h
  rename_i hd L1 e1
  split at h
  · rename_i ws e2
    simp only [Option.some.injEq, Prod.mk.injEq] at h
    obtain ⟨rfl, rfl⟩ := h
    refine ha.run hs ss e1 _ fun F1 φ1 H1 v s1 p1 hs1 r1 => ?_
    obtain ⟨a, vs, rfl, g1, g2⟩ := (cont_ok hs1 (ss.mono s1 p1) r1 e2).seq hs1.sub
    exact ⟨_, _, rfl, .inl g1, fun l hl => q F1 φ1 _ l (.lst vs) s1 p1 (hs1.free hl).2.1 (hs1.fresh hl) g2⟩
  · rename_i ws e2
    simp only [Option.some.injEq, Prod.mk.injEq] at h
    obtain ⟨rfl, rfl⟩ := h
    refine ha.run hs ss e1 _ fun F1 φ1 H1 v s1 p1 hs1 r1 => ?_
    obtain ⟨a, vs, rfl, g1, g2⟩ := (cont_ok hs1 (ss.mono s1 p1) r1 e2).tup hs1.sub
    exact ⟨_, _, rfl, .inr g1, fun l hl => q F1 φ1 _ l (.lst vs) s1 p1 (hs1.free hl).2.1 (hs1.fresh hl) g2⟩
  · cases h
end
end Lf

set_option maxHeartbeats 4000000
/-! Lf, part S: sorted(list), sorted(set(list of pairs)), slices. -/
namespace Lf
open PySem PySem.Spec PyProof.Rows L2
open PySem.SeqAt in
/-! ### sorted of data -/
def tupOne : PyData → Bool
  | .tuple (_ :: _) => true
  | _ => false
def noTup : PyData → Bool
  | .none => false
  | .tuple _ => false
  | _ => true
def sortOk (ds : List PyData) : Bool := (ds.all fun d => ds.all fun d' => PySem.W.alike d d') && (ds.all tupOne || ds.all noTup) && ds.all fun d => decide (d.depth ≤ 64)
theorem sortOk_parts {ds : List PyData} (h : sortOk ds = true) : PySem.W.AllAlike ds ∧ PySem.W.Sortable ds ∧ ∀ d ∈ ds, d.depth ≤ 64 := by
  unfold sortOk at h
  simp only [Bool.and_eq_true, Bool.or_eq_true, List.all_eq_true, decide_eq_true_eq] at h
  obtain ⟨⟨h1, h2⟩, h3⟩ := h
  refine ⟨h1, ?_, h3⟩
  rcases h2 with h2 | h2
  · refine .inl fun d hd => ?_
    have q := h2 d hd
    unfold tupOne at q
    split at q
    · exact ⟨_, _, rfl⟩
    · cases q
  · refine .inr fun d hd => ?_
    have q := h2 d hd
    refine ⟨fun e => ?_, fun xs e => ?_⟩
    · subst e; cases q
    · subst e; cases q
def encW (w : W) : PyData := (toD w).getD .none
theorem toDs_enc : ∀ {ws : List W} {ds : List PyData}, toDs ws = some ds → ds = ws.map encW ∧ ∀ w ∈ ws, toD w = some (encW w)
  | [], ds, h => by simp only [toDs, Option.some.injEq] at h; subst h; exact ⟨rfl, fun _ h => nomatch h⟩
  | w :: ws, ds, h => by
    simp only [toDs] at h
    split at h
    · rename_i d ds' e1 e2
      simp only [Option.some.injEq] at h
      subst h
      obtain ⟨k1, k2⟩ := toDs_enc e2
      have ew : encW w = d := by unfold encW; rw [e1]; rfl
      refine ⟨by rw [List.map_cons, ew, k1], fun w' hw => ?_⟩
      rcases List.mem_cons.mp hw with rfl | hw
      · rw [ew]; exact e1
      · exact k2 w' hw
    · cases h
/-- a list of things with their values, both read off it -/
theorem Rs.zipped {K : PySem.W.Frag} {F : Hp} {φ : List Addr} : ∀ {ws : List W} {vs : List V}, Rs K F φ ws vs → ∃ ts : List (W × V), ws = ts.map Prod.fst ∧ vs = ts.map Prod.snd ∧ ∀ t ∈ ts, R K F φ t.1 t.2
  | _, _, .nil => ⟨[], rfl, rfl, fun _ h => nomatch h⟩
  | _, _, .cons (w := w) (v := v) r t => by
    obtain ⟨ts, h1, h2, h3⟩ := Rs.zipped t
    refine ⟨(w, v) :: ts, by rw [h1]; rfl, by rw [h2]; rfl, fun t ht => ?_⟩
    rcases List.mem_cons.mp ht with rfl | ht
    · exact r
    · exact h3 t ht
theorem Rs.unzip {K : PySem.W.Frag} {F : Hp} {φ : List Addr} : ∀ {ts : List (W × V)}, (∀ t ∈ ts, R K F φ t.1 t.2) → Rs K F φ (ts.map Prod.fst) (ts.map Prod.snd)
  | [], _ => .nil
  | t :: ts, h => .cons (h t List.mem_cons_self) (Rs.unzip fun u hu => h u (List.mem_cons_of_mem _ hu))
/-- sorted, on values with their data -/
def rSrt (K : PySem.W.Frag) : List V → Hp → VK → Prop := fun vs H Q => ∃ (a : Addr) (bs : List (V × PyData)), vs = [V.ref a] ∧ SqL K H a (bs.map Prod.fst) ∧ (∀ b ∈ bs, Dp K H b.1 b.2) ∧ sortOk (bs.map Prod.snd) = true ∧
  ∀ p, H p = none → Q (.ref p) (upd H p (.lst ((bs.mergeSort (PySem.W.dataLe false Prod.snd)).map Prod.fst)))
theorem each_of {X : Cx} {pins : List (Addr × Obj)} {σ : L2.St} {H : Hp} {s : Shared} (I : Inv X pins σ H s) : ∀ {bs : List (V × PyData)} {us : List Value}, (∀ b ∈ bs, Dp X.K H b.1 b.2) → Vals (bs.map Prod.fst) us →
    PySem.W.EachIs (fun (v : Value) (b : V × PyData) => RelV b.1 v) us bs ∧ PySem.W.EachIs (fun v (b : V × PyData) => ∃ as, Reads s.heap v b.2 as) us bs
  | [], _, _, .nil => ⟨.nil, .nil⟩
  | b :: bs, _, hd, .cons r t => by
    obtain ⟨h1, h2⟩ := each_of I (fun c hc => hd c (List.mem_cons_of_mem _ hc)) t
    exact ⟨.cons r h1, .cons (Dp.reads I b.2 b.1 _ (hd b List.mem_cons_self) r) h2⟩
theorem vals_of_each : ∀ {bs : List (V × PyData)} {us : List Value}, PySem.W.EachIs (fun (v : Value) (b : V × PyData) => RelV b.1 v) us bs → Vals (bs.map Prod.fst) us
  | _, _, .nil => .nil
  | _, _, .cons r t => .cons r (vals_of_each t)
theorem cr_srt {X : Cx} (hu : X.A.units + 100 < cLine) : CallR X (.builtin "sorted") (rSrt X.K) := by
  intro pins s σ H vs us Q I r h
  obtain ⟨a, bs, rfl, hl, hd, ok, q⟩ := h
  obtain ⟨al, so, dp⟩ := sortOk_parts ok
  obtain ⟨its, rv, pl, hz⟩ := I.list hl
  obtain ⟨e1, e2⟩ := each_of I hd rv
  have hlb : bs.length ≤ sizeLine := by simpa using hz
  rw [Vals.ref1 r]
  refine PySem.W.sorted_data (enc := Prod.snd) (bs := bs) pl.isList e1 e2 al so hlb (fun b hb => ?_) fun out ho he => ?_
  · have := dp b.2 (List.mem_map.mpr ⟨b, hb, rfl⟩)
    omega
  · obtain ⟨ep, hg⟩ := PyProof.Rows.sortedAll_at s.heap its (List.toArray out)
    have hv := vals_of_each he
    have hn : H (s.heap.objs.size + 1) = none := I.hok.fresh (Nat.le_succ _)
    have hlen : ((bs.mergeSort (PySem.W.dataLe false Prod.snd)).map Prod.fst).length ≤ sizeLine := by rw [hv.length, ho]; exact hlb
    exact ⟨.ref _, _, I.laid (t' := s.toks) (fun _ _ z => PyProof.Rows.sortedAll_old z) (Nat.le_succ _) (show ObjOk X.prog X.w _ _ _ (.lst _) from ⟨hlen, out, ep, hv, hg⟩), rfl, q _ hn⟩
def sortL (ws : List W) : Option (List W) := match toDs ws with
  | some ds => if sortOk ds = true then some (ws.mergeSort (PySem.W.dataLe false encW)) else none
  | none => none
theorem sort_rel {K : PySem.W.Frag} {F : Hp} {φ : List Addr} {ts : List (W × V)} (h : ∀ t ∈ ts, R K F φ t.1 t.2) :
    Rs K F φ ((ts.map Prod.fst).mergeSort (PySem.W.dataLe false encW)) (((ts.map fun t => (t.2, encW t.1)).mergeSort (PySem.W.dataLe false Prod.snd)).map Prod.fst) := by
  have e1 : (ts.map Prod.fst).mergeSort (PySem.W.dataLe false encW) = (ts.mergeSort (PySem.W.dataLe false fun t => encW t.1)).map Prod.fst := by
    rw [List.map_mergeSort]
    intro a _ b _
    rfl
  have e2 : (ts.map fun t => (t.2, encW t.1)).mergeSort (PySem.W.dataLe false Prod.snd) = (ts.mergeSort (PySem.W.dataLe false fun t => encW t.1)).map fun t => (t.2, encW t.1) := by
    rw [List.map_mergeSort]
    intro a _ b _
    rfl
  rw [e1, e2, List.map_map]
  exact Rs.unzip fun t ht => h t ((List.mergeSort_perm _ _).mem_iff.mp ht)
section
variable {X : Cx} {e a b : Expr} {pos : Pos}
def nSort (f : OF) : NF := fun ρ L => match f ρ L with
  | none => none
  | some (h, L1) => match cont ρ L1 h with
    | some (.lst ws) => (match sortL ws with
      | some rs => some (.lst rs, L1)
      | none => none)
    | _ => none
theorem in_sorted {f : OF} {p : Pos} (hu : X.A.units + 100 < cLine) (hg : Gl X "sorted") (hm : X.mg "sorted" = none) (ha : IO X a f) (he : starEach [a] X.env = (false, eval a X.env) :: starEach [] X.env := by rfl) (hpl : (backTo pos (starEach [] X.env)).any (·.1) = false := by rfl) : IN X (.Call (.Name "sorted" p) [a] [] pos) (nSort f) := by
  refine ⟨fun {Zx Z F φ L ρ σ H m L'} hs ss h Q q => PE.wp (pe_callB (cr_srt hu) hg hm (by decide +kernel) (pa_cons wpE pa_nil he) (he := he) (hpl := hpl)) ?_⟩
  unfold nSort at h
  split at h
  · cases h
  rename_i hd L1 e1
  split at h
  · rename_i ws e2
    split at h
    · rename_i rs e3
      simp only [Option.some.injEq, Prod.mk.injEq] at h
      obtain ⟨rfl, rfl⟩ := h
      refine ha.run hs ss e1 _ fun F1 φ1 H1 v s1 p1 hs1 r1 => ?_
      obtain ⟨a, vs, rfl, g1, g2⟩ := (cont_ok hs1 (ss.mono s1 p1) r1 e2).seq hs1.sub
      unfold sortL at e3
      split at e3
      · rename_i ds e4
        split at e3
        · rename_i ok
          simp only [Option.some.injEq] at e3
          subst e3
          obtain ⟨k1, k2⟩ := toDs_enc e4
          obtain ⟨ts, t1, t2, t3⟩ := g2.zipped
          subst t1 t2
          refine ⟨a, ts.map fun t => (t.2, encW t.1), rfl, ?_, fun b hb => ?_, ?_, fun p hp => ?_⟩
          · rw [List.map_map]; exact g1
          · obtain ⟨t, ht, rfl⟩ := List.mem_map.mp hb
            exact (t3 t ht).dp hs1.sub (k2 t.1 (List.mem_map.mpr ⟨t, ht, rfl⟩))
          · rw [List.map_map]; rw [k1, List.map_map] at ok; exact ok
          · exact q F1 φ1 _ p _ s1 p1 (hs1.free hp).2.1 (hs1.fresh hp) (sort_rel t3)
        · cases e3
      · cases e3
    · cases h
  · cases h
end
end Lf

set_option maxHeartbeats 4000000
/-! Lf, part T: sorted(set(a list of pairs of ints)). -/
namespace Lf
open PySem PySem.Spec PyProof.Rows L2

/-! ### the one sorted list without repetitions -/
abbrev Cell := Int × Int
def leC (p q : Cell) : Bool := decide (p.1 < q.1 ∨ (p.1 = q.1 ∧ p.2 ≤ q.2))
theorem leC_trans (a b c : Cell) (h1 : leC a b = true) (h2 : leC b c = true) : leC a c = true := by
  simp only [leC, decide_eq_true_eq] at *; omega
theorem leC_total (a b : Cell) : (leC a b || leC b a) = true := by
  simp only [leC, Bool.or_eq_true, decide_eq_true_eq]; omega
theorem leC_anti {a b : Cell} (h1 : leC a b = true) (h2 : leC b a = true) : a = b := by
  simp only [leC, decide_eq_true_eq] at *
  apply Prod.ext <;> omega
def nubC : List Cell → List Cell
  | [] => []
  | c :: cs => if c ∈ nubC cs then nubC cs else c :: nubC cs
theorem mem_nubC {x : Cell} : ∀ {l : List Cell}, x ∈ nubC l ↔ x ∈ l
  | [] => by simp [nubC]
  | c :: cs => by
    unfold nubC
    have ih := mem_nubC (x := x) (l := cs)
    split
    · rename_i h
      rw [ih, List.mem_cons]
      constructor
      · exact .inr
      · rintro (rfl | h')
        · exact mem_nubC.mp h
        · exact h'
    · rw [List.mem_cons, List.mem_cons, ih]
theorem nodup_nubC : ∀ l : List Cell, (nubC l).Nodup
  | [] => by simp [nubC]
  | c :: cs => by
    unfold nubC
    split
    · exact nodup_nubC cs
    · rename_i h; exact List.nodup_cons.mpr ⟨h, nodup_nubC cs⟩
def sortC (l : List Cell) : List Cell := l.mergeSort leC
def canon (l : List Cell) : List Cell := sortC (nubC l)
theorem sortC_perm (l : List Cell) : (sortC l).Perm l := List.mergeSort_perm l leC
theorem sortC_pw (l : List Cell) : (sortC l).Pairwise fun a b => leC a b = true := List.pairwise_mergeSort leC_trans leC_total l
theorem sorted_uniq : ∀ {l m : List Cell}, l.Perm m → l.Pairwise (fun a b => leC a b = true) → m.Pairwise (fun a b => leC a b = true) → l = m
  | [], m, p, _, _ => (List.Perm.eq_nil p.symm).symm
  | x :: l, [], p, _, _ => absurd p.length_eq (by simp)
  | x :: l, y :: m, p, hl, hm => by
    have hx : x ∈ y :: m := p.mem_iff.mp List.mem_cons_self
    have hy : y ∈ x :: l := p.mem_iff.mpr List.mem_cons_self
    have r : ∀ z : Cell, leC z z = true := fun z => by simp [leC]
    have h1 : leC x y = true := by
      rcases List.mem_cons.mp hy with e | h
      · rw [e]; exact r x
      · exact (List.pairwise_cons.mp hl).1 y h
    have h2 : leC y x = true := by
      rcases List.mem_cons.mp hx with e | h
      · rw [e]; exact r y
      · exact (List.pairwise_cons.mp hm).1 x h
    have e := leC_anti h1 h2
    subst e
    rw [sorted_uniq p.cons_inv (List.pairwise_cons.mp hl).2 (List.pairwise_cons.mp hm).2]
theorem sortC_of {l m : List Cell} (p : l.Perm m) : sortC l = sortC m := sorted_uniq ((sortC_perm l).trans (p.trans (sortC_perm m).symm)) (sortC_pw l) (sortC_pw m)
theorem mem_canon {x : Cell} {l : List Cell} : x ∈ canon l ↔ x ∈ l := ((sortC_perm _).mem_iff).trans mem_nubC
theorem nodup_canon (l : List Cell) : (canon l).Nodup := (sortC_perm _).nodup_iff.mpr (nodup_nubC l)
theorem canon_of {l m : List Cell} (nd : m.Nodup) (h : ∀ x, x ∈ m ↔ x ∈ l) : canon l = sortC m := sortC_of ((List.perm_ext_iff_of_nodup (nodup_nubC l) nd).mpr fun x => mem_nubC.trans (h x).symm)
def cW (c : Cell) : W := .tup [.int c.1, .int c.2]
def cellsW : List W → Option (List Cell)
  | [] => some []
  | .tup [.int r, .int c] :: ws => match cellsW ws with
    | some cs => some ((r, c) :: cs)
    | none => none
  | _ => none
theorem cellsW_eq : ∀ {ws : List W} {cs : List Cell}, cellsW ws = some cs → ws = cs.map cW
  | [], cs, h => by simp only [cellsW, Option.some.injEq] at h; subst h; rfl
  | w :: ws, cs, h => by
    unfold cellsW at h
    split at h
    · cases h; rename_i e; cases e
    · rename_i r c ws' e
      cases e
      split at h
      · rename_i cs' e2
        simp only [Option.some.injEq] at h
        subst h
        rw [List.map_cons, ← cellsW_eq e2]; rfl
      · cases h
    · cases h
theorem cellsW_map (cs : List Cell) : cellsW (cs.map cW) = some cs := by
  induction cs with
  | nil => rfl
  | cons c r ih => rw [List.map_cons]; simp only [cellsW, cW]; rw [show r.map cW = List.map cW r from rfl, ih]

section
variable {P : Program} {w : World} {A : Around} {E : Value → Shared → Prop} {s : Shared}
/-- keys and pairs -/
def keyC (k : List Int) : Cell := (k.getD 0 0, k.getD 1 0)
theorem pw_keys {L : List (Addr × List Int)} (h2 : ∀ p ∈ L, p.2.length = 2) (e : L.Pairwise fun p q => PySem.W.dataLe false (fun p : Addr × List Int => PyData.tuple (p.2.map PyData.int)) p q = true) : (L.map fun p => keyC p.2).Pairwise fun a b => leC a b = true := by
  rw [List.pairwise_map]
  refine List.Pairwise.imp_of_mem (fun {p q} hp hq h => ?_) e
  obtain ⟨pa, pk⟩ := p
  obtain ⟨qa, qk⟩ := q
  have lp := h2 _ hp
  have lq := h2 _ hq
  obtain ⟨a, b, rfl⟩ : ∃ a b, pk = [a, b] := by
    match pk, lp with
    | [a, b], _ => exact ⟨a, b, rfl⟩
  obtain ⟨c, d, rfl⟩ : ∃ a b, qk = [a, b] := by
    match qk, lq with
    | [a, b], _ => exact ⟨a, b, rfl⟩
  have k := congrFun (congrFun (PySem.W.dataLe_ii (fun z : Int × Int => z.1) (fun z : Int × Int => z.2)) (a, b)) (c, d)
  have h' : PySem.W.dataLe false (fun b : Int × Int => PyData.tuple [PyData.int b.1, PyData.int b.2]) (a, b) (c, d) = true := h
  rw [k] at h'
  exact h'
theorem sorted_set_pairs {a : Addr} {L : List (Addr × List Int)} {es : Array (Int × Value)} {ep : Nat} {t : SetTable} {Q : Value → Shared → Prop} (R : SetTR P w s.heap a L es ep t) (hh : A.handled = none) (hu : A.units + 100 < cLine)
    (h2 : ∀ p ∈ L, p.2.length = 2)
    (hQ : ∀ (s' : Shared) (p : Addr) (out : List Value) (c : Nat) (L' : List (Addr × List Int)), (∀ b o, s.heap.get? b = some o → s'.heap.get? b = some o) → s'.gens = s.gens → s'.os = s.os → s.heap.objs.size ≤ p →
      s'.heap.get? p = some (seqObj "list" out.toArray c) → out = L'.map (fun q => Value.ref q.1) → L'.Perm L → (L'.map fun q => keyC q.2).Pairwise (fun a b => leC a b = true) → Q (.ref p) s') :
    wpAny (model P w) A (call (.builtin "sorted") [.ref a]) Q E s := by
  have few := R.few
  obtain ⟨o, ho, hex, hd⟩ := R.ob
  refine Calls.call_function_entry kind_sorted plain_sorted entry_sorted (args_sorted1 (.ref a)) (wpAny_bind (m := checkCount "sorted" 1 1 _) (wpAny_pure ?_))
  refine wpAny_bind ?_
  refine collect_set (A := A.in1) hh ⟨o, ho, hex.1, hd⟩ R.fits (Nat.lt_trans (by rw [R.size]; exact few) (by decide)) R.tab.ris R.led fun s1 vs k1 z1 g1 o1 pm => ?_
  have erows : es.toList.map (·.2) = L.map fun q => Value.ref q.1 := by
    rw [R.rows, rowsOf, List.map_map]; rfl
  rw [erows] at pm
  -- the values in the order in which they came
  have ord : ∀ {vs : List Value} {M : List (Addr × List Int)}, vs.Perm (M.map fun q => Value.ref q.1) → ∃ M' : List (Addr × List Int), vs = M'.map (fun q => Value.ref q.1) ∧ M'.Perm M := by
    intro vs
    induction vs with
    | nil =>
      intro M p
      have : M = [] := by simpa using (List.Perm.eq_nil p.symm)
      exact ⟨[], rfl, by rw [this]⟩
    | cons v vs ih =>
      intro M p
      obtain ⟨q, hq, e⟩ := List.mem_map.mp (p.mem_iff.mp List.mem_cons_self)
      obtain ⟨l1, l2, rfl⟩ := List.append_of_mem hq
      have p2 : vs.Perm ((l1 ++ l2).map fun q => Value.ref q.1) := by
        have p3 : (v :: vs).Perm (v :: ((l1 ++ l2).map fun q => Value.ref q.1)) := by
          refine p.trans ?_
          rw [List.map_append, List.map_cons, e, List.map_append]
          exact List.perm_middle
        exact p3.cons_inv
      obtain ⟨M', e1, e2⟩ := ih p2
      exact ⟨q :: M', by rw [e1, ← e]; rfl, (e2.cons q).trans List.perm_middle.symm⟩
  obtain ⟨L1, rfl, pL1⟩ := ord pm
  have l64 : L1.length < 64 := by rw [pL1.length_eq]; exact few
  refine wpAny_bind (wpAny_newList ?_ (by simp only [List.length_map]; rw [sizeLine_eq]; omega))
  have atL : (s1.heap.push (seqObj "list" (L1.map fun q => Value.ref q.1).toArray 0)).get? s1.heap.objs.size = some (seqObj "list" (L1.map fun q => Value.ref q.1).toArray 0) := Heap.get?_push_size _ rfl
  let enc : Addr × List Int → PyData := fun q => .tuple (q.2.map .int)
  have rd : ∀ q ∈ L1, ∃ as, Reads (s1.heap.push (seqObj "list" (L1.map fun q => Value.ref q.1).toArray 0)) (.ref q.1) (enc q) as ∧ s1.heap.objs.size ∉ as := fun q hq => by
    obtain ⟨b, xs, eb, ⟨ob, hob, hcl, n, hdt⟩, hxs⟩ := tupInts_of (P := P) (w := w) (isT_keep (R.tup q (pL1.mem_iff.mp hq)) fun b u e => Heap.get?_push_of_some (seqObj "list" (L1.map fun q => Value.ref q.1).toArray 0) (k1 b u e))
    cases eb
    have ra : ∀ {vs : List Value} {ns : List Int}, IntsAre vs ns → ReadsAll (s1.heap.push (seqObj "list" (L1.map fun q => Value.ref q.1).toArray 0)) vs (ns.map PyData.int) [] := by
      intro vs ns h
      induction h with
      | nil => exact .nil
      | cons i tk _ ih => exact .cons (as := []) (.int i tk) ih
    exact ⟨[], .tuple hob hcl hdt (ra hxs), by simp⟩
  have eR : PySem.W.EachIs (fun (v : Value) (q : Addr × List Int) => v = Value.ref q.1) (L1.map fun q => Value.ref q.1) L1 := by
    clear rd l64 pL1 pm atL
    induction L1 with
    | nil => exact .nil
    | cons q r ih => exact .cons rfl ih
  have eD : PySem.W.EachIs (fun v (q : Addr × List Int) => ∃ as, Reads (s1.heap.push (seqObj "list" (L1.map fun q => Value.ref q.1).toArray 0)) v (enc q) as ∧ s1.heap.objs.size ∉ as) (L1.map fun q => Value.ref q.1) L1 := by
    have gen : ∀ {h : Heap} {n : Addr} {M : List (Addr × List Int)}, (∀ q ∈ M, ∃ as, Reads h (.ref q.1) (enc q) as ∧ n ∉ as) → PySem.W.EachIs (fun v (q : Addr × List Int) => ∃ as, Reads h v (enc q) as ∧ n ∉ as) (M.map fun q => Value.ref q.1) M := by
      intro h n M
      induction M with
      | nil => intro _; exact .nil
      | cons q r ih => intro hm; exact .cons (hm q List.mem_cons_self) (ih fun u hu => hm u (List.mem_cons_of_mem _ hu))
    exact gen rd
  have two : ∀ q ∈ L1, ∃ x y, q.2 = [x, y] := fun q hq => by
    have := h2 q (pL1.mem_iff.mp hq)
    match hk : q.2, this with
    | [x, y], _ => exact ⟨x, y, rfl⟩
  have al : PySem.W.AllAlike (L1.map enc) := fun d hd d' hd' => by
    obtain ⟨q, hq, rfl⟩ := List.mem_map.mp hd
    obtain ⟨q', hq', rfl⟩ := List.mem_map.mp hd'
    exact PySem.W.alike_ints q.2 q'.2
  have so : PySem.W.Sortable (L1.map enc) := .inl fun d hd => by
    obtain ⟨q, hq, rfl⟩ := List.mem_map.mp hd
    obtain ⟨x, y, e⟩ := two q hq
    exact ⟨.int x, [.int y], by show PyData.tuple (q.2.map .int) = _; rw [e]; rfl⟩
  have dep : ∀ q : Addr × List Int, (enc q).depth ≤ 1 := fun q => by
    show PyData.depth (.tuple (q.2.map .int)) ≤ 1
    simp only [PyData.depth, PySem.W.depth_ints]
    omega
  refine wpAny_bind (wpAny_holding ?_)
  refine PySem.W.list_sort_data (s := { s1 with heap := s1.heap.push (seqObj "list" (L1.map fun q => Value.ref q.1).toArray 0) }) (enc := enc) atL eR eD al so (by rw [sizeLine_eq]; omega) (fun q _ => ?_) fun out ho he => ?_
  · have := dep q
    show A.units + 1 + 1 + _ < cLine
    omega
  · obtain ⟨c, hc⟩ := PyProof.Rows.sortedHeap_at (vs := L1.map fun q => Value.ref q.1) (out := out.toArray) atL
    have eo : out = (L1.mergeSort (PySem.W.dataLe false enc)).map fun q => Value.ref q.1 := by
      generalize L1.mergeSort (PySem.W.dataLe false enc) = M at he
      clear ho hc
      induction he with
      | nil => rfl
      | cons h1 _ ih => rw [List.map_cons, h1, ih]
    have pS := List.mergeSort_perm L1 (PySem.W.dataLe false enc)
    refine wpAny_pure ⟨_, rfl, hQ _ s1.heap.objs.size out c (L1.mergeSort (PySem.W.dataLe false enc)) (fun b u e => ?_) g1 o1 z1 hc eo (pS.trans pL1) ?_⟩
    · have e2 := k1 b u e
      have lt := Heap.lt_size e2
      refine (PyProof.Rows.sortedHeap_old (Nat.ne_of_lt lt) (by rw [size_push']; exact Nat.lt_succ_of_lt lt)).trans ?_
      exact Heap.get?_push_of_some _ e2
    · refine pw_keys (fun q hq => h2 q (pL1.mem_iff.mp (pS.mem_iff.mp hq))) (PySem.W.sort_pairwise (PySem.W.sortLe_total _ _ _) L1)
end
end Lf

set_option maxHeartbeats 4000000
/-! Lf, part U: sorted(set(..)) as a rule, slices, dicts. -/
namespace Lf
open PySem PySem.Spec PyProof.Rows L2

def rSsp (K : PySem.W.Frag) (P : Program) (w : World) : List V → Hp → VK → Prop := fun vs H Q => ∃ (a : Addr) (L : List (Addr × List Int)), vs = [V.ref a] ∧ H a = some (SetTO P w a L) ∧ (∀ p ∈ L, SqT K H p.1 (p.2.map V.int)) ∧ (∀ p ∈ L, p.2.length = 2) ∧
  ∀ (L' : List (Addr × List Int)) (p : Addr), L'.Perm L → (L'.map fun q => keyC q.2).Nodup → (L'.map fun q => keyC q.2).Pairwise (fun a b => leC a b = true) → H p = none → Q (.ref p) (upd H p (.lst (L'.map fun q => V.ref q.1)))
theorem keyC_inj {k k' : List Int} (h : k.length = 2) (h' : k'.length = 2) (e : keyC k = keyC k') : k = k' := by
  match k, h, k', h' with
  | [a, b], _, [c, d], _ => simp [keyC] at e; rw [e.1, e.2]
theorem cr_ssp {X : Cx} (hc : X.calm = true) (hu : X.A.units + 100 < cLine) : CallR X (.builtin "sorted") (rSsp X.K X.prog X.w) := by
  intro pins s σ H vs us Q I r h
  obtain ⟨a, L, rfl, ha, hk, h2, q⟩ := h
  have R0 : SetT0 X.prog X.w s.heap a L := (I.hok a _ ha).1
  obtain ⟨es, ep, t, R⟩ := R0.full fun p hp => I.isT (hk p hp)
  have nd0 := R.nd
  have few := R.few
  rw [Vals.ref1 r]
  refine sorted_set_pairs R (I.ok.hd hc) hu h2 fun s' p out c L' k g o hp hg ho pm pw => ?_
  have hn : H p = none := I.hok.fresh hp
  have hv : Vals (L'.map fun q => V.ref q.1) out := by rw [ho]; exact vals_of_refs L'
  have hlen : (L'.map fun q => V.ref q.1).length ≤ sizeLine := by rw [List.length_map, pm.length_eq, sizeLine_eq]; omega
  have ndk : (L'.map fun q => keyC q.2).Nodup := by
    have n1 : (L'.map (·.2)).Nodup := ((pm.map (·.2)).nodup_iff).mpr nd0
    have e : (L'.map fun q => keyC q.2) = (L'.map (·.2)).map keyC := by rw [List.map_map]; rfl
    rw [e]
    refine List.pairwise_map.mpr (List.Pairwise.imp_of_mem (fun {x y} hx hy hne e => hne ?_) n1)
    obtain ⟨p1, m1, rfl⟩ := List.mem_map.mp hx
    obtain ⟨p2, m2, rfl⟩ := List.mem_map.mp hy
    exact keyC_inj (h2 p1 (pm.mem_iff.mp m1)) (h2 p2 (pm.mem_iff.mp m2)) e
  have J : Inv X pins σ (upd H p (.lst (L'.map fun q => V.ref q.1))) { s with heap := s'.heap, gens := s'.gens, drawn := s'.drawn, toks := s'.toks } :=
    I.call (ch := []) (Un.laid k hp hn) (I.hok.laid k hp (show ObjOk X.prog X.w _ _ _ (.lst _) from ⟨hlen, out, c, hv, hg⟩)) (by rw [g]; exact I.bare) (fun _ z => nomatch z)
  have e : s' = { s with heap := s'.heap, gens := s'.gens, drawn := s'.drawn, toks := s'.toks } := by
    obtain ⟨x1, x2, x3, x4, x5⟩ := s'
    obtain ⟨y1, y2, y3, y4, y5⟩ := s
    simp only at o g
    subst o
    rfl
  rw [e]
  exact ⟨.ref p, _, J, rfl, q L' p pm ndk pw hn⟩
/-- cells as tuples, with their addresses -/
theorem Rs.cells {K : PySem.W.Frag} {F : Hp} {φ : List Addr} : ∀ {cs : List Cell} {vs : List V}, Rs K F φ (cs.map cW) vs → ∃ as : List (Addr × Cell), cs = as.map Prod.snd ∧ vs = as.map (fun p => V.ref p.1) ∧ ∀ p ∈ as, TupAt K F p.1 [.int p.2.1, .int p.2.2]
  | [], _, .nil => ⟨[], rfl, rfl, fun _ h => nomatch h⟩
  | c :: cs, _, .cons r t => by
    obtain ⟨as, h1, h2, h3⟩ := Rs.cells t
    cases r with
    | tup ta tr =>
      rename_i a ts
      have e : ts = [.int c.1, .int c.2] := (Rs.ints (ns := [c.1, c.2]) tr)
      subst e
      refine ⟨(a, c) :: as, by rw [h1]; rfl, by rw [h2]; rfl, fun p hp => ?_⟩
      rcases List.mem_cons.mp hp with rfl | hp
      · exact ta
      · exact h3 p hp
theorem Rs.of_cells {K : PySem.W.Frag} {F : Hp} {φ : List Addr} : ∀ {as : List (Addr × Cell)}, (∀ p ∈ as, TupAt K F p.1 [.int p.2.1, .int p.2.2]) → Rs K F φ ((as.map Prod.snd).map cW) (as.map fun p => V.ref p.1)
  | [], _ => .nil
  | p :: as, h => .cons (.tup (h p List.mem_cons_self) (.cons (.int _) (.cons (.int _) .nil))) (Rs.of_cells fun q hq => h q (List.mem_cons_of_mem _ hq))
section
variable {X : Cx} {e a b : Expr} {pos : Pos}
def nSset (f : OF) : NF := fun ρ L => match f ρ L with
  | none => none
  | some (h, L1) => match cont ρ L1 h with
    | some (.lst ws) => (match cellsW ws with
      | some cs => if cs.length < 64 then some (.lst ((canon cs).map cW), L1) else none
      | none => none)
    | _ => none
theorem in_sset {f : OF} {p p2 pos2 : Pos} (hc : X.calm = true) (hu : X.A.units + 100 < cLine) (hg : Gl X "sorted") (hm : X.mg "sorted" = none) (hg2 : Gl X "set") (hm2 : X.mg "set" = none) (ha : IO X a f)
    (he : starEach [.Call (.Name "set" p2) [a] [] pos2] X.env = (false, eval (.Call (.Name "set" p2) [a] [] pos2) X.env) :: starEach [] X.env := by rfl)
    (he2 : starEach [a] X.env = (false, eval a X.env) :: starEach [] X.env := by rfl) (hpl : (backTo pos (starEach [] X.env)).any (·.1) = false := by rfl) (hpl2 : (backTo pos2 (starEach [] X.env)).any (·.1) = false := by rfl) :
    IN X (.Call (.Name "sorted" p) [.Call (.Name "set" p2) [a] [] pos2] [] pos) (nSset f) := by
  refine ⟨fun {Zx Z F φ L ρ σ H m L'} hs ss h Q q => PE.wp (pe_callB (cr_ssp hc hu) hg hm (by decide +kernel) (pa_cons (pe_callTy (cr_setOfT hc (by omega)) hg2 hm2 (by decide +kernel) (pa_cons wpE pa_nil he2) (he := he2) (hpl := hpl2)) pa_nil he) (he := he) (hpl := hpl)) ?_⟩
  unfold nSset at h
  split at h
  · cases h
  rename_i hd L1 e1
  split at h
  · rename_i ws e2
    split at h
    · rename_i cs e3
      split at h
      · rename_i hz
        simp only [Option.some.injEq, Prod.mk.injEq] at h
        obtain ⟨rfl, rfl⟩ := h
        refine ha.run hs ss e1 _ fun F1 φ1 H1 v s1 p1 hs1 r1 => ?_
        obtain ⟨a, vs, rfl, g1, g2⟩ := (cont_ok hs1 (ss.mono s1 p1) r1 e2).seq hs1.sub
        rw [cellsW_eq e3] at g2
        obtain ⟨as, t1, t2, t3⟩ := g2.cells
        subst t1 t2
        have ksEq : (as.map fun p => ((p.1, [p.2.1, p.2.2]) : Addr × List Int)).map (fun p => V.ref p.1) = as.map fun p => V.ref p.1 := by rw [List.map_map]; rfl
        refine ⟨a, as.map fun p => (p.1, [p.2.1, p.2.2]), rfl, by rw [ksEq]; exact g1, fun p hp => ?_, by rw [List.length_map]; rw [List.length_map] at hz; exact hz, fun st LL hst sub1 sub2 => ?_⟩
        · obtain ⟨u, hu', rfl⟩ := List.mem_map.mp hp
          exact (t3 u hu').sq hs1.sub
        · -- the set stands at st, untracked by us
          have back : ∀ p ∈ LL, ∃ u ∈ as, p = (u.1, [u.2.1, u.2.2]) := fun p hp => by
            obtain ⟨u, h1, h2⟩ := List.mem_map.mp (sub1 p hp)
            exact ⟨u, h1, h2.symm⟩
          have hs2 : Hs X.K X.mg Z F1 φ1 L1 (upd H1 st (SetTO X.prog X.w st LL)) := (hs1.fresh (o := SetTO X.prog X.w st LL) hst (by intro _ z; unfold SetTO at z; cases z)).weak (Sub.new (hs1.free hst).2.1)
          refine ⟨st, LL, rfl, upd_same, fun p hp => ?_, fun p hp => ?_, fun L' p pm nd pw hp => ?_⟩
          · obtain ⟨u, h1, rfl⟩ := back p hp
            exact (t3 u h1).sq hs2.sub
          · obtain ⟨u, h1, rfl⟩ := back p hp
            rfl
          · have hmem : ∀ x, x ∈ (L'.map fun q => keyC q.2) ↔ x ∈ as.map Prod.snd := fun x => by
              constructor
              · intro hx
                obtain ⟨q, hq, rfl⟩ := List.mem_map.mp hx
                obtain ⟨u, h1, rfl⟩ := back q (pm.mem_iff.mp hq)
                exact List.mem_map.mpr ⟨u, h1, rfl⟩
              · intro hx
                obtain ⟨u, hu', rfl⟩ := List.mem_map.mp hx
                have m1 := sub2 (u.1, [u.2.1, u.2.2]) (List.mem_map.mpr ⟨u, hu', rfl⟩)
                obtain ⟨q, hq, e⟩ := List.mem_map.mp m1
                refine List.mem_map.mpr ⟨q, pm.mem_iff.mpr hq, ?_⟩
                rw [e]; rfl
            have ec : canon (as.map Prod.snd) = L'.map fun q => keyC q.2 := by
              rw [canon_of nd hmem]
              exact sorted_uniq (sortC_perm _) (sortC_pw _) pw
            have rr : Rs X.K F1 φ1 ((L'.map fun q => keyC q.2).map cW) (L'.map fun q => V.ref q.1) := by
              have := Rs.of_cells (K := X.K) (F := F1) (φ := φ1) (as := L'.map fun q => (q.1, keyC q.2)) fun p hp => by
                obtain ⟨q, hq, rfl⟩ := List.mem_map.mp hp
                obtain ⟨u, h1, rfl⟩ := back q (pm.mem_iff.mp hq)
                exact t3 u h1
              have ea : (L'.map fun q => ((q.1, keyC q.2) : Addr × Cell)).map Prod.snd = L'.map fun q => keyC q.2 := by rw [List.map_map]; rfl
              have eb : (L'.map fun q => ((q.1, keyC q.2) : Addr × Cell)).map (fun p => V.ref p.1) = L'.map fun q => V.ref q.1 := by rw [List.map_map]; rfl
              rw [ea, eb] at this
              exact this
            refine q F1 φ1 _ p (.lst (L'.map fun q => V.ref q.1)) s1 p1 (hs2.free hp).2.1 (hs2.fresh hp) ?_
            show Rs _ _ _ ((canon (as.map Prod.snd)).map cW) _
            rw [ec]
            exact rr
      · cases h
    · cases h
  · cases h
/-! ### slices -/
/-- an optional part -/
structure IP (X : Cx) (e : Option Expr) (f : Ro → Lg → Option (Option Int × Lg)) : Prop where
  run : ∀ {Zx Z F : Hp} {φ : List Addr} {L : Lg} {ρ : Ro} {σ : L2.St} {H : Hp} {w : Option Int} {L' : Lg}, Hs X.K X.mg Z F φ L H → Ss X.K Zx Z F φ ρ σ → f ρ L = some (w, L') →
    ∀ Q : Option Int → Hp → Prop, (∀ (F' : Hp) (φ' : List Addr) (H' : Hp), Sub F F' → φ <+: φ' → Hs X.K X.mg Z F' φ' L' H' → Q w H') → ∃ t, PO X e t ∧ t σ H Q
def cNoP : Ro → Lg → Option (Option Int × Lg) := fun _ L => some (none, L)
def cPart (f : EF) : Ro → Lg → Option (Option Int × Lg) := fun ρ L => match f ρ L with
  | some (.int i, L') => some (some i, L')
  | _ => none
theorem ip_none : IP X none cNoP := by
  refine ⟨fun {Zx Z F φ L ρ σ H w L'} hs ss h Q q => ⟨_, po_none, ?_⟩⟩
  simp only [cNoP, Option.some.injEq, Prod.mk.injEq] at h
  obtain ⟨rfl, rfl⟩ := h
  exact q F φ H (Sub.refl F) (List.prefix_refl φ) hs
theorem ip_some {f : EF} (he : IE X e f) : IP X (some e) (cPart f) := by
  refine ⟨fun {Zx Z F φ L ρ σ H w L'} hs ss h Q q => ⟨_, po_some wpE, ?_⟩⟩
  unfold cPart at h
  split at h
  · rename_i i L1 e1
    simp only [Option.some.injEq, Prod.mk.injEq] at h
    obtain ⟨rfl, rfl⟩ := h
    refine he.run hs ss e1 _ fun F1 φ1 H1 v s1 p1 hs1 r1 => ?_
    cases r1
    exact ⟨i, rfl, q F1 φ1 H1 s1 p1 hs1⟩
  · cases h
def WpO (X : Cx) (e : Option Expr) : L2.St → Hp → (Option Int → Hp → Prop) → Prop := fun σ H Q => ∃ t, PO X e t ∧ t σ H Q
theorem wpO : PO X (none : Option Expr) (WpO X none) ∧ ∀ e, PO X (some e) (WpO X (some e)) :=
  ⟨⟨fun pins s σ H Q I ⟨t, h1, h2⟩ => h1.run pins s σ H Q I h2⟩, fun e => ⟨fun pins s σ H Q I ⟨t, h1, h2⟩ => h1.run pins s σ H Q I h2⟩⟩
theorem wpOa (e : Option Expr) : PO X e (WpO X e) := by
  cases e with
  | none => exact wpO.1
  | some e => exact wpO.2 e
def cutW {α : Type} (xs : List α) (lo hi : Option Int) : List α := (xs.drop (HT.sIx xs.length 0 lo)).take (HT.sIx xs.length xs.length hi - HT.sIx xs.length 0 lo)
theorem Rs.cut {K : PySem.W.Frag} {F : Hp} {φ : List Addr} {ws : List W} {vs : List V} (r : Rs K F φ ws vs) (lo hi : Option Int) : Rs K F φ (cutW ws lo hi) (cutV vs lo hi) := by
  unfold cutW cutV
  rw [r.length]
  exact (r.drop _).take _
def slW : W → Option Int → Option Int → Option W
  | .lst ws, l, u => some (.lst (cutW ws l u))
  | .str s, l, u => if s.length ≤ 16777216 then some (.str (cutS s l u)) else none
  | _, _, _ => none
def cSl (fo : OF) (fl fh : Ro → Lg → Option (Option Int × Lg)) : EF := fun ρ L => match fo ρ L with
  | none => none
  | some (h, L1) => match fl ρ L1 with
    | none => none
    | some (l, L2) => match fh ρ L2 with
      | none => none
      | some (u, L3) => match cont ρ L3 h with
        | none => none
        | some w => match slW w l u with
          | none => none
          | some r => some (r, L3)
theorem ie_sl {fo : OF} {lo hi : Option Expr} {fl fh : Ro → Lg → Option (Option Int × Lg)} {p2 : Pos} (ha : IO X a fo) (hl : IP X lo fl) (hh : IP X hi fh) : IE X (.Subscript a (.Slice lo hi none p2) pos) (cSl fo fl fh) := by
  refine ⟨fun {Zx Z F φ L ρ σ H w L'} hs ss h Q q => PE.wp (pe_slice (SlR.or sl_list sl_str) wpE (wpOa lo) (wpOa hi)) ?_⟩
  unfold cSl at h
  split at h
  · cases h
  rename_i hd L1 e1
  split at h
  · cases h
  rename_i l L2 e2
  split at h
  · cases h
  rename_i u L3 e3
  split at h
  · cases h
  rename_i w0 e4
  split at h
  · cases h
  rename_i r e5
  simp only [Option.some.injEq, Prod.mk.injEq] at h
  obtain ⟨rfl, rfl⟩ := h
  refine ha.run hs ss e1 _ fun F1 φ1 H1 v s1 p1 hs1 r1 => ?_
  refine hl.run hs1 (ss.mono s1 p1) e2 _ fun F2 φ2 H2 s2 p2 hs2 => ?_
  refine hh.run hs2 (ss.mono (s1.trans s2) (List.IsPrefix.trans p1 p2)) e3 _ fun F3 φ3 H3 s3 p3 hs3 => ?_
  have s13 := (s1.trans s2).trans s3
  have p13 := List.IsPrefix.trans (List.IsPrefix.trans p1 p2) p3
  have r1' : HR X.K F3 φ3 ρ σ hd v := by
    cases hd with
    | val w => exact R.mono (s2.trans s3) (List.IsPrefix.trans p2 p3) r1
    | own i => exact r1
  have c := cont_ok hs3 (ss.mono s13 p13) r1' e4
  unfold slW at e5
  split at e5
  · cases e5
    obtain ⟨a, vs, rfl, g1, g2⟩ := c.seq hs3.sub
    refine .inl ⟨a, vs, rfl, g1, fun p hp => ?_⟩
    exact newL hs3 (g2.cut l u) (fun F' H' v s' hs' r' => q F' φ3 H' v (s13.trans s') p13 hs' r') hp
  · split at e5
    · rename_i hz
      cases e5
      have e := c.str
      subst e
      exact .inr ⟨_, rfl, by rw [sizeLine_eq]; exact hz, q F3 φ3 H3 _ s13 p13 hs3 (.str _)⟩
    · cases e5
  · cases e5
/-- xs[::-1] -/
def revW : W → Option W
  | .lst ws => some (.lst ws.reverse)
  | _ => none
def cRev (fo : OF) : EF := fun ρ L => match fo ρ L with
  | none => none
  | some (h, L1) => match cont ρ L1 h with
    | none => none
    | some w => match revW w with
      | none => none
      | some r => some (r, L1)
theorem ie_rev {fo : OF} {k : Nat} {p1 p2 p3 : Pos} (ha : IO X a fo) : IE X (.Subscript a (.Slice none none (some (.UnaryOp .USub (.Constant (.int 1) k p1) p2)) p3) pos) (cRev fo) := by
  refine ⟨fun {Zx Z F φ L ρ σ H w L'} hs ss h Q q => PE.wp (pe_revL wpE) ?_⟩
  unfold cRev at h
  split at h
  · cases h
  rename_i hd L1 e1
  split at h
  · cases h
  rename_i w0 e4
  split at h
  · cases h
  rename_i r e5
  simp only [Option.some.injEq, Prod.mk.injEq] at h
  obtain ⟨rfl, rfl⟩ := h
  refine ha.run hs ss e1 _ fun F1 φ1 H1 v s1 p1 hs1 r1 => ?_
  have c := cont_ok hs1 (ss.mono s1 p1) r1 e4
  unfold revW at e5
  split at e5
  · cases e5
    obtain ⟨a, vs, rfl, g1, g2⟩ := c.seq hs1.sub
    refine ⟨a, vs, rfl, g1, fun p hp => ?_⟩
    exact newL hs1 g2.reverse (fun F' H' v s' hs' r' => q F' φ1 H' v (s1.trans s') p1 hs' r') hp
  · cases e5
end
end Lf

set_option maxHeartbeats 4000000
/-! Lf, part V: dicts, and loops over their keys. -/
namespace Lf
open PySem PySem.Spec PyProof.Rows L2

section
variable {κ : Type} [DecidableEq κ]
def lookD (kvs : List (κ × W)) (k : κ) : Option W := (kvs.find? fun kv => decide (kv.1 = k)).map (·.2)
def putD (kvs : List (κ × W)) (k : κ) (w : W) : List (κ × W) :=
  if (kvs.any fun kv => decide (kv.1 = k)) = true then kvs.map (fun kv => if kv.1 = k then (kv.1, w) else kv) else kvs ++ [(k, w)]
def delD (kvs : List (κ × W)) (k : κ) : List (κ × W) := kvs.filter fun kv => decide (kv.1 ≠ k)
variable {K : PySem.W.Frag} {F : Hp} {φ : List Addr}
theorem look_rel (k : κ) : ∀ {kvs : List (κ × W)} {vs : List (κ × V)}, kvs.map Prod.fst = vs.map Prod.fst → Rs K F φ (kvs.map Prod.snd) (vs.map Prod.snd) →
    (lookD kvs k = none ∧ valV vs k = none) ∨ ∃ w v, lookD kvs k = some w ∧ valV vs k = some v ∧ R K F φ w v
  | [], [], _, _ => .inl ⟨rfl, rfl⟩
  | [], _ :: _, e, _ => by simp at e
  | _ :: _, [], e, _ => by simp at e
  | (a, w) :: kvs, (b, v) :: vs, e, r => by
    simp only [List.map_cons, List.cons.injEq] at e
    obtain ⟨e1, e2⟩ := e
    subst e1
    cases r with
    | cons r1 r2 =>
      by_cases q : a = k
      · refine .inr ⟨w, v, ?_, ?_, r1⟩
        · simp [lookD, List.find?_cons, q]
        · simp [valV, List.find?_cons, q]
      · rcases look_rel k e2 r2 with ⟨h1, h2⟩ | ⟨w', v', h1, h2, h3⟩
        · refine .inl ⟨?_, ?_⟩
          · unfold lookD at h1 ⊢; rw [List.find?_cons]; simp only [q, decide_false]; exact h1
          · unfold valV at h2 ⊢; rw [List.find?_cons]; simp only [q, decide_false]; exact h2
        · refine .inr ⟨w', v', ?_, ?_, h3⟩
          · unfold lookD at h1 ⊢; rw [List.find?_cons]; simp only [q, decide_false]; exact h1
          · unfold valV at h2 ⊢; rw [List.find?_cons]; simp only [q, decide_false]; exact h2
theorem any_rel (k : κ) : ∀ {kvs : List (κ × W)} {vs : List (κ × V)}, kvs.map Prod.fst = vs.map Prod.fst → (kvs.any fun kv => decide (kv.1 = k)) = (vs.any fun kv => decide (kv.1 = k))
  | [], [], _ => rfl
  | [], _ :: _, e => by simp at e
  | _ :: _, [], e => by simp at e
  | (a, w) :: kvs, (b, v) :: vs, e => by
    simp only [List.map_cons, List.cons.injEq] at e
    obtain ⟨e1, e2⟩ := e
    subst e1
    simp only [List.any_cons]
    rw [any_rel k e2]
theorem upd_rel (k : κ) {w : W} {v : V} (r : R K F φ w v) : ∀ {kvs : List (κ × W)} {vs : List (κ × V)}, kvs.map Prod.fst = vs.map Prod.fst → Rs K F φ (kvs.map Prod.snd) (vs.map Prod.snd) →
    (kvs.map fun kv => if kv.1 = k then (kv.1, w) else kv).map Prod.fst = (vs.map fun kv => if kv.1 = k then (kv.1, v) else kv).map Prod.fst ∧ Rs K F φ ((kvs.map fun kv => if kv.1 = k then (kv.1, w) else kv).map Prod.snd) ((vs.map fun kv => if kv.1 = k then (kv.1, v) else kv).map Prod.snd)
  | [], [], _, _ => ⟨rfl, .nil⟩
  | [], _ :: _, e, _ => by simp at e
  | _ :: _, [], e, _ => by simp at e
  | (a, w') :: kvs, (b, v') :: vs, e, rs => by
    simp only [List.map_cons, List.cons.injEq] at e
    obtain ⟨e1, e2⟩ := e
    subst e1
    cases rs with
    | cons r1 r2 =>
      obtain ⟨h1, h2⟩ := upd_rel k r e2 r2
      by_cases q : a = k
      · simp only [List.map_cons, if_pos q]
        exact ⟨by rw [h1], .cons r h2⟩
      · simp only [List.map_cons, if_neg q]
        exact ⟨by rw [h1], .cons r1 h2⟩
theorem put_rel (k : κ) {w : W} {v : V} (r : R K F φ w v) {kvs : List (κ × W)} {vs : List (κ × V)} (e : kvs.map Prod.fst = vs.map Prod.fst) (rs : Rs K F φ (kvs.map Prod.snd) (vs.map Prod.snd)) :
    (putD kvs k w).map Prod.fst = (putK vs k v).map Prod.fst ∧ Rs K F φ ((putD kvs k w).map Prod.snd) ((putK vs k v).map Prod.snd) := by
  unfold putD putK
  rw [any_rel k e]
  split
  · exact upd_rel k r e rs
  · rw [List.map_append, List.map_append, List.map_append, List.map_append, e]
    exact ⟨rfl, rs.append (.one r)⟩
end
/-- keys -/
def keyW : Key → W
  | .inl i => .int i
  | .inr s => .str s
def asKey : W → Option Key
  | .int i => some (.inl i)
  | .str s => some (.inr s)
  | _ => none
def asKeys : List W → Option (List Key)
  | [] => some []
  | w :: ws => match asKey w, asKeys ws with
    | some k, some ks => some (k :: ks)
    | _, _ => none
def asTKey : W → Option (List Key)
  | .tup ws => asKeys ws
  | _ => none
section
variable {K : PySem.W.Frag} {F : Hp} {φ : List Addr}
theorem asKey_rel {w : W} {v : V} {k : Key} (r : R K F φ w v) (h : asKey w = some k) : v = kV k := by
  cases w <;> first | (simp only [asKey, Option.some.injEq] at h; subst h; cases r; rfl) | cases h
theorem asKeys_rel : ∀ {ws : List W} {vs : List V} {ks : List Key}, Rs K F φ ws vs → asKeys ws = some ks → vs = ks.map kV
  | _, _, _, .nil, h => by simp only [asKeys, Option.some.injEq] at h; subst h; rfl
  | _, _, _, .cons r t, h => by
    simp only [asKeys] at h
    split at h
    · rename_i k ks' e1 e2
      simp only [Option.some.injEq] at h
      subst h
      rw [asKey_rel r e1, asKeys_rel t e2]; rfl
    · cases h
theorem asTKey_rel {w : W} {v : V} {k : List Key} (r : R K F φ w v) (h : asTKey w = some k) : ∃ b, v = .ref b ∧ F b = some (.tup (k.map kV)) := by
  cases w <;> first | cases h | skip
  cases r with
  | tup h1 h2 =>
    have h1' : F _ = some (.tup _) := h1
    rw [asKeys_rel h2 h] at h1'
    exact ⟨_, rfl, h1'⟩
/-- what a dict's contents give at a key -/
def getW : W → W → Option (Option W)
  | .dK kvs, k => match asKey k with
    | some k => some (lookD kvs k)
    | none => none
  | .dT kvs, k => match asTKey k with
    | some k => some (lookD kvs k)
    | none => none
  | _, _ => none
theorem get_rel {H : Hp} {d k : W} {vd vk : V} {r : Option W} (s : Sub F H) (c : Cont K F φ H d vd) (rk : R K F φ k vk) (h : getW d k = some r) :
    ∃ a o, vd = .ref a ∧ DGet H a vk o ∧ ((r = none ∧ o = none) ∨ ∃ w v, r = some w ∧ o = some v ∧ R K F φ w v) := by
  unfold getW at h
  split at h
  · split at h
    · rename_i kvs _ kk e
      simp only [Option.some.injEq] at h
      subst h
      have ek := asKey_rel rk e
      subst ek
      have hd : ∃ a vs, vd = .ref a ∧ Rd H a (.dK vs) ∧ kvs.map Prod.fst = vs.map Prod.fst ∧ Rs K F φ (kvs.map Prod.snd) (vs.map Prod.snd) := by
        rcases c with c | ⟨a, o, m, rfl, e1, e2, e3⟩
        · cases c with
          | dK h1 h2 h3 =>
            refine ⟨_, _, rfl, ?_, h2, h3⟩
            rcases h1 with h1 | ⟨ob, h1⟩
            · exact .inl (s _ _ h1)
            · exact .inr ⟨ob, s _ _ h1⟩
        · cases m <;> cases e1
          cases o <;> first | exact e3.elim | skip
          exact ⟨a, _, rfl, .inl e2, e3.1, e3.2⟩
      obtain ⟨a, vs, rfl, h1, h2, h3⟩ := hd
      rcases look_rel kk h2 h3 with ⟨g1, g2⟩ | ⟨w, v, g1, g2, g3⟩
      · exact ⟨a, none, rfl, .inl ⟨vs, kk, h1, rfl, g2.symm⟩, .inl ⟨g1, rfl⟩⟩
      · exact ⟨a, some v, rfl, .inl ⟨vs, kk, h1, rfl, g2.symm⟩, .inr ⟨w, v, g1, rfl, g3⟩⟩
    · cases h
  · split at h
    · rename_i kvs _ kk e
      simp only [Option.some.injEq] at h
      subst h
      obtain ⟨b, rfl, hb⟩ := asTKey_rel rk e
      have hd : ∃ a vs, vd = .ref a ∧ Rd H a (.dT vs) ∧ kvs.map Prod.fst = vs.map Prod.fst ∧ Rs K F φ (kvs.map Prod.snd) (vs.map Prod.snd) := by
        rcases c with c | ⟨a, o, m, rfl, e1, e2, e3⟩
        · cases c with
          | dT h1 h2 h3 =>
            refine ⟨_, _, rfl, ?_, h2, h3⟩
            rcases h1 with h1 | ⟨ob, h1⟩
            · exact .inl (s _ _ h1)
            · exact .inr ⟨ob, s _ _ h1⟩
        · cases m <;> cases e1
          cases o <;> first | exact e3.elim | skip
          exact ⟨a, _, rfl, .inl e2, e3.1, e3.2⟩
      obtain ⟨a, vs, rfl, h1, h2, h3⟩ := hd
      rcases look_rel kk h2 h3 with ⟨g1, g2⟩ | ⟨w, v, g1, g2, g3⟩
      · exact ⟨a, none, rfl, .inr ⟨vs, kk, b, h1, rfl, s _ _ hb, g2.symm⟩, .inl ⟨g1, rfl⟩⟩
      · exact ⟨a, some v, rfl, .inr ⟨vs, kk, b, h1, rfl, s _ _ hb, g2.symm⟩, .inr ⟨w, v, g1, rfl, g3⟩⟩
    · cases h
  · cases h
end
section
variable {X : Cx} {e a b c : Expr} {es : List Expr} {pos : Pos}
theorem HR.step {K : PySem.W.Frag} {F F' : Hp} {φ φ' : List Addr} {ρ : Ro} {σ : L2.St} {h : Hd} {v : V} (s : Sub F F') (p : φ <+: φ') (r : HR K F φ ρ σ h v) : HR K F' φ' ρ σ h v := by
  cases h with
  | val w => exact R.mono s p r
  | own i => exact r
/-- d[k] -/
def cDGet (fo : OF) (fk : EF) : EF := fun ρ L => match fo ρ L with
  | none => none
  | some (h, L1) => match fk ρ L1 with
    | none => none
    | some (k, L2) => match cont ρ L2 h with
      | none => none
      | some d => match getW d k with
        | some (some w) => some (w, L2)
        | _ => none
theorem ie_dget {fo : OF} {fk : EF} (hu : X.A.units + 1 < cLine) (ho : IO X a fo) (hk : IE X b fk) (hs' : NoSl b := by intro _ _; rfl) : IE X (.Subscript a b pos) (cDGet fo fk) := by
  refine ⟨fun {Zx Z F φ L ρ σ H w L'} hs ss h Q q => PE.wp (pe_dget hu wpE wpE hs') ?_⟩
  unfold cDGet at h
  split at h
  · cases h
  rename_i hd L1 e1
  split at h
  · cases h
  rename_i k L2 e2
  split at h
  · cases h
  rename_i d e3
  split at h
  · rename_i w0 e4
    simp only [Option.some.injEq, Prod.mk.injEq] at h
    obtain ⟨rfl, rfl⟩ := h
    refine ho.run hs ss e1 _ fun F1 φ1 H1 vo s1 p1 hs1 r1 => ?_
    refine hk.run hs1 (ss.mono s1 p1) e2 _ fun F2 φ2 H2 vk s2 p2 hs2 r2 => ?_
    have s12 := s1.trans s2
    have p12 := List.IsPrefix.trans p1 p2
    obtain ⟨a, o, rfl, hg, hr⟩ := get_rel hs2.sub (cont_ok hs2 (ss.mono s12 p12) (r1.step s2 p2) e3) r2 e4
    rcases hr with ⟨z, _⟩ | ⟨w1, v1, z, rfl, hr⟩
    · cases z
    · cases z
      exact ⟨a, v1, rfl, hg, q F2 φ2 H2 v1 s12 p12 hs2 hr⟩
  · cases h
/-- k in d, k not in d -/
def cDIn (neg : Bool) (fk : EF) (fo : OF) : EF := fun ρ L => match fk ρ L with
  | none => none
  | some (k, L1) => match fo ρ L1 with
    | none => none
    | some (h, L2) => match cont ρ L2 h with
      | none => none
      | some d => match getW d k with
        | some r => some (.bl (if neg then !r.isSome else r.isSome), L2)
        | none => none
theorem din_run {neg : Bool} {fo : OF} {fk : EF} (ho : IO X b fo) (hk : IE X a fk) {Zx Z F : Hp} {φ : List Addr} {L : Lg} {ρ : Ro} {σ : L2.St} {H : Hp} {w : W} {L' : Lg} (hs : Hs X.K X.mg Z F φ L H) (ss : Ss X.K Zx Z F φ ρ σ) (h : cDIn neg fk fo ρ L = some (w, L'))
    (Q : VK) (q : ∀ (F' : Hp) (φ' : List Addr) (H' : Hp) (v : V), Sub F F' → φ <+: φ' → Hs X.K X.mg Z F' φ' L' H' → R X.K F' φ' w v → Q v H') :
    Wp X a σ H fun y H1 => Wp X b σ H1 fun x H2 => ∃ a o, x = .ref a ∧ DGet H2 a y o ∧ Q (.bl (if neg then !o.isSome else o.isSome)) H2 := by
  unfold cDIn at h
  split at h
  · cases h
  rename_i k L1 e1
  split at h
  · cases h
  rename_i hd L2 e2
  split at h
  · cases h
  rename_i d e3
  split at h
  · rename_i r e4
    simp only [Option.some.injEq, Prod.mk.injEq] at h
    obtain ⟨rfl, rfl⟩ := h
    refine hk.run hs ss e1 _ fun F1 φ1 H1 vk s1 p1 hs1 r1 => ?_
    refine ho.run hs1 (ss.mono s1 p1) e2 _ fun F2 φ2 H2 vo s2 p2 hs2 r2 => ?_
    have s12 := s1.trans s2
    have p12 := List.IsPrefix.trans p1 p2
    obtain ⟨a, o, rfl, hg, hr⟩ := get_rel hs2.sub (cont_ok hs2 (ss.mono s12 p12) r2 e3) (r1.mono s2 p2) e4
    refine ⟨a, o, rfl, hg, ?_⟩
    have eo : o.isSome = r.isSome := by
      rcases hr with ⟨rfl, rfl⟩ | ⟨w1, v1, rfl, rfl, _⟩ <;> rfl
    rw [eo]
    exact q F2 φ2 H2 _ s12 p12 hs2 (.bl _)
  · cases h
theorem ie_din {fo : OF} {fk : EF} (hu : X.A.units + 1 < cLine) (hk : IE X a fk) (ho : IO X b fo) (h1 : behindInMarks .In b = false := by rfl) : IE X (.Compare a [.In] [b] pos) (cDIn false fk fo) :=
  ⟨fun hs ss h Q q => PE.wp (pe_cmp (pc_din hu wpE wpE) h1) (din_run ho hk hs ss h Q q)⟩
theorem ie_dnotin {fo : OF} {fk : EF} (hu : X.A.units + 1 < cLine) (hk : IE X a fk) (ho : IO X b fo) (h1 : behindInMarks .NotIn b = false := by rfl) : IE X (.Compare a [.NotIn] [b] pos) (cDIn true fk fo) :=
  ⟨fun hs ss h Q q => PE.wp (pe_cmp (pc_dnotin hu wpE wpE) h1) (din_run ho hk hs ss h Q q)⟩
theorem it_din {fo : OF} {fk : EF} (hu : X.A.units + 1 < cLine) (hk : IE X a fk) (ho : IO X b fo) (h1 : behindInMarks .In b = false := by rfl) : IT X (.Compare a [.In] [b] pos) (asT (cDIn false fk fo)) := by
  refine ⟨fun {Zx Z F φ L ρ σ H w L'} hs ss h Q q => PT.wp (pt_cmp (pc_din hu wpE wpE) h1) ?_⟩
  refine din_run ho hk hs ss (asT_some h) (fun x H' => ∃ k, x = .bl k ∧ Q k H') fun F' φ' H' v s1 p1 hs1 r1 => ?_
  cases r1
  exact ⟨w, rfl, q F' φ' H' s1 p1 hs1⟩
theorem it_dnotin {fo : OF} {fk : EF} (hu : X.A.units + 1 < cLine) (hk : IE X a fk) (ho : IO X b fo) (h1 : behindInMarks .NotIn b = false := by rfl) : IT X (.Compare a [.NotIn] [b] pos) (asT (cDIn true fk fo)) := by
  refine ⟨fun {Zx Z F φ L ρ σ H w L'} hs ss h Q q => PT.wp (pt_cmp (pc_dnotin hu wpE wpE) h1) ?_⟩
  refine din_run ho hk hs ss (asT_some h) (fun x H' => ∃ k, x = .bl k ∧ Q k H') fun F' φ' H' v s1 p1 hs1 r1 => ?_
  cases r1
  exact ⟨w, rfl, q F' φ' H' s1 p1 hs1⟩
theorem cont_isD {K : PySem.W.Frag} {F H : Hp} {φ : List Addr} {d k : W} {v : V} {r : Option W} (s : Sub F H) (c : Cont K F φ H d v) (h : getW d k = some r) : ∃ a, v = .ref a ∧ IsD H a := by
  unfold getW at h
  split at h
  · rcases c with c | ⟨a, o, m, rfl, e1, e2, e3⟩
    · cases c with
      | dK h1 h2 h3 =>
        rcases h1 with h1 | ⟨ob, h1⟩
        · exact ⟨_, rfl, .inl ⟨_, .inl (s _ _ h1)⟩⟩
        · exact ⟨_, rfl, .inl ⟨_, .inr ⟨ob, s _ _ h1⟩⟩⟩
    · cases m <;> cases e1
      cases o <;> first | exact e3.elim | skip
      exact ⟨a, rfl, .inl ⟨_, .inl e2⟩⟩
  · rcases c with c | ⟨a, o, m, rfl, e1, e2, e3⟩
    · cases c with
      | dT h1 h2 h3 =>
        rcases h1 with h1 | ⟨ob, h1⟩
        · exact ⟨_, rfl, .inr ⟨_, .inl (s _ _ h1)⟩⟩
        · exact ⟨_, rfl, .inr ⟨_, .inr ⟨ob, s _ _ h1⟩⟩⟩
    · cases m <;> cases e1
      cases o <;> first | exact e3.elim | skip
      exact ⟨a, rfl, .inr ⟨_, .inl e2⟩⟩
  · cases h
/-- d.get(k, x) -/
def cDGet2 (fo : OF) (fk fx : EF) : EF := fun ρ L => match fo ρ L with
  | none => none
  | some (h, L0) => match fk ρ L0 with
    | none => none
    | some (k, L1) => match fx ρ L1 with
      | none => none
      | some (x, L2) => match cont ρ L0 h, cont ρ L2 h with
        | some d0, some d => (match getW d0 k, getW d k with
          | some _, some r => some (r.getD x, L2)
          | _, _ => none)
        | _, _ => none
theorem ie_dget2 {fo : OF} {fk fx : EF} {apos cpos : Pos} (hu : X.A.units + 1 < cLine) (ho : IO X a fo) (hk : IE X b fk) (hx : IE X c fx) (m : M2 X a "get" apos b c cpos) : IE X (.Call (.Attribute a "get" apos) [b, c] [] cpos) (cDGet2 fo fk fx) := by
  refine ⟨fun {Zx Z F φ L ρ σ H w L'} hs ss h Q q => PE.wp (pe_dget2 hu wpE wpE wpE m) ?_⟩
  unfold cDGet2 at h
  split at h
  · cases h
  rename_i hd L0 e0
  split at h
  · cases h
  rename_i k L1 e1
  split at h
  · cases h
  rename_i x L2 e2
  split at h
  · rename_i d0 d e3 e4
    split at h
    · rename_i r0 r g0 g1
      simp only [Option.some.injEq, Prod.mk.injEq] at h
      obtain ⟨rfl, rfl⟩ := h
      refine ho.run hs ss e0 _ fun F1 φ1 H1 vo s1 p1 hs1 r1 => ?_
      obtain ⟨a, rfl, isd⟩ := cont_isD hs1.sub (cont_ok hs1 (ss.mono s1 p1) r1 e3) g0
      refine ⟨a, rfl, isd, ?_⟩
      refine hk.run hs1 (ss.mono s1 p1) e1 _ fun F2 φ2 H2 vk s2 p2 hs2 r2 => ?_
      refine hx.run hs2 (ss.mono (s1.trans s2) (List.IsPrefix.trans p1 p2)) e2 _ fun F3 φ3 H3 vx s3 p3 hs3 r3 => ?_
      have s13 := (s1.trans s2).trans s3
      have p13 := List.IsPrefix.trans (List.IsPrefix.trans p1 p2) p3
      obtain ⟨a', o, ea, hg, hr⟩ := get_rel hs3.sub (cont_ok hs3 (ss.mono s13 p13) (r1.step (s2.trans s3) (List.IsPrefix.trans p2 p3)) e4) (r2.mono s3 p3) g1
      cases ea
      refine ⟨o, hg, ?_⟩
      rcases hr with ⟨rfl, rfl⟩ | ⟨w1, v1, rfl, rfl, hr⟩
      · exact q F3 φ3 H3 vx s13 p13 hs3 r3
      · exact q F3 φ3 H3 v1 s13 p13 hs3 hr
    · cases h
  · cases h
/-! ### d[k] = v, d an own dict of the slot i -/
def putM : M → W → W → Option M
  | .dK kvs, k, w => match asKey k with
    | some k => if kvs.length < 16777216 then some (.dK (putD kvs k w)) else none
    | none => none
  | .dT kvs, k, w => match asTKey k with
    | some k => if kvs.length < 16777216 then some (.dT (putD kvs k w)) else none
    | none => none
  | .lst xs, .int i, w => match ixN xs.length i with
    | some j => some (.lst (xs.set j w))
    | none => none
  | _, _, _ => none
theorem keys_len {κ : Type} {kvs : List (κ × W)} {vs : List (κ × V)} (e : kvs.map Prod.fst = vs.map Prod.fst) : kvs.length = vs.length := by
  have := congrArg List.length e
  simpa using this
theorem putM_rel {K : PySem.W.Frag} {F H : Hp} {φ : List Addr} {m m' : M} {o : HO} {p : Addr} {k w : W} {vk vw : V} (s : Sub F H) (hH : H p = some o) (hm : MOk K F φ m o) (rk : R K F φ k vk) (rw' : R K F φ w vw) (nl : ∀ xs, m ≠ .lst xs) (h : putM m k w = some m') :
    ∃ o', DPut H p vk vw (upd H p o') ∧ MOk K F φ m' o' := by
  unfold putM at h
  split at h
  · split at h
    · split at h
      · rename_i kvs kk e hz
        cases h
        cases o <;> first | exact hm.elim | skip
        rename_i vs
        obtain ⟨m1, m2⟩ := hm
        have ek := asKey_rel rk e
        subst ek
        exact ⟨.dK (putK vs kk vw), .inl ⟨vs, kk, hH, rfl, by rw [← keys_len m1, sizeLine_eq]; exact hz, rfl⟩, put_rel kk rw' m1 m2⟩
      · cases h
    · cases h
  · split at h
    · split at h
      · rename_i kvs kk e hz
        cases h
        cases o <;> first | exact hm.elim | skip
        rename_i vs
        obtain ⟨m1, m2⟩ := hm
        obtain ⟨b, rfl, hb⟩ := asTKey_rel rk e
        exact ⟨.dT (putK vs kk vw), .inr ⟨vs, kk, b, hH, rfl, s _ _ hb, by rw [← keys_len m1, sizeLine_eq]; exact hz, rfl⟩, put_rel kk rw' m1 m2⟩
      · cases h
    · cases h
  · exact absurd rfl (nl _)
  · cases h
def cPut (i : Nat) (fk fv : EF) : SF := fun ρ L => match fv ρ L with
  | none => none
  | some (w, L1) => match fk ρ L1 with
    | none => none
    | some (k, L2) => match ρ[i]? with
      | some (.ow (.lst _)) => none
      | some (.ow m) => (match putM m k w with
        | some m' => some (.nx (ρ.set i (.ow m')) L2)
        | none => none)
      | _ => none
theorem is_put (i : Nat) {x : Str} {px pos' : Pos} {fk fv : EF} (hu : X.A.units + 1 < cLine) (hk : IE X b fk) (hv' : IE X c fv) (hN : X.N[i]? = some x := by rfl) (hv : Vis X.env.scope x := by first | exact Or.inl rfl | exact Or.inr (Or.inl rfl) | exact Or.inr (Or.inr rfl)) (hd : (x == ("__debug__" : Str)) = false := by decide)
    (hcd : (x == ("__classdict__" : Str)) = false := by decide) (hs' : swapsWith c (some (.Subscript (.Name x px) b pos')) pos.line X.env = pure false := by rfl) :
    IS X (.Assign [.Subscript (.Name x px) b pos'] c pos) (cPut i fk fv) := by
  refine ⟨fun {Zx Z F φ L ρ σ H o} hs ss h D q => PS.wp (ps_dput hu (pe_var hN hv hd hcd) wpE wpE hs') ?_⟩
  unfold cPut at h
  split at h
  · cases h
  rename_i w L1 e1
  split at h
  · cases h
  rename_i k L2 e2
  split at h
  · cases h
  · rename_i m nl e3
    split at h
    · rename_i m' e4
      simp only [Option.some.injEq] at h
      subst h
      obtain ⟨p, ho, h1, h2, h3, h4⟩ := ss.ow i _ e3
      refine hv'.run hs ss e1 _ fun F1 φ1 H1 vw s1 p1 hs1 r1 => ?_
      refine ⟨.ref p, h1, ?_⟩
      refine hk.run hs1 (ss.mono s1 p1) e2 _ fun F2 φ2 H2 vk s2 p2 hs2 r2 => ?_
      have s12 := s1.trans s2
      have p12 := List.IsPrefix.trans p1 p2
      obtain ⟨o', g1, g2⟩ := putM_rel hs2.sub (hs2.ext p _ h2).1 (h4.mono s12 p12) r2 (r1.mono s2 p2) (fun xs z => nl xs z) e4
      exact ⟨p, _, rfl, g1, q _ F2 φ2 σ _ s12 p12 (hs2.turn h2 g2.nt) ((ss.mono s12 p12).turn e3 h1 g2)⟩
    · cases h
  · cases h
end
/-! ### locks -/
def isD : HO → Bool
  | .dK _ => true
  | .dT _ => true
  | _ => false
/-- the same but for a lock -/
def Lk (F F' : Hp) : Prop := ∀ a, F' a = F a ∨ ∃ od u, isD u = true ∧ ((F a = some u ∧ F' a = some (.frz od u)) ∨ (F a = some (.frz od u) ∧ F' a = some u))
theorem Lk.lock {F : Hp} {d : Addr} {od : Obj} {u : HO} (h : F d = some u) (hu : isD u = true) : Lk F (upd F d (.frz od u)) := fun a => by
  by_cases q : a = d
  · subst q; exact .inr ⟨od, u, hu, .inl ⟨h, upd_same⟩⟩
  · exact .inl (upd_ne q)
theorem Lk.unlock {F : Hp} {d : Addr} {od : Obj} {u : HO} (h : F d = some (.frz od u)) (hu : isD u = true) : Lk F (upd F d u) := fun a => by
  by_cases q : a = d
  · subst q; exact .inr ⟨od, u, hu, .inr ⟨h, upd_same⟩⟩
  · exact .inl (upd_ne q)
theorem Lk.at_ {F F' : Hp} (l : Lk F F') {a : Addr} {o : HO} (h : F a = some o) (n1 : isD o = false) (n2 : ∀ od u, o = .frz od u → isD u = false) : F' a = some o := by
  rcases l a with e | ⟨od, u, hu, ⟨e1, e2⟩ | ⟨e1, e2⟩⟩
  · rw [e]; exact h
  · rw [h] at e1; cases e1; rw [n1] at hu; cases hu
  · rw [h] at e1; cases e1; rw [n2 od u rfl] at hu; cases hu
theorem Lk.dict {F F' : Hp} (l : Lk F F') {a : Addr} {o : HO} (h : DAt F a o) (hd : isD o = true) : DAt F' a o := by
  rcases l a with e | ⟨od, u, hu, ⟨e1, e2⟩ | ⟨e1, e2⟩⟩
  · rcases h with h | ⟨ob, h⟩
    · exact .inl (by rw [e]; exact h)
    · exact .inr ⟨ob, by rw [e]; exact h⟩
  · rcases h with h | ⟨ob, h⟩
    · rw [h] at e1; cases e1; exact .inr ⟨od, e2⟩
    · rw [h] at e1; cases e1; cases hu
  · rcases h with h | ⟨ob, h⟩
    · rw [h] at e1; cases e1; cases hd
    · rw [h] at e1; cases e1; exact .inl e2
theorem Lk.sq {K : PySem.W.Frag} {F F' : Hp} (l : Lk F F') {a : Addr} {xs : List V} (h : SqL K F a xs) : SqL K F' a xs := by
  rcases h with (h | ⟨o, h⟩) | h
  · exact .inl (.inl (l.at_ h rfl fun _ _ z => nomatch z))
  · exact .inl (.inr ⟨o, l.at_ h rfl fun _ _ z => by cases z; rfl⟩)
  · exact .inr h
mutual
theorem R.lk {K : PySem.W.Frag} {F F' : Hp} {φ : List Addr} (l : Lk F F') : ∀ {w : W} {v : V}, R K F φ w v → R K F' φ w v
  | _, _, .non => .non
  | _, _, .bl b => .bl b
  | _, _, .int i => .int i
  | _, _, .str x => .str x
  | _, _, .ty n => .ty n
  | _, _, .tup h hs => .tup (l.at_ (o := .tup _) h rfl fun _ _ z => nomatch z) (Rs.lk l hs)
  | _, _, .lst h hs => .lst (l.at_ h rfl fun _ _ z => nomatch z) (Rs.lk l hs)
  | _, _, .kt h hs => .kt h (Rs.lk l hs)
  | _, _, .dK h k hs => .dK (l.dict h rfl) k (Rs.lk l hs)
  | _, _, .dT h k hs => .dT (l.dict h rfl) k (Rs.lk l hs)
  | _, _, .ob h => .ob h
  | _, _, .scr h => .scr (l.sq h)
theorem Rs.lk {K : PySem.W.Frag} {F F' : Hp} {φ : List Addr} (l : Lk F F') : ∀ {ws : List W} {vs : List V}, Rs K F φ ws vs → Rs K F' φ ws vs
  | _, _, .nil => .nil
  | _, _, .cons h hs => .cons (R.lk l h) (Rs.lk l hs)
end
theorem MOk.lk {K : PySem.W.Frag} {F F' : Hp} {φ : List Addr} (l : Lk F F') {m : M} {o : HO} (h : MOk K F φ m o) : MOk K F' φ m o := by
  cases m <;> cases o <;> first | exact Rs.lk l h | exact ⟨h.1, Rs.lk l h.2⟩ | exact h
section
variable {K : PySem.W.Frag} {mg : Str → Option Value} {Zx Z F : Hp} {φ : List Addr} {L : Lg} {H : Hp} {ρ : Ro} {σ : L2.St} {d : Addr} {u u' : HO}
theorem Hs.relock (h : Hs K mg Z F φ L H) (hd : F d = some u) (l : Lk F (upd F d u')) : Hs K mg Z (upd F d u') φ L (upd H d u') := by
  have out : ∀ a o, Z a = some o → a ≠ d := fun a o e q => by
    subst q
    have := (h.ext a o e).2.1
    rw [hd] at this; cases this
  refine ⟨fun a o e => ?_, fun a o e => ?_, h.len, h.nd, fun a m => ?_, fun i o a e1 e2 => ?_⟩
  · by_cases q : a = d
    · subst q; rw [upd_same] at e ⊢; exact e
    · rw [upd_ne q] at e ⊢; exact h.sub a o e
  · have q := out a o e
    rw [upd_ne q, upd_ne q]; exact h.ext a o e
  · by_cases q : a = d
    · subst q
      refine ⟨u', upd_same, fun xs e => ?_⟩
      subst e
      obtain ⟨o, ho, nt⟩ := h.has a m
      have := h.sub a u hd
      rw [this] at ho; cases ho
      rcases l a with e | ⟨od, v, hv, ⟨e1, e2⟩ | ⟨e1, e2⟩⟩
      · rw [upd_same, hd] at e; cases e; exact nt xs rfl
      · rw [upd_same] at e2; cases e2
      · rw [upd_same] at e2; cases e2; cases hv
    · obtain ⟨o, ho, nt⟩ := h.has a m
      exact ⟨o, by rw [upd_ne q]; exact ho, nt⟩
  · have hob := h.objs i o a e1 e2
    cases o with
    | ins c fs =>
      obtain ⟨n, C, dx, vs, h1, h2, h3, h4⟩ := hob
      have q : a ≠ d := fun q => by subst q; rw [hd] at n; cases n
      exact ⟨by rw [upd_ne q]; exact n, C, dx, vs, h1, by rw [upd_ne q]; exact h2, h3, Rs.lk l h4⟩
    | box m =>
      obtain ⟨n, o, h1, h2⟩ := hob
      have q : a ≠ d := fun q => by subst q; rw [hd] at n; cases n
      exact ⟨by rw [upd_ne q]; exact n, o, by rw [upd_ne q]; exact h1, h2.lk l⟩
    | dead => exact True.intro
    | nd kvs =>
      obtain ⟨n, P, w, xs, vs, h1, h2, h3, h4, h5⟩ := hob
      have q : a ≠ d := fun q => by subst q; rw [hd] at n; cases n
      exact ⟨by rw [upd_ne q]; exact n, P, w, xs, vs, by rw [upd_ne q]; exact h1, h2, Rs.lk l h3, Rs.lk l h4, h5⟩
theorem Ss.relock {F' : Hp} (l : Lk F F') (h : Ss K Zx Z F φ ρ σ) : Ss K Zx Z F' φ ρ σ :=
  ⟨h.len, fun i w e => let ⟨v, h1, h2⟩ := h.va i w e; ⟨v, h1, h2.lk l⟩, fun i m e => let ⟨a, o, h1, h2, h3, h4⟩ := h.ow i m e; ⟨a, o, h1, h2, h3, h4.lk l⟩, h.sep, h.out⟩
end
/-- the keys as values -/
def keysD : W → Option (List W)
  | .dK kvs => some (kvs.map fun kv => keyW kv.1)
  | .dT kvs => some (kvs.map fun kv => .tup (kv.1.map keyW))
  | _ => none
theorem Rs.keys {K : PySem.W.Frag} {F : Hp} {φ : List Addr} : ∀ ks : List Key, Rs K F φ (ks.map keyW) (ks.map kV)
  | [] => .nil
  | .inl i :: ks => .cons (.int i) (Rs.keys ks)
  | .inr s :: ks => .cons (.str s) (Rs.keys ks)
theorem R.key {K : PySem.W.Frag} {F : Hp} {φ : List Addr} (k : Key) : R K F φ (keyW k) (kV k) := by
  cases k with
  | inl i => exact .int i
  | inr s => exact .str s
/-- a tuple that stands somewhere may be taken into F -/
theorem Hs.takeT {K : PySem.W.Frag} {mg : Str → Option Value} {Z F : Hp} {φ : List Addr} {L : Lg} {H : Hp} {q : Addr} {xs : List V} (h : Hs K mg Z F φ L H) (hq : H q = some (.tup xs)) : ∃ F', Sub F F' ∧ F' q = some (.tup xs) ∧ Hs K mg Z F' φ L H := by
  cases e : F q with
  | some o =>
    have := h.sub q o e
    rw [hq] at this; cases this
    exact ⟨F, Sub.refl F, e, h⟩
  | none =>
    have zq : Z q = none := by
      cases z : Z q with
      | none => rfl
      | some o =>
        obtain ⟨h1, _, _, nt⟩ := h.ext q o z
        rw [hq] at h1; cases h1
        exact absurd rfl (nt xs)
    have nq : q ∉ φ := fun m => by
      obtain ⟨o, ho, nt⟩ := h.has q m
      rw [hq] at ho; cases ho
      exact nt xs rfl
    have sb : Sub F (upd F q (.tup xs)) := Sub.new e
    refine ⟨upd F q (.tup xs), sb, upd_same, ⟨fun a o ea => ?_, fun a o ea => ?_, h.len, h.nd, h.has, fun i o a e1 e2 => ?_⟩⟩
    · by_cases r : a = q
      · subst r; rw [upd_same] at ea; cases ea; exact hq
      · rw [upd_ne r] at ea; exact h.sub a o ea
    · obtain ⟨g1, g2, g3, g4⟩ := h.ext a o ea
      exact ⟨g1, by rw [upd_ne (ne_of_none ea zq)]; exact g2, g3, g4⟩
    · exact (h.objs i o a e1 e2).mono sb (List.prefix_refl φ) (fun z => by rw [upd_ne (pre_nd e2 nq)]; exact z) fun u z => z
section
variable {X : Cx} {tg e : Expr} {pos : Pos}
theorem itok_keys {K : PySem.W.Frag} {mg : Str → Option Value} {F : Hp} {φ : List Addr} {d : Addr} {od : Obj} {kvs : List (Key × W)} {vs : List (Key × V)} (h : F d = some (.frz od (.dK vs))) (e : kvs.map Prod.fst = vs.map Prod.fst) : ItOk K mg F φ (Itk d od vs) (kvs.map fun kv => keyW kv.1) := by
  intro Z F1 φ1 L1 H1 i s p hs
  have hd := hs.sub _ _ (s _ _ h)
  have hl := keys_len e
  refine ⟨fun x hx => ?_, fun hi => ⟨hd, by rw [← hl]; simpa using hi⟩⟩
  have hi : i < kvs.length := by have := (List.getElem?_eq_some_iff.mp hx).1; simpa using this
  refine ⟨⟨hd, by rw [← hl]; exact hi⟩, fun u H2 y => ?_⟩
  obtain ⟨rfl, k, v, hk, rfl⟩ := y
  refine ⟨F1, Sub.refl F1, hs, ?_⟩
  have e1 : (kvs.map Prod.fst)[i]? = some k := by rw [e, List.getElem?_map, hk]; rfl
  rw [List.getElem?_map] at hx e1
  cases q : kvs[i]? with
  | none => rw [q] at e1; cases e1
  | some kv =>
    rw [q] at e1 hx
    simp at e1 hx
    subst e1 hx
    exact R.key _
theorem itok_keysT {K : PySem.W.Frag} {mg : Str → Option Value} {F : Hp} {φ : List Addr} {d : Addr} {od : Obj} {kvs : List (List Key × W)} {vs : List (List Key × V)} (h : F d = some (.frz od (.dT vs))) (e : kvs.map Prod.fst = vs.map Prod.fst) : ItOk K mg F φ (Itkt d od vs) (kvs.map fun kv => .tup (kv.1.map keyW)) := by
  intro Z F1 φ1 L1 H1 i s p hs
  have hd := hs.sub _ _ (s _ _ h)
  have hl := keys_len e
  refine ⟨fun x hx => ?_, fun hi => ⟨hd, by rw [← hl]; simpa using hi⟩⟩
  have hi : i < kvs.length := by have := (List.getElem?_eq_some_iff.mp hx).1; simpa using this
  refine ⟨⟨hd, by rw [← hl]; exact hi⟩, fun u H2 y => ?_⟩
  obtain ⟨rfl, k, v, q, hk, rfl, hq⟩ := y
  obtain ⟨F2, s2, f2, hs2⟩ := hs.takeT hq
  refine ⟨F2, s2, hs2, ?_⟩
  have e1 : (kvs.map Prod.fst)[i]? = some k := by rw [e, List.getElem?_map, hk]; rfl
  rw [List.getElem?_map] at hx e1
  cases q : kvs[i]? with
  | none => rw [q] at e1; cases e1
  | some kv =>
    rw [q] at e1 hx
    simp at e1 hx
    subst e1 hx
    exact .tup f2 (Rs.keys _)
/-- the frozen dict that a name holds -/
def sKeys (i : Nat) : AF := fun ρ L => match ρ[i]? with
  | some (.va w) => (match keysD w with
    | some ks => some (ks, L)
    | none => none)
  | _ => none
/-- for x in d, d a frozen dict at a name -/
theorem is_forD {bd : List Stmt} {g : GF} {body : SF} {ix : List Nat} {x : Str} {px : Pos} (i : Nat) (hp : PassesOwn (model X.prog X.w) X.A X.env X.xe) (hc : X.calm = true) (hg : IG X tg ix g) (hb : ISs X bd body) (hN : X.N[i]? = some x := by rfl) (hv : Vis X.env.scope x := by first | exact Or.inl rfl | exact Or.inr (Or.inl rfl) | exact Or.inr (Or.inr rfl)) (hd : (x == ("__debug__" : Str)) = false := by decide)
    (hcd : (x == ("__classdict__" : Str)) = false := by decide) (hs' : ∀ y, foldedSetIterable (.Name x px) X.env y = pure y := by intro _; rfl) : IS X (.For tg (.Name x px) bd [] pos) (cFor (sKeys i) g body) := by
  refine ⟨fun {Zx Z F φ L ρ σ H o} hs ss h D q => ?_⟩
  have h0 := h
  unfold cFor at h
  split at h
  · cases h
  rename_i xs L1 e1
  have e1' := e1
  unfold sKeys at e1
  split at e1
  · rename_i w ew
    split at e1
    · rename_i ks ek
      simp only [Option.some.injEq, Prod.mk.injEq] at e1
      obtain ⟨rfl, rfl⟩ := e1
      obtain ⟨v, hv1, hv2⟩ := ss.va i w ew
      -- the dict's place
      have hdict : ∃ a u, v = .ref a ∧ isD u = true ∧ DAt F a u ∧ ((∃ kvs vs, w = .dK kvs ∧ u = .dK vs ∧ kvs.map Prod.fst = vs.map Prod.fst) ∨ ∃ kvs vs, w = .dT kvs ∧ u = .dT vs ∧ kvs.map Prod.fst = vs.map Prod.fst) := by
        cases hv2 <;> first | (cases ek; done) | skip
        · rename_i h1 h2 h3; exact ⟨_, _, rfl, rfl, h1, .inl ⟨_, _, rfl, rfl, h2⟩⟩
        · rename_i h1 h2 h3; exact ⟨_, _, rfl, rfl, h1, .inr ⟨_, _, rfl, rfl, h2⟩⟩
      obtain ⟨a, u, rfl, hu, hda, hw⟩ := hdict
      -- under a lock that stands already, or under a new one
      have core : ∀ (od : Obj) (F1 H1 : Hp) (D1 : Ends), F1 a = some (.frz od u) → Hs X.K X.mg Z F1 φ L H1 → Ss X.K Zx Z F1 φ ρ σ → EndOk X Zx F1 φ D1 o → tFor (iKeys (tVar i)) (WpG X tg) (WpSs X bd) D1 σ H1 := by
        intro od F1 H1 D1 hF1 hs1 ss1 q1
        have hH1 := hs1.sub _ _ hF1
        have go : ∀ J, ItOk X.K X.mg F1 φ J ks → ∃ W : Nat → Nat → L2.St → Hp → Prop, (∃ m, W 0 m σ H1) ∧ ∀ i m σ H, W i m σ H →
            (J.stop i H ∧ D1.nx σ H) ∨ (J.go i H ∧ ∃ N : L2.St → Hp → Prop, (∀ σ' H', N σ' H' → ∃ m', m' < m ∧ W (i + 1) m' σ' H') ∧ ∀ x H', J.yld i H x H' → WpG X tg x σ H' fun σ2 H2 => WpSs X bd { D1 with nx := N, ct := N, bk := D1.nx } σ2 H2) := by
          intro J itok
          refine ⟨fun i mm σ' H' => mm = ks.length - i ∧ i ≤ ks.length ∧ ∃ (Z2 F2 : Hp) (φ2 : List Addr) (ρ2 : Ro) (L2 : Lg), Sub F1 F2 ∧ φ <+: φ2 ∧ Hs X.K X.mg Z2 F2 φ2 L2 H' ∧ Ss X.K Zx Z2 F2 φ2 ρ2 σ' ∧ forLoop g body (ks.drop i) ρ2 L2 = some o,
            ⟨ks.length, rfl, Nat.zero_le _, Z, F1, φ, ρ, L, Sub.refl F1, List.prefix_refl φ, hs1, ss1, by simpa using h⟩, ?_⟩
          rintro i mm σ' H' ⟨rfl, hi', Z2, F2, φ2, ρ2, L2, s2, p2, hs2, ss2, e2⟩
          obtain ⟨it1, it2⟩ := itok i s2 p2 hs2
          by_cases hlt : i < ks.length
          · obtain ⟨go, yl⟩ := it1 _ (List.getElem?_eq_getElem hlt)
            refine .inr ⟨go, fun σ' H' => ∃ (Z2 F2 : Hp) (φ2 : List Addr) (ρ2 : Ro) (L2 : Lg), Sub F1 F2 ∧ φ <+: φ2 ∧ Hs X.K X.mg Z2 F2 φ2 L2 H' ∧ Ss X.K Zx Z2 F2 φ2 ρ2 σ' ∧ forLoop g body (ks.drop (i + 1)) ρ2 L2 = some o,
              fun σ' H' n => ⟨ks.length - (i + 1), by omega, rfl, hlt, n⟩, fun v H3 y => ?_⟩
            obtain ⟨F3, s3, hs3, r3⟩ := yl v H3 y
            rw [List.drop_eq_getElem_cons hlt] at e2
            unfold forLoop at e2
            split at e2
            · cases e2
            rename_i ρ3 g1
            refine hg.run hs3 (ss2.mono s3 (List.prefix_refl φ2)) r3 g1 _ fun σ4 ss4 _ => ?_
            have s13 := s2.trans s3
            cases e5 : body ρ3 L2 with
            | none => rw [e5] at e2; cases e2
            | some o1 =>
              rw [e5] at e2
              refine hb.run hs3 ss4 e5 _ ?_
              cases o1 with
              | nx ρ5 L5 => exact fun Z5 F5 φ5 σ5 H5 s5 p5 hs5 ss5 => ⟨Z5, F5, φ5, ρ5, L5, s13.trans s5, List.IsPrefix.trans p2 p5, hs5, ss5, e2⟩
              | ct ρ5 L5 => exact fun Z5 F5 φ5 σ5 H5 s5 p5 hs5 ss5 => ⟨Z5, F5, φ5, ρ5, L5, s13.trans s5, List.IsPrefix.trans p2 p5, hs5, ss5, e2⟩
              | bk ρ5 L5 =>
                cases e2
                exact fun Z5 F5 φ5 σ5 H5 s5 p5 hs5 ss5 => q1 Z5 F5 φ5 σ5 H5 (s13.trans s5) (List.IsPrefix.trans p2 p5) hs5 ss5
              | rt w L5 =>
                cases e2
                exact fun Z5 F5 φ5 H5 v5 s5 p5 z hs5 r5 => q1 Z5 F5 φ5 H5 v5 (s13.trans s5) (List.IsPrefix.trans p2 p5) z hs5 r5
          · have ei : i = ks.length := by omega
            subst ei
            refine .inl ⟨it2 (Nat.le_refl _), ?_⟩
            rw [List.drop_length] at e2
            simp only [forLoop, Option.some.injEq] at e2
            subst e2
            exact q1 Z2 F2 φ2 σ' H' s2 p2 hs2 ss2
        refine ⟨.ref a, hv1, a, od, rfl, ?_⟩
        rcases hw with ⟨kvs, vs, rfl, rfl, hk⟩ | ⟨kvs, vs, rfl, rfl, hk⟩
        · simp only [keysD, Option.some.injEq] at ek
          subst ek
          exact .inl ⟨vs, hH1, go _ (itok_keys hF1 hk)⟩
        · simp only [keysD, Option.some.injEq] at ek
          subst ek
          exact .inr ⟨vs, hH1, go _ (itok_keysT hF1 hk)⟩
      have base : PS X (.For tg (.Name x px) bd [] pos) (tFor (iKeys (tVar i)) (WpG X tg) (WpSs X bd)) := ps_for hp hc (pi_keys (pe_var hN hv hd hcd)) wpG wpSs hs'
      rcases hda with hda | ⟨od, hda⟩
      · refine PS.wp (ps_lock base) ⟨a, u, hs.sub _ _ hda, ?_, fun od => ?_⟩
        · cases u <;> first | (cases hu; done) | exact True.intro
        · have l := Lk.lock (od := od) hda hu
          refine core od _ _ _ upd_same (hs.relock hda l) (ss.relock l) ?_
          -- behind: the lock is taken away
          have back : ∀ {F' : Hp}, Sub (upd F a (.frz od u)) F' → F' a = some (.frz od u) ∧ Sub F (upd F' a u) := fun {F'} s => by
            refine ⟨s _ _ upd_same, fun b o' eb => ?_⟩
            by_cases qb : b = a
            · subst qb; rw [hda] at eb; cases eb; exact upd_same
            · rw [upd_ne qb]; exact s b o' (by rw [upd_ne qb]; exact eb)
          have cont' : ∀ {ρ' : Ro} {L' : Lg} {P : L2.St → Hp → Prop}, GoOn X Zx F φ ρ' L' P → GoOn X Zx (upd F a (.frz od u)) φ ρ' L' fun σ' H' => H' a = some (.frz od u) ∧ P σ' (upd H' a u) :=
            fun {ρ' L' P} g Z' F' φ' σ' H' s p hs' ss' => by
              obtain ⟨b1, b2⟩ := back s
              have l' := Lk.unlock b1 hu
              exact ⟨hs'.sub _ _ b1, g Z' _ φ' σ' _ b2 p (hs'.relock b1 l') (ss'.relock l')⟩
          cases o with
          | nx ρ' L' => exact cont' q
          | bk ρ' L' => exact cont' q
          | ct ρ' L' => exact cont' q
          | rt w L' =>
            intro Z' F' φ' H' v' s p z hs' r'
            obtain ⟨b1, b2⟩ := back s
            have l' := Lk.unlock b1 hu
            exact ⟨hs'.sub _ _ b1, q Z' _ φ' _ v' b2 p z (hs'.relock b1 l') (r'.lk l')⟩
      · exact PS.wp base (core od F H D hda hs ss q)
    · cases e1
  · cases e1
/-! ### comprehensions over a frozen dict at a name -/
theorem lcD_run {i : Nat} {g : GF} {tt : TF} {te : EF} {ix vs : List Nat} (hix : ∀ i ∈ ix, i ∈ vs) (gW : TG) (tW : TT) (eW : TE)
    (hg : ∀ {Zx Z F : Hp} {φ : List Addr} {L : Lg} {ρ ρ' : Ro} {σ : L2.St} {H : Hp} {w : W} {v : V}, Hs X.K X.mg Z F φ L H → Ss X.K Zx Z F φ ρ σ → R X.K F φ w v → g w ρ = some ρ' →
      ∀ Q : L2.St → Hp → Prop, (∀ σ', Ss X.K Zx Z F φ ρ' σ' → (∀ vs, (∀ i ∈ ix, i ∈ vs) → wipe σ' vs = wipe σ vs) → Q σ' H) → gW v σ H Q)
    (ht : ∀ {Zx Z F : Hp} {φ : List Addr} {L : Lg} {ρ : Ro} {σ : L2.St} {H : Hp} {w : Bool} {L' : Lg}, Hs X.K X.mg Z F φ L H → Ss X.K Zx Z F φ ρ σ → tt ρ L = some (w, L') →
      ∀ Q : Bool → Hp → Prop, (∀ (F' : Hp) (φ' : List Addr) (H' : Hp), Sub F F' → φ <+: φ' → Hs X.K X.mg Z F' φ' L' H' → Q w H') → tW σ H Q)
    (he : ∀ {Zx Z F : Hp} {φ : List Addr} {L : Lg} {ρ : Ro} {σ : L2.St} {H : Hp} {w : W} {L' : Lg}, Hs X.K X.mg Z F φ L H → Ss X.K Zx Z F φ ρ σ → te ρ L = some (w, L') →
      ∀ Q : VK, (∀ (F' : Hp) (φ' : List Addr) (H' : Hp) (v : V), Sub F F' → φ <+: φ' → Hs X.K X.mg Z F' φ' L' H' → R X.K F' φ' w v → Q v H') → eW σ H Q)
    {Zx Z F : Hp} {φ : List Addr} {L : Lg} {ρ : Ro} {σ : L2.St} {H : Hp} {m : M} {L' : Lg} (hs : Hs X.K X.mg Z F φ L H) (ss : Ss X.K Zx Z F φ ρ σ) (h : cLc (sKeys i) g tt te vs ρ L = some (m, L'))
    (Q : VK) (q : ∀ (F' : Hp) (φ' : List Addr) (H' : Hp) (p : Addr) (o : HO), Sub F F' → φ <+: φ' → Z p = none → Hs X.K X.mg (upd Z p o) F' φ' L' H' → MOk X.K F' φ' m o → Q (.ref p) H') :
    tLc (iKeys (tVar i)) gW tW eW vs σ H Q ∨ tLockE (tLc (iKeys (tVar i)) gW tW eW vs) σ H Q := by
  unfold cLc at h
  split at h
  · cases h
  rename_i ks L1 e1
  split at h
  · cases h
  rename_i ws L2 e2
  split at h
  · rename_i hz
    simp only [Option.some.injEq, Prod.mk.injEq] at h
    obtain ⟨rfl, rfl⟩ := h
    unfold sKeys at e1
    split at e1
    · rename_i w ew
      split at e1
      · rename_i ks' ek
        simp only [Option.some.injEq, Prod.mk.injEq] at e1
        obtain ⟨rfl, rfl⟩ := e1
        obtain ⟨v, hv1, hv2⟩ := ss.va i w ew
        have hdict : ∃ a u, v = .ref a ∧ isD u = true ∧ DAt F a u ∧ ((∃ kvs vs, w = .dK kvs ∧ u = .dK vs ∧ kvs.map Prod.fst = vs.map Prod.fst) ∨ ∃ kvs vs, w = .dT kvs ∧ u = .dT vs ∧ kvs.map Prod.fst = vs.map Prod.fst) := by
          cases hv2 <;> first | (cases ek; done) | skip
          · rename_i h1 h2 h3; exact ⟨_, _, rfl, rfl, h1, .inl ⟨_, _, rfl, rfl, h2⟩⟩
          · rename_i h1 h2 h3; exact ⟨_, _, rfl, rfl, h1, .inr ⟨_, _, rfl, rfl, h2⟩⟩
        obtain ⟨a, u, rfl, hu, hda, hw⟩ := hdict
        have core : ∀ (od : Obj) (F1 H1 : Hp) (Q1 : VK), F1 a = some (.frz od u) → Hs X.K X.mg Z F1 φ L H1 → Ss X.K Zx Z F1 φ ρ σ →
            (∀ (F' : Hp) (φ' : List Addr) (H' : Hp) (p : Addr) (o : HO), Sub F1 F' → φ <+: φ' → Z p = none → Hs X.K X.mg (upd Z p o) F' φ' L2 H' → MOk X.K F' φ' (.lst ws) o → Q1 (.ref p) H') → tLc (iKeys (tVar i)) gW tW eW vs σ H1 Q1 := by
          intro od F1 H1 Q1 hF1 hs1 ss1 q1
          have hH1 := hs1.sub _ _ hF1
          refine ⟨.ref a, hv1, a, od, rfl, ?_⟩
          rcases hw with ⟨kvs, vs', rfl, rfl, hk⟩ | ⟨kvs, vs', rfl, rfl, hk⟩
          · simp only [keysD, Option.some.injEq] at ek
            subst ek
            exact .inl ⟨vs', hH1, fun D hD => lc_w hix gW tW eW hg ht he hs1 ss1 (itok_keys hF1 hk) e2 hz Q1 q1 hD⟩
          · simp only [keysD, Option.some.injEq] at ek
            subst ek
            exact .inr ⟨vs', hH1, fun D hD => lc_w hix gW tW eW hg ht he hs1 ss1 (itok_keysT hF1 hk) e2 hz Q1 q1 hD⟩
        rcases hda with hda | ⟨od, hda⟩
        · refine .inr ⟨a, u, hs.sub _ _ hda, ?_, fun od => ?_⟩
          · cases u <;> first | (cases hu; done) | exact True.intro
          · have l := Lk.lock (od := od) hda hu
            refine core od _ _ _ upd_same (hs.relock hda l) (ss.relock l) fun F' φ' H' p o s p' z hs' m' => ?_
            have b1 : F' a = some (.frz od u) := s _ _ upd_same
            have b2 : Sub F (upd F' a u) := fun b o' eb => by
              by_cases qb : b = a
              · subst qb; rw [hda] at eb; cases eb; exact upd_same
              · rw [upd_ne qb]; exact s b o' (by rw [upd_ne qb]; exact eb)
            have l' := Lk.unlock b1 hu
            exact ⟨hs'.sub _ _ b1, q _ φ' _ p o b2 p' z (hs'.relock b1 l') (m'.lk l')⟩
        · exact .inl (core od F H Q hda hs ss q)
      · cases e1
    · cases e1
  · cases h
theorem in_lcD {elt tg : Expr} {ifs : List Expr} {scope : Scope} {own : List (Str × Nat)} {g : GF} {tt : TF} {te : EF} {ix : List Nat} {x : Str} {px : Pos} (i : Nat) (hc : X.calm = true) (hN : X.N.Nodup) (ok : BlkOk X.N X.env.scope scope own) (hix : ∀ i ∈ ix, i ∈ own.map (·.2))
    (hg : ∀ (s : Shared) (H : Hp) (C : Addr) (cl : List (Str × Addr)) (fp : List Addr), IG (X.blk s H scope (compEnvC scope cl C X.env) fp) tg ix g) (ht : ∀ (s : Shared) (H : Hp) (C : Addr) (cl : List (Str × Addr)) (fp : List Addr), ITs (X.blk s H scope (compEnvC scope cl C X.env) fp) ifs tt)
    (he : ∀ (s : Shared) (H : Hp) (C : Addr) (cl : List (Str × Addr)) (fp : List Addr), IE (X.blk s H scope (compEnvC scope cl C X.env) fp) elt te) (hNi : X.N[i]? = some x := by rfl) (hv : Vis X.env.scope x := by first | exact Or.inl rfl | exact Or.inr (Or.inl rfl) | exact Or.inr (Or.inr rfl)) (hd : (x == ("__debug__" : Str)) = false := by decide)
    (hcd : (x == ("__classdict__" : Str)) = false := by decide) (hs' : ∀ y, foldedSetIterable (.Name x px) X.env y = pure y := by intro _; rfl) :
    IN X (.ListComp elt [⟨tg, .Name x px, ifs, 0⟩] scope pos) (cLc (sKeys i) g tt te (own.map (·.2))) := by
  refine ⟨fun {Zx Z F φ L ρ σ H m L'} hs ss h Q q => ?_⟩
  let gW : TG := fun v σ H Q => ∀ (s : Shared) (H0 : Hp) (C : Addr) (cl : List (Str × Addr)) (fp : List Addr), WpG (X.blk s H0 scope (compEnvC scope cl C X.env) fp) tg v σ H Q
  let tW : TT := fun σ H Q => ∀ (s : Shared) (H0 : Hp) (C : Addr) (cl : List (Str × Addr)) (fp : List Addr), WpTs (X.blk s H0 scope (compEnvC scope cl C X.env) fp) ifs σ H Q
  let eW : TE := fun σ H Q => ∀ (s : Shared) (H0 : Hp) (C : Addr) (cl : List (Str × Addr)) (fp : List Addr), Wp (X.blk s H0 scope (compEnvC scope cl C X.env) fp) elt σ H Q
  have base := pe_lc (pos := pos) hc hN (pi_keys (tg := tg) (pe_var (pos := px) hNi hv hd hcd)) ok (g := gW) (tt := tW) (te := eW) (fun s H C cl fp => ⟨fun pins s' σ H v u Q I r h => h s _ C cl fp pins s' u I r⟩) (fun s H C cl fp => ⟨fun pins s' σ H Q I h => h s _ C cl fp pins s' I⟩) (fun s H C cl fp => ⟨fun pins s' σ H Q I h => h s _ C cl fp pins s' I⟩) hs'
  rcases lcD_run (i := i) hix gW tW eW (fun h1 h2 h3 h4 Q q s H0 C cl fp => (hg s H0 C cl fp).run h1 h2 h3 h4 Q q)
    (fun h1 h2 h3 Q q s H0 C cl fp => let ⟨t, k1, k2⟩ := (ht s H0 C cl fp).run h1 h2 h3 Q q; PTs.wp k1 k2) (fun h1 h2 h3 Q q s H0 C cl fp => (he s H0 C cl fp).run h1 h2 h3 Q q) hs ss h Q q with r | r
  · exact PE.wp base r
  · exact PE.wp (pe_lock base) r
end
end Lf

set_option maxHeartbeats 4000000
/-! Lf, part W: defs by name, names in their places, the end of a law. -/
namespace Lf
open PySem PySem.Spec PyProof.Rows L2

theorem u100 {A : Around} {k : Nat} (r : Room k A) : A.units + 100 < cLine := by have := r.un; omega
/-- a def that stands under its name and does what d says -/
structure Def (P : Program) (w : World) (K : PySem.W.Frag) (mg : Str → Option Value) (base : Heap) (k : Nat) (x : Str) (ps : List Str) (d : DF) : Prop where
  ex : ∃ (f : Addr) (fd : FuncData), FnOk P w K mg base CX0 k f fd ps (spI K mg ps.length d) ∧ mg x = some (.ref f) ∧ PySem.W.keepIn K (.ref f) = true ∧ Binds K fd ps []
section
variable {X : Cx} {e a b : Expr} {es : List Expr} {pos : Pos}
theorem ie_callD {k j : Nat} {x : Str} {p : Pos} {ps : List Str} {d : DF} {g : AF} (G : Def X.prog X.w X.K X.mg X.base k x ps d) (hr : Room j X.A) (hkj : k ≤ j) (hg : Gl X x) (ha : IA X (e :: es) g) (hn : ∀ ρ L ws L', g ρ L = some (ws, L') → ws.length = ps.length)
    (hdb : (x == ("__debug__" : Str)) = false := by decide) (he : starEach (e :: es) X.env = (false, eval e X.env) :: starEach es X.env := by rfl) (hpl : (backTo pos (starEach es X.env)).any (·.1) = false := by rfl) :
    IE X (.Call (.Name x p) (e :: es) [] pos) (cCall d g) := by
  refine ⟨fun hs ss h Q q => ?_⟩
  obtain ⟨f, fd, F, hm, hk, hb⟩ := G.ex
  exact (ie_call F (hr.mono hkj) hg hm hk hb ha hn hdb he hpl).run hs ss h Q q
/-- a name in its place, whatever it holds -/
def cNm (i : Nat) : OF := fun ρ L => match ρ[i]? with
  | some (.ow _) => some (.own i, L)
  | some (.va w) => some (.val w, L)
  | _ => none
theorem io_nm (i : Nat) {x : Str} (hN : X.N[i]? = some x := by rfl) (hv : Vis X.env.scope x := by first | exact Or.inl rfl | exact Or.inr (Or.inl rfl) | exact Or.inr (Or.inr rfl)) (hd : (x == ("__debug__" : Str)) = false := by decide)
    (hcd : (x == ("__classdict__" : Str)) = false := by decide) : IO X (.Name x pos) (cNm i) := by
  refine ⟨fun {Zx Z F φ L ρ σ H w L'} hs ss h Q q => ?_⟩
  unfold cNm at h
  split at h
  · rename_i m e1
    exact (io_own i hN hv hd hcd).run hs ss (by unfold cOwn; rw [e1]; exact h) Q q
  · rename_i w0 e1
    exact ((ie_var i hN hv hd hcd).io).run hs ss (by unfold cOf cVar; rw [e1]; exact h) Q q
  · cases h
end
section
variable {P : Program} {w : World} {K : PySem.W.Frag} {mg : Str → Option Value} {base : Heap}
theorem fn_okD {x qual : Str} {st : Stmt} {f : Addr} {fd : FuncData} {N ps : List Str} {k : Nat} {body : SF} (F : FunD K x qual (defArgs st) (defBody st) (defScope st) [] [] f fd) (S : FnScope N ps (defScope st))
    (hb : ∀ (cdv : Value) (A : Around) (outer : List Env) (s : Shared) (H : Hp) (E : XK), Room k (A.deeper (envOfC qual (defScope st) s.heap.objs.size f cdv)) → ISs (cxOf CX0 P w K mg base N qual (defScope st) f cdv A outer s H E).nox (defBody st) body) :
    FnOk P w K mg base CX0 (k + 1) f fd ps (spI K mg ps.length (runDef N.length body)) := by
  refine F.ok S (fun vs H Q E h => ?_) (fun cdv A outer s H vs Q E hr h => ?_)
  · obtain ⟨Z, F, φ, L, ws, w, L', h1, h2, h3, _⟩ := h
    rw [← h2.length]; exact h3
  · obtain ⟨Z, F1, φ, L, ws, w1, L', h1, h2, h3, h4, q⟩ := h
    refine ⟨_, PSs.nox wpSs, ?_⟩
    unfold runDef at h4
    split at h4
    · rename_i ρ1 L1 e1
      simp only [Option.some.injEq, Prod.mk.injEq] at h4
      obtain ⟨rfl, rfl⟩ := h4
      exact (hb cdv A outer s H E hr).run h1 (Ss.start h2) e1 _ fun Z' F' φ' σ' H' s1 p1 hs1 ss1 => q Z' F' φ' H' .non s1 p1 ss1.out hs1 .non
    · rename_i w2 L1 e1
      simp only [Option.some.injEq, Prod.mk.injEq] at h4
      obtain ⟨rfl, rfl⟩ := h4
      exact (hb cdv A outer s H E hr).run h1 (Ss.start h2) e1 _ fun Z' F' φ' H' v s1 p1 z hs1 r1 => q Z' F' φ' H' v s1 p1 z hs1 r1
    · cases h4
theorem def_mk {x qual : Str} {st : Stmt} {f : Addr} {fd : FuncData} {N ps : List Str} {k : Nat} {body : SF} (F : FunD K x qual (defArgs st) (defBody st) (defScope st) [] [] f fd) (hm : mg x = some (.ref f)) (hb : Binds K fd ps []) (S : FnScope N ps (defScope st))
    (h : ∀ (cdv : Value) (A : Around) (outer : List Env) (s : Shared) (H : Hp) (E : XK), Room k (A.deeper (envOfC qual (defScope st) s.heap.objs.size f cdv)) → ISs (cxOf CX0 P w K mg base N qual (defScope st) f cdv A outer s H E).nox (defBody st) body) :
    Def P w K mg base (k + 1) x ps (runDef N.length body) := ⟨f, fd, fn_okD F S h, hm, F.kp, hb⟩
end
/-! ### the end -/
/-- a law: what stands behind the top gives the law's def with what it computes -/
theorem walk_lf {l : PySem.W.OpenLaw} {n k : Nat} {q : Program} {loose : List Str} {XP : (Str → Option Value) → Heap → Prop} {YP : World → Heap → Prop} {d : DefRec} {x : Str} {D : DF}
    (hn : l.most = some n) (hn2 : n ≤ sizeLine) (hdf : d.params.defaults = []) (hr : Room k callerA)
    (F : ∀ (w : World) (mg : Str → Option Value) (fa : Addr) (h : Heap), YP w h → h.Ns mainGlobals mg → mg d.name = some (.ref fa) →
      ∃ (K : PySem.W.Frag) (fd : FuncData), K.In h ∧ (∀ (s : Shared) (u : Value), BindsTo s fd ⟨[u], []⟩ [(x, u)]) ∧
        ∀ base : Heap, K.In base → base.Ns mainGlobals mg → FnOk l.prog w K mg base CX0 k fa fd [x] (spI K mg 1 D))
    (hD : ∀ ns : List Int, ns.length ≤ n → (∀ z ∈ ns, Builtin.Int.intBits z ≤ 1048576) → ∃ L', D [.scr ns] [] = some (.bl true, L')) :
    PySem.W.WalkO q loose XP YP l.row.toRowW d [] (fun f vs => PySem.call f vs) := by
  refine Att.attach_callB hn hdf fun w s₀ s₁ mg mb fa o pm cd doc a vs ns G Y ho hd hcd hmg hobj hints hlen hbits hg => ?_
  obtain ⟨K, fd, KX, hb, hF⟩ := F w mg fa _ Y G.T.g hmg
  refine law_call (sp := spI K mg 1 D) KX G.T.g G.T.b G.T.builtins G.T.nolimit hg hobj hints (Nat.le_trans hlen hn2) hr hF hb (fun H _ hS => ?_) fun _ _ _ z => z
  obtain ⟨L', e⟩ := hD ns hlen hbits
  refine ⟨fun _ => none, H, [], [], [.scr ns], .bl true, L', ⟨Sub.refl H, (fun _ _ z => by cases z), rfl, by simp, (fun _ z => by cases z), fun i o a z => by simp at z⟩, .cons (.scr hS) .nil, rfl, e, fun Z' F' φ' H' v _ _ _ _ r => ?_⟩
  cases r
  rfl
end Lf

set_option maxHeartbeats 4000000
/-! Lf, part X: the combinators on slots and things, as equations. -/
namespace Lf
open PySem PySem.Spec PyProof.Rows L2
@[simp] theorem e_cVar (i : Nat) (ρ : Ro) (L : Lg) : cVar i ρ L = (match ρ[i]? with
  | some (.va w) => some (w, L)
  | _ => none) := id rfl
@[simp] theorem e_cK (w : W) (z0 : Ro) (L : Lg) : cK w z0 L = (some (w, L)) := id rfl
@[simp] theorem e_cOp (g : W → W → Option W) (fa fb : EF) (ρ : Ro) (L : Lg) : cOp g fa fb ρ L = (match fa ρ L with
  | none => none
  | some (x, L1) => match fb ρ L1 with
    | none => none
    | some (y, L2) => match g x y with
      | none => none
      | some w => some (w, L2)) := id rfl
@[simp] theorem e_cUn (g : W → Option W) (fa : EF) (ρ : Ro) (L : Lg) : cUn g fa ρ L = (match fa ρ L with
  | none => none
  | some (x, L1) => match g x with
    | none => none
    | some w => some (w, L1)) := id rfl
@[simp] theorem e_asT (f : EF) (ρ : Ro) (L : Lg) : asT f ρ L = (match f ρ L with
  | some (.bl k, L') => some (k, L')
  | _ => none) := id rfl
@[simp] theorem e_cTru (f : EF) (ρ : Ro) (L : Lg) : cTru f ρ L = (match f ρ L with
  | some (w, L') => match truW w with
    | some k => some (k, L')
    | none => none
  | none => none) := id rfl
@[simp] theorem e_cTruO (f : OF) (ρ : Ro) (L : Lg) : cTruO f ρ L = (match f ρ L with
  | some (w, L') => match cont ρ L' w with
    | some w => match truW w with
      | some k => some (k, L')
      | none => none
    | none => none
  | none => none) := id rfl
@[simp] theorem e_cNot (f : TF) (ρ : Ro) (L : Lg) : cNot f ρ L = (match f ρ L with
  | some (k, L') => some (!k, L')
  | none => none) := id rfl
@[simp] theorem e_cAnd (f g : TF) (ρ : Ro) (L : Lg) : cAnd f g ρ L = (match f ρ L with
  | some (true, L') => g ρ L'
  | some (false, L') => some (false, L')
  | none => none) := id rfl
@[simp] theorem e_cOr (f g : TF) (ρ : Ro) (L : Lg) : cOr f g ρ L = (match f ρ L with
  | some (true, L') => some (true, L')
  | some (false, L') => g ρ L'
  | none => none) := id rfl
@[simp] theorem e_asE (f : TF) (ρ : Ro) (L : Lg) : asE f ρ L = (match f ρ L with
  | some (k, L') => some (.bl k, L')
  | none => none) := id rfl
@[simp] theorem e_cNotV (f : EF) (ρ : Ro) (L : Lg) : cNotV f ρ L = (match f ρ L with
  | some (.bl k, L') => some (.bl (!k), L')
  | _ => none) := id rfl
@[simp] theorem e_cAndV (f g : EF) (ρ : Ro) (L : Lg) : cAndV f g ρ L = (match f ρ L with
  | some (.bl true, L') => g ρ L'
  | some (.bl false, L') => some (.bl false, L')
  | _ => none) := id rfl
@[simp] theorem e_cOrV (f g : EF) (ρ : Ro) (L : Lg) : cOrV f g ρ L = (match f ρ L with
  | some (.bl true, L') => some (.bl true, L')
  | some (.bl false, L') => g ρ L'
  | _ => none) := id rfl
@[simp] theorem e_cIf (t : TF) (f g : EF) (ρ : Ro) (L : Lg) : cIf t f g ρ L = (match t ρ L with
  | some (true, L') => f ρ L'
  | some (false, L') => g ρ L'
  | none => none) := id rfl
@[simp] theorem e_cNil  (z0 : Ro) (L : Lg) : cNil  z0 L = (some ([], L)) := id rfl
@[simp] theorem e_cCons (f : EF) (g : AF) (ρ : Ro) (L : Lg) : cCons f g ρ L = (match f ρ L with
  | none => none
  | some (w, L1) => match g ρ L1 with
    | none => none
    | some (ws, L2) => some (w :: ws, L2)) := id rfl
@[simp] theorem e_cTup (g : AF) (ρ : Ro) (L : Lg) : cTup g ρ L = (match g ρ L with
  | none => none
  | some (ws, L1) => if ws.length ≤ 1000 then some (.tup ws, L1) else none) := id rfl
@[simp] theorem e_cLst (g : AF) (ρ : Ro) (L : Lg) : cLst g ρ L = (match g ρ L with
  | none => none
  | some (ws, L1) => if ws.length ≤ 1000 then some (.lst ws, L1) else none) := id rfl
@[simp] theorem e_cFz (f : NF) (ρ : Ro) (L : Lg) : cFz f ρ L = (match f ρ L with
  | none => none
  | some (m, L') => some (m.fz, L')) := id rfl
@[simp] theorem e_cBox (f : NF) (ρ : Ro) (L : Lg) : cBox f ρ L = (match f ρ L with
  | none => none
  | some (m, L') => some (.ob L'.length, L' ++ [.box m])) := id rfl
@[simp] theorem e_cOf (f : EF) (ρ : Ro) (L : Lg) : cOf f ρ L = (match f ρ L with
  | none => none
  | some (w, L') => some (.val w, L')) := id rfl
@[simp] theorem e_cOwn (i : Nat) (ρ : Ro) (L : Lg) : cOwn i ρ L = (match ρ[i]? with
  | some (.ow _) => some (.own i, L)
  | _ => none) := id rfl
@[simp] theorem e_cIx (g : W → W → Option W) (fo : OF) (fi : EF) (ρ : Ro) (L : Lg) : cIx g fo fi ρ L = (match fo ρ L with
  | none => none
  | some (h, L1) => match fi ρ L1 with
    | none => none
    | some (i, L2) => match cont ρ L2 h with
      | none => none
      | some w => match g w i with
        | none => none
        | some r => some (r, L2)) := id rfl
@[simp] theorem e_gN (i : Nat) (w : W) (ρ : Ro) : gN i w ρ = (if i < ρ.length then some (ρ.set i (.va w)) else none) := id rfl
@[simp] theorem e_gsN  (ws : List W) (ρ : Ro) : gsN  ws ρ = (match ws with
  | [] => some ρ
  | _ => none) := id rfl
@[simp] theorem e_gsC (g : GF) (k : GsF) (ws : List W) (ρ : Ro) : gsC g k ws ρ = (match ws with
  | [] => none
  | w :: r => match g w ρ with
    | none => none
    | some ρ1 => k r ρ1) := id rfl
@[simp] theorem e_gTupW (n : Nat) (k : GsF) (w : W) (ρ : Ro) : gTupW n k w ρ = (match w with
  | .tup ws => if ws.length = n then k ws ρ else none
  | .kt ws => if ws.length = n then k ws ρ else none
  | _ => none) := id rfl
@[simp] theorem e_sLst (f : EF) (ρ : Ro) (L : Lg) : sLst f ρ L = (match f ρ L with
  | some (.lst xs, L') => some (xs, L')
  | _ => none) := id rfl
@[simp] theorem e_sTup (f : EF) (ρ : Ro) (L : Lg) : sTup f ρ L = (match f ρ L with
  | some (.tup xs, L') => some (xs, L')
  | some (.kt xs, L') => some (xs, L')
  | _ => none) := id rfl
@[simp] theorem e_cYes  (z0 : Ro) (L : Lg) : cYes  z0 L = (some (true, L)) := id rfl
@[simp] theorem e_cLc (src : AF) (g : GF) (tt : TF) (te : EF) (vs : List Nat) (ρ : Ro) (L : Lg) : cLc src g tt te vs ρ L = (match src ρ L with
  | none => none
  | some (xs, L1) => match lcLoop g tt te (wipeR ρ vs) xs L1 with
    | none => none
    | some (ws, L2) => if ws.length ≤ 16777216 then some (.lst ws, L2) else none) := id rfl
@[simp] theorem e_cNx  (ρ : Ro) (L : Lg) : cNx  ρ L = (some (.nx ρ L)) := id rfl
@[simp] theorem e_cSeq (f g : SF) (ρ : Ro) (L : Lg) : cSeq f g ρ L = (match f ρ L with
  | some (.nx ρ1 L1) => g ρ1 L1
  | o => o) := id rfl
@[simp] theorem e_cFr (i : Nat) (f : SF) (ρ : Ro) (L : Lg) : cFr i f ρ L = (match ρ[i]? with
  | some (.ow m) => f (ρ.set i (.va m.fz)) L
  | _ => f ρ L) := id rfl
@[simp] theorem e_cDrop (f : EF) (ρ : Ro) (L : Lg) : cDrop f ρ L = (match f ρ L with
  | none => none
  | some (_, L') => some (.nx ρ L')) := id rfl
@[simp] theorem e_cRet (f : EF) (ρ : Ro) (L : Lg) : cRet f ρ L = (match f ρ L with
  | none => none
  | some (w, L') => some (.rt w L')) := id rfl
@[simp] theorem e_cRetN  (z0 : Ro) (L : Lg) : cRetN  z0 L = (some (.rt .non L)) := id rfl
@[simp] theorem e_cIfS (t : TF) (f g : SF) (ρ : Ro) (L : Lg) : cIfS t f g ρ L = (match t ρ L with
  | none => none
  | some (true, L') => f ρ L'
  | some (false, L') => g ρ L') := id rfl
@[simp] theorem e_cSet (i : Nat) (f : EF) (ρ : Ro) (L : Lg) : cSet i f ρ L = (match f ρ L with
  | none => none
  | some (w, L') => if i < ρ.length then some (.nx (ρ.set i (.va w)) L') else none) := id rfl
@[simp] theorem e_cSetO (i : Nat) (f : NF) (ρ : Ro) (L : Lg) : cSetO i f ρ L = (match f ρ L with
  | none => none
  | some (m, L') => if i < ρ.length then some (.nx (ρ.set i (.ow m)) L') else none) := id rfl
@[simp] theorem e_cFz2 (i : Nat) (f : SF) (ρ : Ro) (L : Lg) : cFz2 i f ρ L = (match f ρ L with
  | some (.nx ρ1 L1) => (match ρ1[i]? with
    | some (.ow m) => some (.nx (ρ1.set i (.va m.fz)) L1)
    | _ => some (.nx ρ1 L1))
  | o => o) := id rfl
@[simp] theorem e_cAsg (g : GF) (f : EF) (ρ : Ro) (L : Lg) : cAsg g f ρ L = (match f ρ L with
  | none => none
  | some (w, L') => match g w ρ with
    | none => none
    | some ρ' => some (.nx ρ' L')) := id rfl
@[simp] theorem e_cAug (i : Nat) (g : W → W → Option W) (f : EF) (ρ : Ro) (L : Lg) : cAug i g f ρ L = (match ρ[i]? with
  | some (.va x) => (match f ρ L with
    | none => none
    | some (y, L') => match g x y with
      | none => none
      | some w => some (.nx (ρ.set i (.va w)) L'))
  | _ => none) := id rfl
@[simp] theorem e_cApp (i : Nat) (f : EF) (ρ : Ro) (L : Lg) : cApp i f ρ L = (match f ρ L with
  | none => none
  | some (w, L') => match ρ[i]? with
    | some (.ow (.lst ws)) => if ws.length < 16777216 then some (.nx (ρ.set i (.ow (.lst (ws ++ [w])))) L') else none
    | _ => none) := id rfl
@[simp] theorem e_cFor (src : AF) (g : GF) (body : SF) (ρ : Ro) (L : Lg) : cFor src g body ρ L = (match src ρ L with
  | none => none
  | some (xs, L1) => forLoop g body xs ρ L1) := id rfl
@[simp] theorem e_cCall (d : DF) (g : AF) (ρ : Ro) (L : Lg) : cCall d g ρ L = (match g ρ L with
  | none => none
  | some (ws, L1) => d ws L1) := id rfl
@[simp] theorem e_cN (g : List W → Option W) (f : AF) (ρ : Ro) (L : Lg) : cN g f ρ L = (match f ρ L with
  | none => none
  | some (ws, L1) => match g ws with
    | none => none
    | some w => some (w, L1)) := id rfl
@[simp] theorem e_cC (g : W → Option W) (f : OF) (ρ : Ro) (L : Lg) : cC g f ρ L = (match f ρ L with
  | none => none
  | some (h, L1) => match cont ρ L1 h with
    | none => none
    | some w0 => match g w0 with
      | none => none
      | some w => some (w, L1)) := id rfl
@[simp] theorem e_listW (f : OF) (ρ : Ro) (L : Lg) : listW f ρ L = (match f ρ L with
  | none => none
  | some (h, L1) => match cont ρ L1 h with
    | some (.lst ws) => some (.lst ws, L1)
    | some (.tup ws) => some (.lst ws, L1)
    | _ => none) := id rfl
@[simp] theorem e_nSort (f : OF) (ρ : Ro) (L : Lg) : nSort f ρ L = (match f ρ L with
  | none => none
  | some (h, L1) => match cont ρ L1 h with
    | some (.lst ws) => (match sortL ws with
      | some rs => some (.lst rs, L1)
      | none => none)
    | _ => none) := id rfl
@[simp] theorem e_nSset (f : OF) (ρ : Ro) (L : Lg) : nSset f ρ L = (match f ρ L with
  | none => none
  | some (h, L1) => match cont ρ L1 h with
    | some (.lst ws) => (match cellsW ws with
      | some cs => if cs.length < 64 then some (.lst ((canon cs).map cW), L1) else none
      | none => none)
    | _ => none) := id rfl
@[simp] theorem e_cNoP  (z0 : Ro) (L : Lg) : cNoP  z0 L = (some (none, L)) := id rfl
@[simp] theorem e_cPart (f : EF) (ρ : Ro) (L : Lg) : cPart f ρ L = (match f ρ L with
  | some (.int i, L') => some (some i, L')
  | _ => none) := id rfl
@[simp] theorem e_cSl (fo : OF) (fl fh : Ro → Lg → Option (Option Int × Lg)) (ρ : Ro) (L : Lg) : cSl fo fl fh ρ L = (match fo ρ L with
  | none => none
  | some (h, L1) => match fl ρ L1 with
    | none => none
    | some (l, L2) => match fh ρ L2 with
      | none => none
      | some (u, L3) => match cont ρ L3 h with
        | none => none
        | some w => match slW w l u with
          | none => none
          | some r => some (r, L3)) := id rfl
@[simp] theorem e_cRev (fo : OF) (ρ : Ro) (L : Lg) : cRev fo ρ L = (match fo ρ L with
  | none => none
  | some (h, L1) => match cont ρ L1 h with
    | none => none
    | some w => match revW w with
      | none => none
      | some r => some (r, L1)) := id rfl
@[simp] theorem e_cDGet (fo : OF) (fk : EF) (ρ : Ro) (L : Lg) : cDGet fo fk ρ L = (match fo ρ L with
  | none => none
  | some (h, L1) => match fk ρ L1 with
    | none => none
    | some (k, L2) => match cont ρ L2 h with
      | none => none
      | some d => match getW d k with
        | some (some w) => some (w, L2)
        | _ => none) := id rfl
@[simp] theorem e_cDIn (neg : Bool) (fk : EF) (fo : OF) (ρ : Ro) (L : Lg) : cDIn neg fk fo ρ L = (match fk ρ L with
  | none => none
  | some (k, L1) => match fo ρ L1 with
    | none => none
    | some (h, L2) => match cont ρ L2 h with
      | none => none
      | some d => match getW d k with
        | some r => some (.bl (if neg then !r.isSome else r.isSome), L2)
        | none => none) := id rfl
@[simp] theorem e_cDGet2 (fo : OF) (fk fx : EF) (ρ : Ro) (L : Lg) : cDGet2 fo fk fx ρ L = (match fo ρ L with
  | none => none
  | some (h, L0) => match fk ρ L0 with
    | none => none
    | some (k, L1) => match fx ρ L1 with
      | none => none
      | some (x, L2) => match cont ρ L0 h, cont ρ L2 h with
        | some d0, some d => (match getW d0 k, getW d k with
          | some _, some r => some (r.getD x, L2)
          | _, _ => none)
        | _, _ => none) := id rfl
@[simp] theorem e_cPut (i : Nat) (fk fv : EF) (ρ : Ro) (L : Lg) : cPut i fk fv ρ L = (match fv ρ L with
  | none => none
  | some (w, L1) => match fk ρ L1 with
    | none => none
    | some (k, L2) => match ρ[i]? with
      | some (.ow (.lst _)) => none
      | some (.ow m) => (match putM m k w with
        | some m' => some (.nx (ρ.set i (.ow m')) L2)
        | none => none)
      | _ => none) := id rfl
@[simp] theorem e_sKeys (i : Nat) (ρ : Ro) (L : Lg) : sKeys i ρ L = (match ρ[i]? with
  | some (.va w) => (match keysD w with
    | some ks => some (ks, L)
    | none => none)
  | _ => none) := id rfl
@[simp] theorem e_cNm (i : Nat) (ρ : Ro) (L : Lg) : cNm i ρ L = (match ρ[i]? with
  | some (.ow _) => some (.own i, L)
  | some (.va w) => some (.val w, L)
  | _ => none) := id rfl
end Lf

set_option maxHeartbeats 4000000
/-! Lf, part Y: what the steps give on values. -/
namespace Lf
open PySem PySem.Spec PyProof.Rows L2
@[simp] theorem addW_i (i j : Int) : addW (.int i) (.int j) = some (.int (i + j)) := id rfl
@[simp] theorem addW_l (a b : List W) : addW (.lst a) (.lst b) = if a.length + b.length ≤ 16777216 then some (.lst (a ++ b)) else none := id rfl
@[simp] theorem addW_s (a b : Str) : addW (.str a) (.str b) = if a.length + b.length ≤ 16777216 then some (.str (a ++ b)) else none := id rfl
@[simp] theorem subW_i (i j : Int) : subW (.int i) (.int j) = some (.int (i - j)) := id rfl
@[simp] theorem mulW_i (i j : Int) : mulW (.int i) (.int j) = if (-18446744073709551616 < i ∧ i < 18446744073709551616) ∨ (-18446744073709551616 < j ∧ j < 18446744073709551616) then some (.int (i * j)) else none := id rfl
@[simp] theorem fdivW_i (i j : Int) : fdivW (.int i) (.int j) = if 0 < j ∧ j < 18446744073709551616 then some (.int (i / j)) else none := id rfl
@[simp] theorem modW_i (i j : Int) : modW (.int i) (.int j) = if 0 < j then some (.int (i % j)) else none := id rfl
@[simp] theorem negW_i (i : Int) : negW (.int i) = some (.int (-i)) := id rfl
@[simp] theorem cmpI_i (p : Int → Int → Bool) (i j : Int) : cmpI p (.int i) (.int j) = some (.bl (p i j)) := id rfl
@[simp] theorem eqW_i (i j : Int) : eqW (.int i) (.int j) = some (.bl (decide (i = j))) := id rfl
@[simp] theorem neW_i (i j : Int) : neW (.int i) (.int j) = some (.bl (!decide (i = j))) := id rfl
@[simp] theorem truW_b (b : Bool) : truW (.bl b) = some b := id rfl
@[simp] theorem truW_l (xs : List W) : truW (.lst xs) = some (!xs.isEmpty) := id rfl
@[simp] theorem truW_i (i : Int) : truW (.int i) = some (i != 0) := id rfl
@[simp] theorem absW_i (i : Int) : absW [.int i] = some (.int (if i < 0 then -i else i)) := id rfl
@[simp] theorem intW_i (i : Int) : intW [.int i] = some (.int i) := id rfl
@[simp] theorem intW_b (b : Bool) : intW [.bl b] = some (.int (if b then 1 else 0)) := id rfl
@[simp] theorem lenW_l (xs : List W) : lenW (.lst xs) = some (.int xs.length) := id rfl
@[simp] theorem lenW_t (xs : List W) : lenW (.tup xs) = some (.int xs.length) := id rfl
@[simp] theorem lenW_s (xs : List Int) : lenW (.scr xs) = some (.int xs.length) := id rfl
@[simp] theorem addI_i (i j : Int) : addI (.int i) (.int j) = some (.int (i + j)) := id rfl
@[simp] theorem fz_l (xs : List W) : M.fz (.lst xs) = .lst xs := id rfl
@[simp] theorem fz_K (xs : List (Key × W)) : M.fz (.dK xs) = .dK xs := id rfl
@[simp] theorem fz_T (xs : List (List Key × W)) : M.fz (.dT xs) = .dT xs := id rfl
@[simp] theorem cont_own (ρ : Ro) (L : Lg) (i : Nat) : cont ρ L (.own i) = (match ρ[i]? with
  | some (.ow m) => some m.fz
  | _ => none) := id rfl
@[simp] theorem cont_l (ρ : Ro) (L : Lg) (xs : List W) : cont ρ L (.val (.lst xs)) = some (.lst xs) := id rfl
@[simp] theorem cont_t (ρ : Ro) (L : Lg) (xs : List W) : cont ρ L (.val (.tup xs)) = some (.tup xs) := id rfl
@[simp] theorem cont_s (ρ : Ro) (L : Lg) (xs : List Int) : cont ρ L (.val (.scr xs)) = some (.scr xs) := id rfl
@[simp] theorem cont_b (ρ : Ro) (L : Lg) (b : Bool) : cont ρ L (.val (.bl b)) = some (.bl b) := id rfl
@[simp] theorem cont_i (ρ : Ro) (L : Lg) (b : Int) : cont ρ L (.val (.int b)) = some (.int b) := id rfl
@[simp] theorem cont_str (ρ : Ro) (L : Lg) (b : Str) : cont ρ L (.val (.str b)) = some (.str b) := id rfl
@[simp] theorem cont_K (ρ : Ro) (L : Lg) (b : List (Key × W)) : cont ρ L (.val (.dK b)) = some (.dK b) := id rfl
@[simp] theorem cont_T (ρ : Ro) (L : Lg) (b : List (List Key × W)) : cont ρ L (.val (.dT b)) = some (.dT b) := id rfl
@[simp] theorem slW_l (ws : List W) (l u : Option Int) : slW (.lst ws) l u = some (.lst (cutW ws l u)) := id rfl
@[simp] theorem revW_l (ws : List W) : revW (.lst ws) = some (.lst ws.reverse) := id rfl
@[simp] theorem isiW_list (xs : List W) : isiW "list" [.lst xs, .ty "list"] = some (.bl true) := by
  simp only [isiW, tyName, if_pos]; rfl
@[simp] theorem isiW_tuple (xs : List W) : isiW "tuple" [.tup xs, .ty "tuple"] = some (.bl true) := by
  simp only [isiW, tyName, if_pos]; rfl
@[simp] theorem isiW_int (i : Int) : isiW "int" [.int i, .ty "int"] = some (.bl true) := by
  simp only [isiW, tyName, if_pos]; rfl
@[simp] theorem isiW_bool (i : Int) : isiW "bool" [.int i, .ty "bool"] = some (.bl false) := by
  simp only [isiW, tyName, if_pos]; rfl
@[simp] theorem ixW_l (xs : List W) (i : Int) : ixW (.lst xs) (.int i) = atI xs i := id rfl
@[simp] theorem ixW_t (xs : List W) (i : Int) : ixW (.tup xs) (.int i) = atI xs i := id rfl
@[simp] theorem ixW_s (xs : List Int) (i : Int) : ixW (.scr xs) (.int i) = (match atI xs i with
  | some n => some (.int n)
  | none => none) := id rfl
@[simp] theorem atI_0 {α : Type} (x : α) (xs : List α) : atI (x :: xs) 0 = some x := atI_nat (j := 0) rfl
theorem atI_one {α : Type} (x y : α) (xs : List α) : atI (x :: y :: xs) 1 = some y := atI_nat (j := 1) rfl
@[simp] theorem cW_eq (c : Cell) : cW c = .tup [.int c.1, .int c.2] := id rfl
def rng1 (j : Int) (L : Lg) : Option (List W × Lg) := if -(2 ^ 62) ≤ j ∧ j < 2 ^ 62 then some (rangeW 0 j.toNat, L) else none
def rng2 (i j : Int) (L : Lg) : Option (List W × Lg) := if -(2 ^ 62) ≤ i ∧ i < 2 ^ 62 ∧ -(2 ^ 62) ≤ j ∧ j < 2 ^ 62 then some (rangeW i (j - i).toNat, L) else none
@[simp] theorem e_sRange1 (f : AF) (ρ : Ro) (L : Lg) : sRange1 f ρ L = (match f ρ L with
  | some ([.int j], L') => rng1 j L'
  | _ => none) := id rfl
@[simp] theorem e_sRange2 (f : AF) (ρ : Ro) (L : Lg) : sRange2 f ρ L = (match f ρ L with
  | some ([.int i, .int j], L') => rng2 i j L'
  | _ => none) := id rfl
@[simp] theorem rng1_ok (j : Int) (L : Lg) (h1 : -1000000 ≤ j) (h2 : j ≤ 1000000) : rng1 j L = some (rangeW 0 j.toNat, L) := if_pos ⟨by omega, by omega⟩
@[simp] theorem rng2_ok (i j : Int) (L : Lg) (h1 : -1000000 ≤ i) (h2 : i ≤ 1000000) (h3 : -1000000 ≤ j) (h4 : j ≤ 1000000) : rng2 i j L = some (rangeW i (j - i).toNat, L) := if_pos ⟨by omega, by omega, by omega, by omega⟩
theorem rangeW_ints (lo : Int) (n : Nat) : rangeW lo n = ((List.range n).map fun (i : Nat) => lo + (i : Int)).map W.int := by
  unfold rangeW; rw [List.map_map]; rfl
@[simp] theorem e_runDef (N : Nat) (body : SF) (ws : List W) (L : Lg) : runDef N body ws L = (match body (ws.map Sl.va ++ List.replicate (N - ws.length) .un) L with
  | some (.nx _ L') => some (.non, L')
  | some (.rt w L') => some (w, L')
  | _ => none) := id rfl
/-! lists of cells -/
abbrev cellsL (cs : List Cell) : W := .lst (cs.map cW)
theorem toD_c (c : Cell) : toD (cW c) = some (.tuple [.int c.1, .int c.2]) := by simp [cW, toD, toDs]
theorem toDs_cells : ∀ cs : List Cell, toDs (cs.map cW) = some (cs.map fun c => .tuple [.int c.1, .int c.2])
  | [] => rfl
  | c :: cs => by
    rw [List.map_cons]
    simp only [toDs, toD_c, toDs_cells cs]
    rfl
theorem eqvAll_cells : ∀ cs ds : List Cell, PyData.eqvAll (cs.map fun c => PyData.tuple [.int c.1, .int c.2]) (ds.map fun c => PyData.tuple [.int c.1, .int c.2]) = decide (cs = ds)
  | [], [] => by simp [PyData.eqvAll]
  | [], _ :: _ => by simp [PyData.eqvAll]
  | _ :: _, [] => by simp [PyData.eqvAll]
  | c :: cs, d :: ds => by
    simp only [List.map_cons, PyData.eqvAll, PyData.eqv, eqvAll_cells cs ds]
    rw [Bool.eq_iff_iff]
    simp [Prod.ext_iff, and_assoc]
theorem canLay_cells : ∀ cs : List Cell, PyData.canLayAll0 (cs.map fun c => PyData.tuple [.int c.1, .int c.2]) = true
  | [] => rfl
  | c :: cs => by simp [PyData.canLayAll0, PyData.canLay0, canLay_cells cs]
theorem depth_cells : ∀ cs : List Cell, PyData.depthAll (cs.map fun c => PyData.tuple [.int c.1, .int c.2]) ≤ 1
  | [] => by simp [PyData.depthAll]
  | c :: cs => by
    have := depth_cells cs
    simp [PyData.depthAll, PyData.depth]
    omega
theorem shaped_cells (cs : List Cell) : SeqAt.shaped (.list (cs.map fun c => .tuple [.int c.1, .int c.2])) = true := by
  unfold SeqAt.shaped
  rw [Bool.and_eq_true, decide_eq_true_eq]
  refine ⟨by simp [PyData.canLay0, canLay_cells], ?_⟩
  have := depth_cells cs
  simp only [PyData.depth]
  omega
theorem eqB_cells (cs ds : List Cell) : eqB (cellsL cs) (cellsL ds) = some (decide (cs = ds)) := by
  show eqD (cellsL cs) (cellsL ds) = _
  unfold eqD cellsL
  simp only [toD, toDs_cells, shaped_cells, and_self, if_true, PyData.eqv, eqvAll_cells]
theorem eqW_cells (cs ds : List Cell) : eqW (cellsL cs) (cellsL ds) = some (.bl (decide (cs = ds))) := by unfold eqW; rw [eqB_cells]
theorem neW_cells (cs ds : List Cell) : neW (cellsL cs) (cellsL ds) = some (.bl (!decide (cs = ds))) := by unfold neW; rw [eqB_cells]
theorem all_tup (cs : List Cell) : (List.all (cs.map fun c => PyData.tuple [.int c.1, .int c.2]) tupOne) = true := by
  rw [List.all_eq_true]; intro d hd; obtain ⟨c, _, rfl⟩ := List.mem_map.mp hd; rfl
theorem sortOk_cells (cs : List Cell) : sortOk (cs.map fun c => .tuple [.int c.1, .int c.2]) = true := by
  unfold sortOk
  rw [all_tup]
  simp only [Bool.true_or, Bool.and_true, Bool.and_eq_true, List.all_eq_true, decide_eq_true_eq]
  refine ⟨fun d hd d' hd' => ?_, fun d hd => ?_⟩
  · obtain ⟨c, _, rfl⟩ := List.mem_map.mp hd
    obtain ⟨c', _, rfl⟩ := List.mem_map.mp hd'
    rfl
  · obtain ⟨c, _, rfl⟩ := List.mem_map.mp hd
    simp [PyData.depth, PyData.depthAll]
theorem encW_c (c : Cell) : encW (cW c) = .tuple [.int c.1, .int c.2] := by unfold encW; rw [toD_c]; rfl
theorem sortL_cells (cs : List Cell) : sortL (cs.map cW) = some ((sortC cs).map cW) := by
  unfold sortL
  rw [toDs_cells]
  simp only [sortOk_cells, if_true, Option.some.injEq]
  unfold sortC
  rw [List.map_mergeSort]
  intro a _ b _
  have k := congrFun (congrFun (PySem.W.dataLe_ii (fun z : Cell => z.1) (fun z : Cell => z.2)) a) b
  have h : PySem.W.dataLe false encW (cW a) (cW b) = PySem.W.dataLe false (fun z : Cell => PyData.tuple [.int z.1, .int z.2]) a b := by
    show PySem.W.dataLe false encW (cW a) (cW b) = _
    unfold PySem.W.dataLe PySem.W.sortLe
    simp only [encW_c]
  rw [h, k]
  rfl
/-! loops -/
theorem for_nx {g : GF} {body : SF} {x : W} {xs : List W} {ρ ρ1 ρ2 : Ro} {L L2 : Lg} (h1 : g x ρ = some ρ1) (h2 : body ρ1 L = some (.nx ρ2 L2)) : forLoop g body (x :: xs) ρ L = forLoop g body xs ρ2 L2 := by
  simp only [forLoop, h1, h2]
theorem for_rt {g : GF} {body : SF} {x w : W} {xs : List W} {ρ ρ1 : Ro} {L L2 : Lg} (h1 : g x ρ = some ρ1) (h2 : body ρ1 L = some (.rt w L2)) : forLoop g body (x :: xs) ρ L = some (.rt w L2) := by
  simp only [forLoop, h1, h2]
theorem for_nil {g : GF} {body : SF} {ρ : Ro} {L : Lg} : forLoop g body [] ρ L = some (.nx ρ L) := rfl
theorem lc_map {α : Type} (f : α → W) (h : α → W) {g : GF} {te : EF} {ρ : Ro} {L : Lg} : ∀ {xs : List α}, (∀ x ∈ xs, ∃ ρ1, g (f x) ρ = some ρ1 ∧ te ρ1 L = some (h x, L)) → lcLoop g cYes te ρ (xs.map f) L = some (xs.map h, L)
  | [], _ => rfl
  | x :: xs, H => by
    obtain ⟨ρ1, h1, h2⟩ := H x List.mem_cons_self
    rw [List.map_cons]
    simp only [lcLoop, h1, cYes, h2, lc_map f h (xs := xs) fun y hy => H y (List.mem_cons_of_mem _ hy), List.map_cons]
end Lf

set_option maxHeartbeats 4000000
/-! Lf, part Z: lists of cells, sets of cells as dicts. -/
namespace Lf
open PySem PySem.Spec PyProof.Rows L2
theorem seq_nx {f g : SF} {ρ ρ1 : Ro} {L L1 : Lg} (h : f ρ L = some (.nx ρ1 L1)) : cSeq f g ρ L = g ρ1 L1 := by rw [e_cSeq, h]
theorem seq_rt {f g : SF} {ρ : Ro} {L L1 : Lg} {w : W} (h : f ρ L = some (.rt w L1)) : cSeq f g ρ L = some (.rt w L1) := by rw [e_cSeq, h]
/-! ### ascending, each once -/
def Can (l : List Cell) : Prop := l.Nodup ∧ l.Pairwise fun a b => leC a b = true
theorem can_canon (l : List Cell) : Can (canon l) := ⟨nodup_canon l, sortC_pw _⟩
theorem can_eq {l m : List Cell} (hm : Can m) (h : ∀ x, x ∈ m ↔ x ∈ l) : canon l = m := by
  rw [canon_of hm.1 h]
  exact sorted_uniq (sortC_perm m) (sortC_pw m) hm.2
theorem can_self {m : List Cell} (hm : Can m) : canon m = m := can_eq hm fun _ => Iff.rfl
theorem sortC_self {m : List Cell} (hm : m.Pairwise fun a b => leC a b = true) : sortC m = m := sorted_uniq (sortC_perm m) (sortC_pw m) hm
theorem can_ext {l m : List Cell} (hl : Can l) (hm : Can m) (h : ∀ x, x ∈ l ↔ x ∈ m) : l = m := by rw [← can_self hl]; exact can_eq hm fun x => (h x).symm
theorem canon_congr {l m : List Cell} (h : ∀ x, x ∈ l ↔ x ∈ m) : canon l = canon m := can_eq (can_canon m) fun x => mem_canon.trans (h x).symm
/-- moved -/
def tr (a b : Int) (c : Cell) : Cell := (c.1 + a, c.2 + b)
theorem tr_inj {a b : Int} {x y : Cell} (h : tr a b x = tr a b y) : x = y := by
  simp only [tr, Prod.mk.injEq] at h
  apply Prod.ext <;> omega
theorem can_tr {l : List Cell} (a b : Int) (h : Can l) : Can (l.map (tr a b)) := by
  refine ⟨List.pairwise_map.mpr (h.1.imp fun hne e => hne (tr_inj e)), List.pairwise_map.mpr (h.2.imp fun {x y} hle => ?_)⟩
  have h1 : x.1 < y.1 ∨ (x.1 = y.1 ∧ x.2 ≤ y.2) := by simpa only [leC, decide_eq_true_eq] using hle
  show decide (x.1 + a < y.1 + a ∨ (x.1 + a = y.1 + a ∧ x.2 + b ≤ y.2 + b)) = true
  rw [decide_eq_true_eq]
  omega
theorem sortC_can {l : List Cell} (h : l.Nodup) : Can (sortC l) := ⟨(sortC_perm l).nodup_iff.mpr h, sortC_pw l⟩
theorem mem_sortC {x : Cell} {l : List Cell} : x ∈ sortC l ↔ x ∈ l := (sortC_perm l).mem_iff
theorem length_nubC : ∀ l : List Cell, (nubC l).length ≤ l.length
  | [] => Nat.le_refl _
  | c :: cs => by
    unfold nubC
    have := length_nubC cs
    split
    · simp; omega
    · simp; omega
theorem length_canon (l : List Cell) : (canon l).length ≤ l.length := by
  unfold canon
  rw [(sortC_perm _).length_eq]
  exact length_nubC l
/-! ### a dict whose keys are cells -/
def tkC (c : Cell) : List Key := [.inl c.1, .inl c.2]
theorem tkC_inj {a b : Cell} (h : tkC a = tkC b) : a = b := by
  simp [tkC] at h
  exact Prod.ext h.1 h.2
@[simp] theorem asTKey_c (a b : Int) : asTKey (.tup [.int a, .int b]) = some (tkC (a, b)) := id rfl
def setD (cs : List Cell) : List (List Key × W) := cs.map fun c => (tkC c, W.bl true)
theorem put_set (cs : List Cell) (c : Cell) : putD (setD cs) (tkC c) (.bl true) = if c ∈ cs then setD cs else setD (cs ++ [c]) := by
  unfold putD
  have e : ((setD cs).any fun kv => decide (kv.1 = tkC c)) = decide (c ∈ cs) := by
    rw [Bool.eq_iff_iff, List.any_eq_true, decide_eq_true_eq]
    constructor
    · rintro ⟨kv, h1, h2⟩
      obtain ⟨d, hd, rfl⟩ := List.mem_map.mp h1
      rw [← tkC_inj (of_decide_eq_true h2)]; exact hd
    · intro h
      exact ⟨(tkC c, .bl true), List.mem_map.mpr ⟨c, h, rfl⟩, by simp⟩
  rw [e]
  by_cases h : c ∈ cs
  · simp only [h, decide_true, if_true]
    unfold setD
    rw [List.map_map]
    apply List.map_congr_left
    intro d _
    show (if tkC d = tkC c then (tkC d, W.bl true) else (tkC d, W.bl true)) = (tkC d, W.bl true)
    split <;> rfl
  · simp only [h, decide_false, if_false, Bool.false_eq_true]
    unfold setD
    rw [List.map_append]; rfl
theorem keys_set (cs : List Cell) : keysD (.dT (setD cs)) = some (cs.map cW) := by
  show some ((setD cs).map fun kv => W.tup (kv.1.map keyW)) = _
  unfold setD
  rw [List.map_map]
  rfl
@[simp] theorem putM_T (kvs : List (List Key × W)) (k w : W) : putM (.dT kvs) k w = (match asTKey k with
    | some k => if kvs.length < 16777216 then some (.dT (putD kvs k w)) else none
    | none => none) := id rfl
@[simp] theorem setD_length (cs : List Cell) : (setD cs).length = cs.length := by unfold setD; simp
/-! ### pieces of lists of cells -/
theorem cut_cells (cs : List Cell) (l u : Option Int) : cutW (cs.map cW) l u = (cutW cs l u).map cW := by
  unfold cutW
  rw [List.length_map, ← List.map_drop, ← List.map_take]
theorem mem_cut {α : Type} {x : α} {cs : List α} {l u : Option Int} (h : x ∈ cutW cs l u) : x ∈ cs := by
  unfold cutW at h
  exact List.mem_of_mem_drop (List.mem_of_mem_take h)
theorem cut_length {α : Type} (cs : List α) (l u : Option Int) : (cutW cs l u).length ≤ cs.length := by
  unfold cutW
  rw [List.length_take, List.length_drop]
  omega
theorem cells_map {f : Cell → Cell} {g : GF} {te : EF} {ρ : Ro} {L : Lg} {cs : List Cell} (h : ∀ c ∈ cs, ∃ ρ1, g (cW c) ρ = some ρ1 ∧ te ρ1 L = some (cW (f c), L)) : lcLoop g cYes te ρ (cs.map cW) L = some ((cs.map f).map cW, L) := by
  rw [lc_map cW (fun c => cW (f c)) h, List.map_map]; rfl
theorem cells_ints {f : Cell → Int} {g : GF} {te : EF} {ρ : Ro} {L : Lg} {cs : List Cell} (h : ∀ c ∈ cs, ∃ ρ1, g (cW c) ρ = some ρ1 ∧ te ρ1 L = some (.int (f c), L)) : lcLoop g cYes te ρ (cs.map cW) L = some ((cs.map f).map W.int, L) := by
  rw [lc_map cW (fun c => W.int (f c)) h, List.map_map]; rfl
theorem minW1_ints {ns : List Int} {m : Int} (h : leastI ns = some m) : minW1 (.lst (ns.map W.int)) = some (.int m) := by
  unfold minW1; simp only [intsW_map, h]
theorem least_some {ns : List Int} (h : ns ≠ []) : ∃ m, leastI ns = some m := by
  cases ns with
  | nil => exact absurd rfl h
  | cons n r => exact ⟨_, rfl⟩
theorem least_eq {ns ms : List Int} (h : ∀ x, x ∈ ns ↔ x ∈ ms) : leastI ns = leastI ms := by
  cases e : leastI ns with
  | none =>
    cases ns with
    | nil =>
      cases ms with
      | nil => rfl
      | cons n r => exact absurd ((h n).mpr List.mem_cons_self) (by simp)
    | cons n r => cases e
  | some m =>
    obtain ⟨h1, h2⟩ := leastI_spec e
    obtain ⟨m', e'⟩ := least_some (ns := ms) (fun z => by rw [z] at h; exact absurd ((h m).mp h1) (by simp))
    obtain ⟨g1, g2⟩ := leastI_spec e'
    rw [e', Int.le_antisymm (h2 m' ((h m').mpr g1)) (g2 m ((h m).mp h1))]
end Lf

set_option maxHeartbeats 4000000
/-! Lf, part G: objects of the program's own classes. -/
namespace Lf
open PySem PySem.Spec PyProof.Rows L2
section
variable {K : PySem.W.Frag} {mg : Str → Option Value} {Z F : Hp} {φ : List Addr} {L : Lg} {H : Hp}
/-- fields by name -/
theorem lk_some {f : Str} {w : W} : ∀ {fs : List (Str × W)} {vs : List (Str × V)}, fs.map Prod.fst = vs.map Prod.fst → Rs K F φ (fs.map Prod.snd) (vs.map Prod.snd) → fs.lookup f = some w → ∃ v, vs.lookup f = some v ∧ R K F φ w v
  | [], _, _, _, h => by cases h
  | (g, w0) :: r, [], e, _, _ => by cases e
  | (g, w0) :: r, (g', v0) :: r', e, rs, h => by
    simp only [List.map_cons, List.cons.injEq] at e
    obtain ⟨e1, e2⟩ := e
    have e1 : g = g' := e1
    subst e1
    cases rs with
    | cons r1 r2 =>
      rw [List.lookup_cons] at h ⊢
      cases q : (f == g) with
      | true => rw [q] at h; cases h; exact ⟨_, rfl, r1⟩
      | false => rw [q] at h; exact lk_some e2 r2 h
theorem lk_none {f : Str} : ∀ {fs : List (Str × W)} {vs : List (Str × V)}, fs.map Prod.fst = vs.map Prod.fst → fs.lookup f = none → vs.lookup f = none
  | [], [], _, _ => rfl
  | [], _ :: _, e, _ => by cases e
  | (g, w0) :: r, [], e, _ => by cases e
  | (g, w0) :: r, (g', v0) :: r', e, h => by
    simp only [List.map_cons, List.cons.injEq] at e
    obtain ⟨e1, e2⟩ := e
    have e1 : g = g' := e1
    subst e1
    rw [List.lookup_cons] at h ⊢
    cases q : (f == g) with
    | true => rw [q] at h; cases h
    | false => rw [q] at h; exact lk_none e2 h
def putW (f : Str) (w : W) : List (Str × W) → List (Str × W)
  | [] => [(f, w)]
  | (g, x) :: r => if g = f then (g, w) :: r else (g, x) :: putW f w r
theorem putW_ok {f : Str} {w : W} {v : V} (h : R K F φ w v) : ∀ {fs : List (Str × W)} {vs : List (Str × V)}, fs.map Prod.fst = vs.map Prod.fst → Rs K F φ (fs.map Prod.snd) (vs.map Prod.snd) →
    (putW f w fs).map Prod.fst = (putF f v vs).map Prod.fst ∧ Rs K F φ ((putW f w fs).map Prod.snd) ((putF f v vs).map Prod.snd)
  | [], [], _, _ => ⟨rfl, .one h⟩
  | [], _ :: _, e, _ => by cases e
  | (g, w0) :: r, [], e, _ => by cases e
  | (g, w0) :: r, (g', v0) :: r', e, rs => by
    simp only [List.map_cons, List.cons.injEq] at e
    obtain ⟨e1, e2⟩ := e
    have e1 : g = g' := e1
    subst e1
    cases rs with
    | cons r1 r2 =>
      unfold putW putF
      by_cases q : g = f
      · rw [if_pos q, if_pos q]
        refine ⟨by simp only [List.map_cons, e2], .cons h r2⟩
      · rw [if_neg q, if_neg q]
        obtain ⟨a1, a2⟩ := putW_ok h e2 r2
        exact ⟨by simp only [List.map_cons, a1], .cons r1 a2⟩
/-- a numbered thing is changed -/
theorem Hs.setOb {i : Nat} {a : Addr} {o : HO} {ob : Ob} (h : Hs K mg Z F φ L H) (hi : i < L.length) (ha : φ[i]? = some a) (hF : F a = none) (nt : NT o) (hok : ObOk K mg F φ (upd H a o) a ob) : Hs K mg Z F φ (L.set i ob) (upd H a o) := by
  have am : a ∈ φ := List.mem_of_getElem? ha
  refine ⟨fun b u e => ?_, fun b u e => ?_, by rw [List.length_set]; exact h.len, h.nd, fun b m => ?_, fun j u b e1 e2 => ?_⟩
  · have q : b ≠ a := fun q => by rw [q, hF] at e; cases e
    rw [upd_ne q]; exact h.sub b u e
  · obtain ⟨g1, g2, g3, g4⟩ := h.ext b u e
    have q : b ≠ a := fun q => g3 (q ▸ am)
    exact ⟨by rw [upd_ne q]; exact g1, g2, g3, g4⟩
  · by_cases q : b = a
    · subst q; exact ⟨o, upd_same, nt⟩
    · obtain ⟨u, e, n⟩ := h.has b m
      exact ⟨u, by rw [upd_ne q]; exact e, n⟩
  · by_cases q : i = j
    · subst q
      rw [ha] at e2; cases e2
      rw [List.getElem?_set_self hi] at e1
      cases e1
      exact hok
    · rw [List.getElem?_set_ne q] at e1
      have qb : b ≠ a := fun z => by
        subst z
        exact q ((List.getElem?_inj (List.getElem?_eq_some_iff.mp ha).1 h.nd).mp (ha.trans e2.symm))
      exact (h.objs j u b e1 e2).mono (Sub.refl F) (List.prefix_refl φ) (fun z => z) fun u e => by rw [upd_ne qb]; exact e
/-- a thing that nobody here looks at -/
theorem Hs.extra {p : Addr} {o : HO} (h : Hs K mg Z F φ L H) (hp : H p = none) : Hs K mg Z F φ L (upd H p o) := by
  obtain ⟨f1, f2, f3⟩ := h.free hp
  refine ⟨fun a u e => ?_, fun a u e => ?_, h.len, h.nd, fun a m => ?_, fun i u a e1 e2 => ?_⟩
  · rw [upd_ne (ne_of_none e f1)]; exact h.sub a u e
  · obtain ⟨g1, g2, g3, g4⟩ := h.ext a u e
    exact ⟨by rw [upd_ne (ne_of_none e f2)]; exact g1, g2, g3, g4⟩
  · obtain ⟨u, e, n⟩ := h.has a m
    exact ⟨u, by rw [upd_ne (ne_of_none e hp)]; exact e, n⟩
  · exact (h.objs i u a e1 e2).mono (Sub.refl F) (List.prefix_refl φ) (fun z => z) fun u e => by rw [upd_ne (ne_of_none e hp)]; exact e
/-- a new numbered thing -/
theorem Hs.push {p : Addr} {o : HO} {ob : Ob} (h : Hs K mg Z F φ L H) (hp : H p = none) (nt : NT o) (hok : ObOk K mg F (φ ++ [p]) (upd H p o) p ob) : Hs K mg Z F (φ ++ [p]) (L ++ [ob]) (upd H p o) := by
  obtain ⟨f1, f2, f3⟩ := h.free hp
  have pf : φ <+: φ ++ [p] := List.prefix_append _ _
  refine ⟨fun a u e => ?_, fun a u e => ?_, by simp [h.len], ?_, fun a m => ?_, fun i u a e1 e2 => ?_⟩
  · rw [upd_ne (ne_of_none e f1)]; exact h.sub a u e
  · obtain ⟨g1, g2, g3, g4⟩ := h.ext a u e
    have q := ne_of_none e f2
    exact ⟨by rw [upd_ne q]; exact g1, g2, by simp [g3, q], g4⟩
  · rw [List.nodup_append]
    exact ⟨h.nd, by simp, fun a ha b hb e => f3 (by simp at hb; subst hb; subst e; exact ha)⟩
  · rcases List.mem_append.mp m with m | m
    · obtain ⟨u, e, n⟩ := h.has a m
      exact ⟨u, by rw [upd_ne (ne_of_none e hp)]; exact e, n⟩
    · simp at m; subst m; exact ⟨o, upd_same, nt⟩
  · by_cases hi : i < L.length
    · rw [List.getElem?_append_left hi] at e1
      rw [List.getElem?_append_left (by rw [h.len]; exact hi)] at e2
      exact (h.objs i u a e1 e2).mono (Sub.refl F) pf (fun z => z) fun u e => by rw [upd_ne (ne_of_none e hp)]; exact e
    · have : i = L.length := by
        have := (List.getElem?_eq_some_iff.mp e1).1
        simp at this; omega
      subst this
      rw [List.getElem?_append_right (Nat.le_refl _)] at e1
      rw [← h.len, List.getElem?_append_right (Nat.le_refl _)] at e2
      simp at e1 e2
      subst e1; subst e2
      exact hok
end
/-! ### facts of a class -/
structure ClsD (K : PySem.W.Frag) (mg : Str → Option Value) (c : Str) (C : Addr) : Prop where
  at_ : mg c = some (.ref C)
  cls : Cls K C
structure FldD (K : PySem.W.Frag) (mg : Str → Option Value) (c f : Str) : Prop where
  ex : ∃ C, ClsD K mg c C ∧ NoAttr K C f
structure MetD (P : Program) (w : World) (K : PySem.W.Frag) (mg : Str → Option Value) (base : Heap) (k : Nat) (c m : Str) (ps : List Str) (d : DF) : Prop where
  ex : ∃ (C f : Addr) (fd : FuncData), ClsD K mg c C ∧ Meth K C m f ∧ FnOk P w K mg base CX0 k f fd ps (spI K mg ps.length d) ∧ Binds K fd ps []
structure MakD (P : Program) (w : World) (K : PySem.W.Frag) (mg : Str → Option Value) (base : Heap) (k : Nat) (c : Str) (ps : List Str) (d : DF) : Prop where
  ex : ∃ (C f : Addr) (fd : FuncData), ClsD K mg c C ∧ Mk K C f ∧ FnOk P w K mg base CX0 k f fd ps (spI K mg ps.length d) ∧ Binds K fd ps []
section
variable {X : Cx} {e a b o : Expr} {es : List Expr} {pos : Pos}
/-- o.f -/
def cFld (c f : Str) (fo : EF) : EF := fun ρ L => match fo ρ L with
  | some (.ob i, L1) => (match L1[i]? with
    | some (.ins c' fs) => if c' = c then (match fs.lookup f with
      | some w => some (w, L1)
      | none => none) else none
    | _ => none)
  | _ => none
theorem ie_fld {c f : Str} {fo : EF} (D : FldD X.K X.mg c f) (ho : IE X o fo) (hb : attributeBase o f X.env (eval o X.env) = eval o X.env := by rfl) : IE X (.Attribute o f pos) (cFld c f fo) := by
  refine ⟨fun {Zx Z F φ L ρ σ H w L'} hs ss h Q q => PE.wp (pe_fld wpE hb) ?_⟩
  obtain ⟨C, cd, na⟩ := D.ex
  unfold cFld at h
  split at h
  · rename_i i L1 e1
    split at h
    · rename_i c' fs e2
      split at h
      · rename_i ec
        subst ec
        split at h
        · rename_i w' e3
          simp only [Option.some.injEq, Prod.mk.injEq] at h
          obtain ⟨rfl, rfl⟩ := h
          refine ho.run hs ss e1 _ fun F1 φ1 H1 v s1 p1 hs1 r1 => ?_
          cases r1 with
          | ob hj =>
            obtain ⟨_, C', dx, vs, g1, g2, g3, g4⟩ := hs1.objs _ _ _ e2 hj
            rw [cd.at_] at g1
            cases g1
            obtain ⟨v, l1, l2⟩ := lk_some g3 g4 e3
            exact ⟨_, _, dx, vs, v, rfl, g2, cd.cls, na, l1, q F1 φ1 H1 v s1 p1 hs1 l2⟩
        · cases h
      · cases h
    · cases h
  · cases h
/-- o.f = e -/
def cSFld (c f : Str) (fo fe : EF) : SF := fun ρ L => match fe ρ L with
  | none => none
  | some (w, L1) => match fo ρ L1 with
    | some (.ob i, L2) => (match L2[i]? with
      | some (.ins c' fs) => if c' = c ∧ fs.length < 1000 then some (.nx ρ (L2.set i (.ins c (putW f w fs)))) else none
      | _ => none)
    | _ => none
theorem is_sfld {c f : Str} {fo fe : EF} {pos' : Pos} (D : FldD X.K X.mg c f) (ho : IE X o fo) (he : IE X e fe) (hs0 : swapsWith e (some (.Attribute o f pos')) pos.line X.env = pure false := by rfl) : IS X (.Assign [.Attribute o f pos'] e pos) (cSFld c f fo fe) := by
  refine ⟨fun {Zx Z F φ L ρ σ H o} hs ss h D' q => PS.wp (ps_fld wpE wpE hs0) ?_⟩
  obtain ⟨C, cd, na⟩ := D.ex
  unfold cSFld at h
  split at h
  · cases h
  rename_i w L1 e1
  split at h
  · rename_i i L2 e2
    split at h
    · rename_i c' fs e3
      split at h
      · rename_i ec
        obtain ⟨rfl, hl⟩ := ec
        simp only [Option.some.injEq] at h
        subst h
        refine he.run hs ss e1 _ fun F1 φ1 H1 v s1 p1 hs1 r1 => ?_
        refine ho.run hs1 (ss.mono s1 p1) e2 _ fun F2 φ2 H2 v2 s2 p2 hs2 r2 => ?_
        cases r2 with
        | ob hj =>
          obtain ⟨nF, C', dx, vs, g1, g2, g3, g4⟩ := hs2.objs _ _ _ e3 hj
          rw [cd.at_] at g1
          cases g1
          have lv : vs.length < 1000 := by
            have := congrArg List.length g3
            simp only [List.length_map] at this
            omega
          obtain ⟨q1, q2⟩ := putW_ok (r1.mono s2 p2) g3 g4 (f := f)
          refine ⟨_, C, dx, vs, rfl, g2, cd.cls, na, lv, ?_⟩
          refine q Z F2 φ2 σ _ (s1.trans s2) (List.IsPrefix.trans p1 p2) (hs2.setOb (List.getElem?_eq_some_iff.mp e3).1 hj nF NT.ins ?_) (ss.mono (s1.trans s2) (List.IsPrefix.trans p1 p2))
          exact ⟨nF, C, dx, _, cd.at_, upd_same, q1, q2⟩
      · cases h
    · cases h
  · cases h
/-- o.m(..) -/
def cMeth (c m : Str) (d : DF) (fo : EF) (g : AF) : EF := fun ρ L => match fo ρ L with
  | some (.ob i, L1) => (match L1[i]? with
    | some (.ins c' fs) => if c' = c then (match fs.lookup m with
      | some _ => none
      | none => (match g ρ L1 with
        | none => none
        | some (ws, L2) => d (.ob i :: ws) L2)) else none
    | _ => none)
  | _ => none
theorem ie_meth {c m : Str} {k j : Nat} {ps : List Str} {d : DF} {fo : EF} {g : AF} {apos : Pos} {pl : Sem Bool} (D : MetD X.prog X.w X.K X.mg X.base k c m ps d) (hr : Room j X.A) (hkj : k ≤ j) (ho : IE X o fo) (ha : IA X (e :: es) g) (hn : ∀ ρ L ws L', g ρ L = some (ws, L') → ws.length + 1 = ps.length)
    (hst : starEach (e :: es) X.env = (false, eval e X.env) :: starEach es X.env := by rfl) (hpl : (backTo pos (starEach es X.env)).any (·.1) = false := by rfl)
    (ht : eval (.Call (.Attribute o m apos) (e :: es) [] pos) X.env = (do
      let ov ← eval o X.env
      standAt apos.atName
      let (f, first) ← holding [ov] (getMethod ov m pl)
      callWith pos f first (backTo pos (starEach (e :: es) X.env)) (backToKw pos (keywordEach [] X.env))) := by rfl) : IE X (.Call (.Attribute o m apos) (e :: es) [] pos) (cMeth c m d fo g) := by
  obtain ⟨C, f, fd, cd, me, F0, hb⟩ := D.ex
  refine ⟨fun {Zx Z F φ L ρ σ H w L'} hs ss h Q q => PE.wp (pe_meth (E := E0) (dvs := []) wpE cd.cls me F0 (hr.mono hkj) hb .nil pass0 wpA hst hpl ht) ?_⟩
  unfold cMeth at h
  split at h
  · rename_i i L1 e1
    split at h
    · rename_i c' fs e2
      split at h
      · rename_i ec
        subst ec
        split at h
        · cases h
        rename_i e3
        split at h
        · cases h
        rename_i ws L2 e4
        refine ho.run hs ss e1 _ fun F1 φ1 H1 v s1 p1 hs1 r1 => ?_
        cases r1 with
        | ob hj =>
          obtain ⟨nF, C', dx, vs, g1, g2, g3, g4⟩ := hs1.objs _ _ _ e2 hj
          rw [cd.at_] at g1
          cases g1
          refine ⟨_, dx, vs, rfl, g2, lk_none g3 e3, ?_⟩
          refine ha.run hs1 (ss.mono s1 p1) e4 _ fun F2 φ2 H2 us s2 p2 hs2 r2 => ?_
          refine ⟨Z, F2, φ2, L2, .ob i :: ws, w, L', hs2, by rw [List.append_nil]; exact .cons (.ob (pre_get p2 hj)) r2, by rw [List.length_cons]; exact hn _ _ _ _ e4, h, fun Z' F' φ' H' v s3 p3 z hs3 r3 => ?_⟩
          exact q F' φ' H' v (s1.trans (s2.trans s3)) (List.IsPrefix.trans p1 (List.IsPrefix.trans p2 p3)) (hs3.weak z) r3
      · cases h
    · cases h
  · cases h
/-- C(..) -/
def cMake (c : Str) (d : DF) (g : AF) : EF := fun ρ L => match g ρ L with
  | none => none
  | some (ws, L1) => match d (.ob L1.length :: ws) (L1 ++ [.ins c []]) with
    | some (.non, L2) => some (.ob L1.length, L2)
    | _ => none
theorem ie_make {c : Str} {k j : Nat} {ps : List Str} {d : DF} {g : AF} {p : Pos} (D : MakD X.prog X.w X.K X.mg X.base k c ps d) (hr : Room j X.A) (hkj : k + 1 ≤ j) (hg : Gl X c) (ha : IA X (e :: es) g) (hn : ∀ ρ L ws L', g ρ L = some (ws, L') → ws.length + 1 = ps.length)
    (hdb : (c == ("__debug__" : Str)) = false := by decide) (he : starEach (e :: es) X.env = (false, eval e X.env) :: starEach es X.env := by rfl) (hpl : (backTo pos (starEach es X.env)).any (·.1) = false := by rfl) :
    IE X (.Call (.Name c p) (e :: es) [] pos) (cMake c d g) := by
  obtain ⟨C, f, fd, cd, mk, F0, hb⟩ := D.ex
  refine ⟨fun {Zx Z F φ L ρ σ H w L'} hs ss h Q q => PE.wp (pe_make (E := E0) (dvs := []) mk F0 (hr.mono hkj) hg cd.at_ hb .nil pass0 wpA hdb he hpl) ?_⟩
  unfold cMake at h
  split at h
  · cases h
  rename_i ws L1 e1
  split at h
  · rename_i L2 e2
    simp only [Option.some.injEq, Prod.mk.injEq] at h
    obtain ⟨rfl, rfl⟩ := h
    refine ha.run hs ss e1 _ fun F1 φ1 H1 us s1 p1 hs1 r1 x dx hx hdx hne => ?_
    have hsD : Hs X.K X.mg Z F1 φ1 L1 (upd H1 dx (.own x)) := hs1.extra hdx
    have hx2 : upd H1 dx (.own x) x = none := by rw [upd_ne (fun z => hne z.symm)]; exact hx
    have f0 := (hsD.free hx2).1
    have hsN : Hs X.K X.mg Z F1 (φ1 ++ [x]) (L1 ++ [.ins c []]) (upd (upd H1 dx (.own x)) x (.ins C dx [])) := hsD.push hx2 NT.ins ⟨f0, C, dx, [], cd.at_, upd_same, rfl, .nil⟩
    have pf : φ1 <+: φ1 ++ [x] := List.prefix_append _ _
    have hat : (φ1 ++ [x])[L1.length]? = some x := by rw [← hs1.len, List.getElem?_append_right (Nat.le_refl _)]; simp
    refine ⟨Z, F1, φ1 ++ [x], L1 ++ [.ins c []], .ob L1.length :: ws, .non, L2, hsN, by rw [List.append_nil]; exact .cons (.ob hat) (Rs.mono (Sub.refl F1) pf r1), by rw [List.length_cons]; exact hn _ _ _ _ e1, e2, fun Z' F' φ' H' v s3 p3 z hs3 r3 => ?_⟩
    cases r3
    exact ⟨rfl, q F' φ' H' (.ref x) (s1.trans s3) (List.IsPrefix.trans p1 (List.IsPrefix.trans pf p3)) (hs3.weak z) (.ob (pre_get p3 hat))⟩
  · cases h
end
@[simp] theorem e_cFld (c f : Str) (fo : EF) (ρ : Ro) (L : Lg) : cFld c f fo ρ L = (match fo ρ L with
  | some (.ob i, L1) => (match L1[i]? with
    | some (.ins c' fs) => if c' = c then (match fs.lookup f with
      | some w => some (w, L1)
      | none => none) else none
    | _ => none)
  | _ => none) := id rfl
@[simp] theorem e_cSFld (c f : Str) (fo fe : EF) (ρ : Ro) (L : Lg) : cSFld c f fo fe ρ L = (match fe ρ L with
  | none => none
  | some (w, L1) => match fo ρ L1 with
    | some (.ob i, L2) => (match L2[i]? with
      | some (.ins c' fs) => if c' = c ∧ fs.length < 1000 then some (.nx ρ (L2.set i (.ins c (putW f w fs)))) else none
      | _ => none)
    | _ => none) := id rfl
@[simp] theorem e_cMeth (c m : Str) (d : DF) (fo : EF) (g : AF) (ρ : Ro) (L : Lg) : cMeth c m d fo g ρ L = (match fo ρ L with
  | some (.ob i, L1) => (match L1[i]? with
    | some (.ins c' fs) => if c' = c then (match fs.lookup m with
      | some _ => none
      | none => (match g ρ L1 with
        | none => none
        | some (ws, L2) => d (.ob i :: ws) L2)) else none
    | _ => none)
  | _ => none) := id rfl
@[simp] theorem e_cMake (c : Str) (d : DF) (g : AF) (ρ : Ro) (L : Lg) : cMake c d g ρ L = (match g ρ L with
  | none => none
  | some (ws, L1) => match d (.ob L1.length :: ws) (L1 ++ [.ins c []]) with
    | some (.non, L2) => some (.ob L1.length, L2)
    | _ => none) := id rfl
end Lf

set_option maxHeartbeats 4000000
/-! Lf, part H: members of lists, texts joined, tuples of lists, sorted sets of ints, boxes. -/
namespace Lf
open PySem PySem.Spec PyProof.Rows L2
/-! ### x in xs -/
def memW (x : W) (ws : List W) : Option Bool := match x, intsW ws with
  | .int i, some ns => some (decide (i ∈ ns))
  | x, _ => match toD x, toDs ws with
    | some d, some ds => if SeqAt.shaped d = true ∧ SeqAt.shaped (.list ds) = true then some (ds.any fun z => PyData.eqv z d) else none
    | _, _ => none
/-- x in w -/
def inW (neg : Bool) (x w : W) : Option W := match w with
  | .lst ws => (match memW x ws with
    | some k => some (.bl (if neg then !k else k))
    | none => none)
  | .tup ws => (match x, intsW ws with
    | .int i, some ns => some (.bl (if neg then !decide (i ∈ ns) else decide (i ∈ ns)))
    | _, _ => none)
  | _ => none
theorem inV_ints (i : Int) (ns : List Int) : inV (.int i) (ns.map V.int) = decide (i ∈ ns) := by
  unfold inV
  rw [Bool.eq_iff_iff, List.any_eq_true, decide_eq_true_eq]
  constructor
  · rintro ⟨v, h1, h2⟩
    obtain ⟨n, hn, rfl⟩ := List.mem_map.mp h1
    have : (n == i) = true := h2
    rw [beq_iff_eq] at this
    rw [← this]; exact hn
  · intro h
    exact ⟨.int i, List.mem_map.mpr ⟨i, h, rfl⟩, by show (i == i) = true; simp⟩
theorem flat_ints (ns : List Int) : (ns.map V.int).all flatV = true := by
  rw [List.all_eq_true]; intro v hv; obtain ⟨n, _, rfl⟩ := List.mem_map.mp hv; rfl
section
variable {X : Cx} {e a b o : Expr} {es : List Expr} {pos : Pos}
/-- value, then container -/
def cOpC (g : W → W → Option W) (fa : EF) (fo : OF) : EF := fun ρ L => match fa ρ L with
  | none => none
  | some (x, L1) => match fo ρ L1 with
    | none => none
    | some (h, L2) => match cont ρ L2 h with
      | none => none
      | some y => match g x y with
        | none => none
        | some w => some (w, L2)
def Op2C (X : Cx) (r : R2) (g : W → W → Option W) : Prop := ∀ {Z F : Hp} {φ : List Addr} {L : Lg} {H : Hp} {x y w : W} {vx vy : V}, Hs X.K X.mg Z F φ L H → R X.K F φ x vx → Cont X.K F φ H y vy → g x y = some w →
  ∀ Q : VK, (∀ (F' : Hp) (H' : Hp) (v : V), Sub F F' → Hs X.K X.mg Z F' φ L H' → R X.K F' φ w v → Q v H') → r vx vy H Q
theorem twoC {r : R2} {g : W → W → Option W} {fa : EF} {fb : OF} (sg : Op2C X r g) (ha : IE X a fa) (hb : IO X b fb)
    {Zx Z F : Hp} {φ : List Addr} {L : Lg} {ρ : Ro} {σ : L2.St} {H : Hp} {w : W} {L' : Lg} (hs : Hs X.K X.mg Z F φ L H) (ss : Ss X.K Zx Z F φ ρ σ) (h : cOpC g fa fb ρ L = some (w, L'))
    (Q : VK) (q : ∀ (F' : Hp) (φ' : List Addr) (H' : Hp) (v : V), Sub F F' → φ <+: φ' → Hs X.K X.mg Z F' φ' L' H' → R X.K F' φ' w v → Q v H') : tOp r (Wp X a) (Wp X b) σ H Q := by
  unfold cOpC at h
  split at h
  · cases h
  rename_i x L1 e1
  split at h
  · cases h
  rename_i hd L2 e2
  split at h
  · cases h
  rename_i y e3
  split at h
  · cases h
  rename_i w' e4
  simp only [Option.some.injEq, Prod.mk.injEq] at h
  obtain ⟨rfl, rfl⟩ := h
  refine ha.run hs ss e1 _ fun F1 φ1 H1 vx s1 p1 hs1 r1 => ?_
  refine hb.run hs1 (ss.mono s1 p1) e2 _ fun F2 φ2 H2 vy s2 p2 hs2 r2 => ?_
  refine sg hs2 (r1.mono s2 p2) (cont_ok hs2 ((ss.mono s1 p1).mono s2 p2) r2 e3) e4 Q fun F3 H3 v s3 hs3 rv => ?_
  exact q F3 φ2 H3 v ((s1.trans s2).trans s3) (List.IsPrefix.trans p1 p2) hs3 rv
theorem dp_list {K : PySem.W.Frag} {F H : Hp} {φ : List Addr} {ws : List W} {v : V} {ds : List PyData} (s : Sub F H) (c : Cont K F φ H (.lst ws) v) (h : toDs ws = some ds) : Dp K H v (.list ds) := by
  rcases c with c | ⟨a, o, m, rfl, e, h1, h2⟩
  · exact c.dp s (by simp only [toD, h])
  · cases m with
    | lst xs =>
      cases e
      cases o <;> first | exact h2.elim | skip
      have rs : Rs K F φ ws _ := h2
      exact .lst (SqL.of h1) (rs.dp s h)
    | dK xs => cases e
    | dT xs => cases e
theorem op2_in : Op2C X (fun x y H Q => rIn X.K false x y H Q ∨ rInD X.K x y H Q) (inW false) := by
  intro Z F φ L H x y w vx vy hs rx cy h Q q
  unfold inW at h
  split at h
  · rename_i ws
    split at h
    · rename_i k hk
      cases h
      unfold memW at hk
      split at hk
      · rename_i i ns e1
        cases hk
        rw [intsW_eq e1] at cy
        obtain ⟨p, vs, rfl, g1, g2⟩ := cy.seq hs.sub
        cases rx
        have ev := g2.ints
        subst ev
        exact .inl ⟨p, _, rfl, .inl g1, rfl, flat_ints ns, by rw [inV_ints]; exact flat hs (.bl _) q⟩
      · split at hk
        · split at hk
          · rename_i d ds e1 e2 hz
            cases hk
            exact .inr ⟨d, ds, rx.dp hs.sub e1, dp_list hs.sub cy e2, hz.1, hz.2, flat hs (.bl _) q⟩
          · cases hk
        · cases hk
    · cases h
  · rename_i ws
    split at h
    · rename_i i ns e1
      cases h
      rw [intsW_eq e1] at cy
      obtain ⟨p, vs, rfl, g1, g2⟩ := cy.tup hs.sub
      cases rx
      have ev := g2.ints
      subst ev
      exact .inl ⟨p, _, rfl, .inr g1, rfl, flat_ints ns, by rw [inV_ints]; exact flat hs (.bl _) q⟩
    · cases h
  · cases h
theorem op2_notin : Op2C X (fun x y H Q => rIn X.K true x y H Q ∨ rNotInD X.K x y H Q) (inW true) := by
  intro Z F φ L H x y w vx vy hs rx cy h Q q
  unfold inW at h
  split at h
  · rename_i ws
    split at h
    · rename_i k hk
      cases h
      unfold memW at hk
      split at hk
      · rename_i i ns e1
        cases hk
        rw [intsW_eq e1] at cy
        obtain ⟨p, vs, rfl, g1, g2⟩ := cy.seq hs.sub
        cases rx
        have ev := g2.ints
        subst ev
        exact .inl ⟨p, _, rfl, .inl g1, rfl, flat_ints ns, by rw [inV_ints]; exact flat hs (.bl _) q⟩
      · split at hk
        · split at hk
          · rename_i d ds e1 e2 hz
            cases hk
            exact .inr ⟨d, ds, rx.dp hs.sub e1, dp_list hs.sub cy e2, hz.1, hz.2, flat hs (.bl _) q⟩
          · cases hk
        · cases hk
    · cases h
  · rename_i ws
    split at h
    · rename_i i ns e1
      cases h
      rw [intsW_eq e1] at cy
      obtain ⟨p, vs, rfl, g1, g2⟩ := cy.tup hs.sub
      cases rx
      have ev := g2.ints
      subst ev
      exact .inl ⟨p, _, rfl, .inr g1, rfl, flat_ints ns, by rw [inV_ints]; exact flat hs (.bl _) q⟩
    · cases h
  · cases h
theorem ie_in {fa : EF} {fo : OF} (hu : X.A.units + 65 < cLine) (ha : IE X a fa) (hb : IO X b fo) (hm : behindInMarks .In b = false := by rfl) : IE X (.Compare a [.In] [b] pos) (cOpC (inW false) fa fo) :=
  ⟨fun hs ss h Q q => PE.wp (pe_cmpR (orR op_in_seq (op_inD hu)) wpE wpE hm) (twoC op2_in ha hb hs ss h Q q)⟩
theorem ie_notin {fa : EF} {fo : OF} (hu : X.A.units + 65 < cLine) (ha : IE X a fa) (hb : IO X b fo) (hm : behindInMarks .NotIn b = false := by rfl) : IE X (.Compare a [.NotIn] [b] pos) (cOpC (inW true) fa fo) :=
  ⟨fun hs ss h Q q => PE.wp (pe_cmpR (orR op_notIn_seq (op_notInD hu)) wpE wpE hm) (twoC op2_notin ha hb hs ss h Q q)⟩
theorem it_in {fa : EF} {fo : OF} (hu : X.A.units + 65 < cLine) (ha : IE X a fa) (hb : IO X b fo) (hm : behindInMarks .In b = false := by rfl) : IT X (.Compare a [.In] [b] pos) (asT (cOpC (inW false) fa fo)) := by
  refine ⟨fun {Zx Z F φ L ρ σ H w L'} hs ss h Q q => PT.wp (pt_cmpR (orR op_in_seq (op_inD hu)) wpE wpE hm) ?_⟩
  refine twoC op2_in ha hb hs ss (asT_some h) _ fun F' φ' H' v s1 p1 hs1 r1 => ?_
  cases r1
  exact ⟨w, rfl, q F' φ' H' s1 p1 hs1⟩
theorem it_notin {fa : EF} {fo : OF} (hu : X.A.units + 65 < cLine) (ha : IE X a fa) (hb : IO X b fo) (hm : behindInMarks .NotIn b = false := by rfl) : IT X (.Compare a [.NotIn] [b] pos) (asT (cOpC (inW true) fa fo)) := by
  refine ⟨fun {Zx Z F φ L ρ σ H w L'} hs ss h Q q => PT.wp (pt_cmpR (orR op_notIn_seq (op_notInD hu)) wpE wpE hm) ?_⟩
  refine twoC op2_notin ha hb hs ss (asT_some h) _ fun F' φ' H' v s1 p1 hs1 r1 => ?_
  cases r1
  exact ⟨w, rfl, q F' φ' H' s1 p1 hs1⟩
/-! ### texts -/
def strsW : List W → Option (List Str)
  | [] => some []
  | .str s :: r => (match strsW r with
    | some ns => some (s :: ns)
    | none => none)
  | _ => none
theorem strsW_eq : ∀ {ws : List W} {ns : List Str}, strsW ws = some ns → ws = ns.map W.str
  | [], ns, h => by simp only [strsW, Option.some.injEq] at h; subst h; rfl
  | w :: r, ns, h => by
    unfold strsW at h
    split at h
    · cases h; rename_i e; cases e
    · rename_i s r' e
      cases e
      split at h
      · rename_i ns' e2
        simp only [Option.some.injEq] at h
        subst h
        rw [strsW_eq e2]; rfl
      · cases h
    · cases h
theorem strsW_map : ∀ ns : List Str, strsW (ns.map W.str) = some ns
  | [] => rfl
  | n :: r => by rw [List.map_cons]; simp only [strsW, strsW_map r]
theorem Rs.strs {K : PySem.W.Frag} {F : Hp} {φ : List Addr} : ∀ {ns : List Str} {vs : List V}, Rs K F φ (ns.map W.str) vs → vs = ns.map V.str
  | [], _, h => by cases h; rfl
  | n :: ns, _, h => by
    cases h with
    | cons r t =>
      cases r
      rw [Rs.strs t]; rfl
/-- s.join(xs) -/
def cJoin (fs : EF) (fo : OF) : EF := fun ρ L => match fs ρ L with
  | some (.str s, L1) => (match fo ρ L1 with
    | none => none
    | some (h, L2) => match cont ρ L2 h with
      | some (.lst ws) => (match strsW ws with
        | some ys => if (ys.map fun y => y.length).sum + ys.length * s.length ≤ 16777216 then some (.str (Txt.join s ys), L2) else none
        | none => none)
      | _ => none)
  | _ => none
theorem ie_join {fs : EF} {fo : OF} {apos : Pos} (hs0 : IE X o fs) (ho : IO X e fo) (hs1 : starEach [e] X.env = [(false, eval e X.env)] := by rfl) (hbase : attributeBase o "join" X.env (eval o X.env) = eval o X.env := by rfl) (hline : (apos.endLine == pos.line) = true := by rfl) :
    IE X (.Call (.Attribute o "join" apos) [e] [] pos) (cJoin fs fo) := by
  refine ⟨fun {Zx Z F φ L ρ σ H w L'} hs ss h Q q => PE.wp (pe_join wpE wpE hs1 hbase hline) ?_⟩
  unfold cJoin at h
  split at h
  · rename_i s L1 e1
    split at h
    · cases h
    rename_i hd L2 e2
    split at h
    · rename_i ws e3
      split at h
      · rename_i ys e4
        split at h
        · rename_i hz
          simp only [Option.some.injEq, Prod.mk.injEq] at h
          obtain ⟨rfl, rfl⟩ := h
          refine hs0.run hs ss e1 _ fun F1 φ1 H1 v s1 p1 hs1 r1 => ?_
          cases r1
          refine ⟨⟨_, rfl⟩, ?_⟩
          refine ho.run hs1 (ss.mono s1 p1) e2 _ fun F2 φ2 H2 vy s2 p2 hs2 r2 => ?_
          have c := cont_ok hs2 ((ss.mono s1 p1).mono s2 p2) r2 e3
          rw [strsW_eq e4] at c
          obtain ⟨p, vs, rfl, g1, g2⟩ := c.seq hs2.sub
          have ev := g2.strs
          subst ev
          exact ⟨s, p, ys, rfl, rfl, .inl g1, hz, q F2 φ2 H2 _ (s1.trans s2) (List.IsPrefix.trans p1 p2) hs2 (.str _)⟩
        · cases h
      · cases h
    · cases h
  · cases h
/-- tuple(xs) -/
def cTupOf (fo : OF) : EF := fun ρ L => match fo ρ L with
  | none => none
  | some (h, L1) => match cont ρ L1 h with
    | some (.lst ws) => some (.tup ws, L1)
    | _ => none
theorem ie_tupof {fo : OF} {p : Pos} (hg : Gl X "tuple") (hm : X.mg "tuple" = none) (ho : IO X a fo) (na : starEach [a] X.env = (false, eval a X.env) :: starEach [] X.env := by rfl) : IE X (.Call (.Name "tuple" p) [a] [] pos) (cTupOf fo) := by
  refine ⟨fun {Zx Z F φ L ρ σ H w L'} hs ss h Q q => PE.wp (pe_tupleOf hg hm wpE na) ?_⟩
  unfold cTupOf at h
  split at h
  · cases h
  rename_i hd L1 e1
  split at h
  · rename_i ws e2
    simp only [Option.some.injEq, Prod.mk.injEq] at h
    obtain ⟨rfl, rfl⟩ := h
    refine ho.run hs ss e1 _ fun F1 φ1 H1 v s1 p1 hs1 r1 => ?_
    obtain ⟨p, vs, rfl, g1, g2⟩ := (cont_ok hs1 (ss.mono s1 p1) r1 e2).seq hs1.sub
    refine .inl ⟨p, vs, rfl, g1, fun t ht => ?_⟩
    obtain ⟨h1, h2⟩ := hs1.fresh_frozen (o := .tup vs) ht
    exact q _ φ1 _ _ (s1.trans h2) p1 h1 (.tup upd_same (g2.mono h2 (List.prefix_refl φ1)))
  · cases h
end
end Lf

set_option maxHeartbeats 4000000
/-! Lf, part I: set(a list of ints). -/
namespace Lf
open PySem PySem.Spec PyProof.Rows L2
def eS (w : World) : Obj := { cls := .type "set", dict := none, data := .set #[] 0 (.fresh 0 0 (!w.params.followText "set-order")) }
section
variable {P : Program} {w : World} {A : Around} {E : Value → Shared → Prop} {s : Shared}
/-- set(a list of ints) -/
theorem set_listI {l : Addr} {its : Array Value} (ns : List Int) {Q : Value → Shared → Prop} (hh : A.handled = none) (il : s.heap.IsList l its) (hit : IntsAre its.toList ns) (hb : ns.length + 1 < scanBound)
    (k : ∀ (h' : Heap) (tk c : Nat), SetR w h' s.heap.objs.size (fun j => decide (j ∈ ns)) c → c ≤ ns.length → (∀ b o, s.heap.get? b = some o → h'.get? b = some o) → Q (.ref s.heap.objs.size) { s with heap := h', toks := tk }) :
    wpAny (model P w) A (call (.type "set") [.ref l]) Q E s := by
  have sz : its.size = ns.length := by rw [← Array.length_toList]; exact hit.length
  obtain ⟨mc, mt, m1⟩ := F.called_set.mro
  have m2 := F.called_set.made
  have m3 := F.called_set.sub
  have m4 := F.called_set.notType
  have m5 := F.called_set.canCreate
  have m6 := F.typeCall_set_1 (.ref l)
  refine wpAny_call (codeAny_of_tree ?_)
  show wpAny _ _ (callAny (.type "set") _) _ _ _
  refine wpAny_pure ⟨Code.quiet_builtin _ (by decide +kernel), codeAny_builtin F.entry_type_call ?_⟩
  rw [Around.under_plain (weight_type_call_type "set" [.ref l] []) rfl]
  repeat (any_goals (first | assumption | wp_step))
  have new : (s.heap.push (eS w)).get? s.heap.objs.size = some (eS w) := Heap.get?_push_size _ rfl
  refine codeAny_mono (code_set_led1 (.ref l) (E := E) (Q₁ := fun u t => u = .ref s.heap.objs.size ∧ t = { s with heap := s.heap.push (eS w) }) ⟨rfl, rfl⟩) fun r t hr => ?_
  cases r with
  | error e => exact hr
  | ok fl =>
    cases fl with
    | ret u =>
      obtain ⟨rfl, rfl⟩ := hr
      have ty : Shared.TypeIs { s with heap := s.heap.push (eS w) } (.ref s.heap.objs.size) "set" := ⟨_, new, rfl⟩
      have i1 := F.called_set.init.lookup
      have i2 := F.called_set.init.bind (.ref s.heap.objs.size)
      repeat (any_goals (first | assumption | wp_step))
      refine codeAny_mono (codeAny_call_builtin (R := wants (fun r t => r = .none ∧ ∃ h' tk c, t = { s with heap := h', toks := tk } ∧ SetR w h' s.heap.objs.size (fun j => decide (j ∈ ns)) c ∧ c ≤ ns.length ∧
          (∀ b o, s.heap.get? b = some o → h'.get? b = some o)) E) F.called_set.init.plain F.entry_set_init (check_set_init_1 ty ?_)) fun r2 t2 hr2 => ?_
      · obtain ⟨ol, g1, g2, nl, g3⟩ := il
        obtain ⟨oc, od, odt, osl⟩ := ol
        simp only at g2 g3
        subst g2; subst g3
        have g4 : (s.heap.push (eS w)).get? l = some ⟨.type "list", od, .seq its nl, osl⟩ := Heap.get?_push_of_some _ g1
        have j1 := F.sub_list_set
        have j2 := F.sub_list_frozenset
        have j3 : (Value.type "list" == Value.type "dict") = false := by decide
        have j4 : (s.heap.push (eS w)).IsList l its := ⟨_, g4, rfl, nl, rfl⟩
        have g4' := g4
        unfold eS at g4'
        unfold Builtin.«set.__init__» noKeywords Builtin.Frozenset.updateFrom
        generalize hPI : pyIter = PI
        wp_walk
        subst hPI
        refine wpAny_pyIter_list j4 (wpAny_bind (wpAny_runValue ?_))
        have lt : l < s.heap.objs.size := Heap.lt_size g1
        have h3 : A.in1.in1.in1.handled = none := by simp [hh]
        have z1 : (s.heap.push (eS w)).objs.size = s.heap.objs.size + 1 := Heap.size_push ..
        have n1 : l ≠ (s.heap.push (eS w)).objs.size := by rw [z1]; exact Nat.ne_of_lt (Nat.lt_succ_of_lt lt)
        have n2 : s.heap.objs.size ∉ [(s.heap.push (eS w)).objs.size, l] := by
          rw [z1]; simp only [List.mem_cons, List.not_mem_nil, or_false, not_or]; exact ⟨Nat.ne_of_lt (Nat.lt_succ_self _), Nat.ne_of_gt lt⟩
        have vl : ∀ (i : Nat) (v : Value), its[i]? = some v → ∃ k t, ns[i]? = some k ∧ v = .int k t := fun i v hv => by
          have hi : i < ns.length := by rw [← sz]; exact (Array.getElem?_eq_some_iff.mp hv).1
          obtain ⟨t, e⟩ := IntsAre.int_at hit i v (by rw [Array.getElem?_toList]; exact hv)
          refine ⟨ns[i], t, List.getElem?_eq_getElem hi, ?_⟩
          rw [e, List.getD_eq_getElem?_getD, List.getElem?_eq_getElem hi] <;> rfl
        refine set_update_ints ((Walks.list h3 _ l n1 its).toS) s.heap.objs.size n2 ns sz hb vl (its.size - 0) 0 _ (by omega) (Nat.zero_le _)
          ⟨⟨_, Heap.get?_push_size _ rfl, rfl, rfl⟩, (j4.push _)⟩ ⟨0, Nat.le_refl 0, setR_new_at (Heap.get?_push_of_some _ new)⟩ ?_
        intro t c mv hc hS
        obtain ⟨h', g2, d', tk', os'⟩ := t
        obtain rfl : g2 = s.gens := mv.gens
        obtain rfl : d' = s.drawn := mv.drawn
        obtain rfl : os' = s.os := mv.os
        show wpAny _ _ _ _ _ _
        refine wpAny_pure ?_
        show wpAny _ _ (ret Value.none) _ _ _
        rw [sz] at hc
        refine wpAny_pure ⟨rfl, h', tk', c, rfl, hS, hc, fun b o e => ?_⟩
        have b0 : b < s.heap.objs.size := Heap.lt_size e
        refine mv.heap b o ?_ (Heap.get?_push_of_some _ (Heap.get?_push_of_some _ e))
        rw [z1]; simp only [List.mem_cons, List.not_mem_nil, or_false, not_or]; exact ⟨Nat.ne_of_lt b0, Nat.ne_of_lt (Nat.lt_succ_of_lt b0)⟩
      · cases r2 with
        | error e => exact hr2
        | ok fl2 =>
          cases fl2 with
          | ret r =>
            obtain ⟨rfl, h', tk, c', rfl, a1, a2, a3⟩ := hr2
            repeat (any_goals (first | assumption | wp_step))
            exact k _ _ _ a1 a2 a3
          | _ => exact hr2.elim
    | _ => exact hr.elim
end
end Lf

set_option maxHeartbeats 4000000
/-! Lf, part J: sorted(set(a list of ints)), boxes. -/
namespace Lf
open PySem PySem.Spec PyProof.Rows L2
/-! ### sorted(set(ints)) -/
def insI (i : Int) : List Int → List Int
  | [] => [i]
  | j :: r => if i < j then i :: j :: r else if i = j then j :: r else j :: insI i r
def setI (ns : List Int) : List Int := ns.foldr insI []
theorem mem_insI {i k : Int} : ∀ {l : List Int}, k ∈ insI i l ↔ k = i ∨ k ∈ l
  | [] => by simp [insI]
  | j :: r => by
    unfold insI
    split
    · simp
    · split
      · rename_i h; subst h; simp
      · rw [List.mem_cons, mem_insI (l := r), List.mem_cons]
        constructor
        · rintro (h | h | h) <;> simp [h]
        · rintro (h | h | h) <;> simp [h]
theorem pw_insI {i : Int} : ∀ {l : List Int}, l.Pairwise (· < ·) → (insI i l).Pairwise (· < ·)
  | [], _ => by simp [insI]
  | j :: r, h => by
    obtain ⟨h1, h2⟩ := List.pairwise_cons.mp h
    unfold insI
    split
    · rename_i hlt
      refine List.pairwise_cons.mpr ⟨fun x hx => ?_, h⟩
      rcases List.mem_cons.mp hx with rfl | hx
      · exact hlt
      · exact Int.lt_trans hlt (h1 x hx)
    · split
      · exact h
      · rename_i n1 n2
        refine List.pairwise_cons.mpr ⟨fun x hx => ?_, pw_insI h2⟩
        rcases mem_insI.mp hx with rfl | hx
        · omega
        · exact h1 x hx
theorem pw_setI : ∀ ns : List Int, (setI ns).Pairwise (· < ·)
  | [] => .nil
  | n :: r => pw_insI (pw_setI r)
theorem mem_setI {k : Int} : ∀ {ns : List Int}, k ∈ setI ns ↔ k ∈ ns
  | [] => by simp [setI]
  | n :: r => by
    show k ∈ insI n (setI r) ↔ _
    rw [mem_insI, mem_setI (ns := r), List.mem_cons]
theorem asc_uniq : ∀ {l m : List Int}, l.Pairwise (· < ·) → m.Pairwise (· < ·) → (∀ k, k ∈ l ↔ k ∈ m) → l = m
  | [], [], _, _, _ => rfl
  | [], y :: m, _, _, h => absurd ((h y).mpr List.mem_cons_self) (by simp)
  | x :: l, [], _, _, h => absurd ((h x).mp List.mem_cons_self) (by simp)
  | x :: l, y :: m, hl, hm, h => by
    obtain ⟨l1, l2⟩ := List.pairwise_cons.mp hl
    obtain ⟨m1, m2⟩ := List.pairwise_cons.mp hm
    have e : x = y := by
      rcases List.mem_cons.mp ((h x).mp List.mem_cons_self) with e | e
      · exact e
      · rcases List.mem_cons.mp ((h y).mpr List.mem_cons_self) with e' | e'
        · exact e'.symm
        · have := m1 x e; have := l1 y e'; omega
    subst e
    rw [asc_uniq l2 m2 fun k => ?_]
    constructor
    · intro hk
      rcases List.mem_cons.mp ((h k).mp (List.mem_cons_of_mem _ hk)) with e | e
      · have := l1 k hk; omega
      · exact e
    · intro hk
      rcases List.mem_cons.mp ((h k).mpr (List.mem_cons_of_mem _ hk)) with e | e
      · have := m1 k hk; omega
      · exact e
theorem setI_self {l : List Int} (h : l.Pairwise (· < ·)) : setI l = l := asc_uniq (pw_setI l) h fun _ => mem_setI
section
variable {X : Cx} {e a b o : Expr} {es : List Expr} {pos : Pos}
def rSetI (K : PySem.W.Frag) (w : World) : List V → Hp → VK → Prop := fun xs H Q => ∃ (l : Addr) (ns : List Int), xs = [V.ref l] ∧ SqL K H l (ns.map V.int) ∧ ns.length < 64 ∧
  ∀ (p : Addr) (n : Nat), H p = none → n < 64 → Q (.ref p) (upd H p (SetO w p (fun k => decide (k ∈ ns)) n))
theorem cr_setI (hc : X.calm = true) : CallR X (.type "set") (rSetI X.K X.w) := by
  intro pins s σ H xs us Q I r h
  obtain ⟨l, ns, rfl, hl, hf, q⟩ := h
  rw [Vals.ref1 r]
  obtain ⟨its, rv, pl, hz⟩ := I.list hl
  have hn : H s.heap.objs.size = none := I.hok.fresh (Nat.le_refl _)
  refine set_listI ns (I.ok.hd hc) pl.isList (by simpa using rv.ints) (by unfold scanBound; omega) fun h' tk c hS hc hk => ?_
  exact ⟨.ref s.heap.objs.size, upd H s.heap.objs.size (SetO X.w s.heap.objs.size (fun k => decide (k ∈ ns)) c), I.laid (t' := tk) hk (Nat.le_refl _) (setO_new hS), rfl, q _ _ hn (by omega)⟩
def nSetI (f : OF) : NF := fun ρ L => match f ρ L with
  | none => none
  | some (h, L1) => match cont ρ L1 h with
    | some (.lst ws) => (match intsW ws with
      | some ns => if ns.length < 64 then some (.lst ((setI ns).map W.int), L1) else none
      | none => none)
    | _ => none
theorem in_seti {f : OF} {p p2 pos2 : Pos} (hc : X.calm = true) (hg : Gl X "sorted") (hm : X.mg "sorted" = none) (hg2 : Gl X "set") (hm2 : X.mg "set" = none) (ha : IO X a f)
    (he : starEach [.Call (.Name "set" p2) [a] [] pos2] X.env = (false, eval (.Call (.Name "set" p2) [a] [] pos2) X.env) :: starEach [] X.env := by rfl)
    (he2 : starEach [a] X.env = (false, eval a X.env) :: starEach [] X.env := by rfl) (hpl : (backTo pos (starEach [] X.env)).any (·.1) = false := by rfl) (hpl2 : (backTo pos2 (starEach [] X.env)).any (·.1) = false := by rfl) :
    IN X (.Call (.Name "sorted" p) [.Call (.Name "set" p2) [a] [] pos2] [] pos) (nSetI f) := by
  refine ⟨fun {Zx Z F φ L ρ σ H m L'} hs ss h Q q => PE.wp (pe_callB (cr_sortedSet hc) hg hm (by decide +kernel) (pa_cons (pe_callTy (cr_setI hc) hg2 hm2 (by decide +kernel) (pa_cons wpE pa_nil he2) (he := he2) (hpl := hpl2)) pa_nil he) (he := he) (hpl := hpl)) ?_⟩
  unfold nSetI at h
  split at h
  · cases h
  rename_i hd L1 e1
  split at h
  · rename_i ws e2
    split at h
    · rename_i ns e3
      split at h
      · rename_i hz
        simp only [Option.some.injEq, Prod.mk.injEq] at h
        obtain ⟨rfl, rfl⟩ := h
        refine ha.run hs ss e1 _ fun F1 φ1 H1 v s1 p1 hs1 r1 => ?_
        have c := cont_ok hs1 (ss.mono s1 p1) r1 e2
        rw [intsW_eq e3] at c
        obtain ⟨p, vs, rfl, g1, g2⟩ := c.seq hs1.sub
        have ev := g2.ints
        subst ev
        refine ⟨p, ns, rfl, g1, hz, fun st n hst hn => ?_⟩
        have hs2 : Hs X.K X.mg Z F1 φ1 L1 (upd H1 st (SetO X.w st (fun k => decide (k ∈ ns)) n)) := hs1.extra hst
        refine ⟨st, _, n, rfl, upd_same, hn, fun ms t pw mem _ ht => ?_⟩
        have em : ms = setI ns := asc_uniq pw (pw_setI ns) fun k => by rw [mem, decide_eq_true_eq, mem_setI]
        subst em
        exact q F1 φ1 _ t _ s1 p1 (hs2.free ht).2.1 (hs2.fresh ht) (Rs.of_ints _)
      · cases h
    · cases h
  · cases h
end
end Lf

set_option maxHeartbeats 4000000
/-! Lf, part K: raise (never reached), texts, lists at a box, classes asked for, an own ==. -/
namespace Lf
open PySem PySem.Spec PyProof.Rows L2
section
variable {X : Cx} {tg e a b c o : Expr} {es : List Expr} {pos : Pos}
/-- a raise that no run reaches -/
def cRaise : SF := fun _ _ => none
theorem is_raise {x y : Option Expr} : IS X (.Raise x y pos) cRaise := ⟨fun _ _ h => by cases h⟩
/-! ### numbers and texts -/
theorem callOr {f : Value} {r r' : List V → Hp → VK → Prop} (h : CallR X f r) (h' : CallR X f r') : CallR X f (fun xs H Q => r xs H Q ∨ r' xs H Q) := by
  intro pins s σ H xs us Q I rs q
  rcases q with q | q
  · exact h pins s σ H xs us Q I rs q
  · exact h' pins s σ H xs us Q I rs q
def intSW : List W → Option W
  | [.str s] => (match PySem.intText? s with
    | some n => if s.length ≤ 640 then some (.int n) else none
    | none => none)
  | _ => none
theorem ie_intS {f : AF} {p : Pos} (hg : Gl X "int") (hm : X.mg "int" = none) (ha : IA X [a] f) (he : starEach [a] X.env = (false, eval a X.env) :: starEach [] X.env := by rfl) : IE X (.Call (.Name "int" p) [a] [] pos) (cN intSW f) := by
  refine ie_bltT call_int_str (fun {Z F φ L H ws w vs} hs rs h Q q => ?_) hg hm (by decide +kernel) ha (he := he)
  unfold intSW at h
  split at h
  · split at h
    · split at h
      · rename_i s n e1 hz
        cases h
        cases rs with
        | cons r1 r2 => cases r1; cases r2; exact ⟨_, n, rfl, e1, hz, flat hs (.int _) q⟩
      · cases h
    · cases h
  · cases h
def strW : List W → Option W
  | [.int i] => if i.natAbs < 18446744073709551616 then some (.str (toString i)) else none
  | _ => none
theorem ie_strI {f : AF} {p : Pos} (hg : Gl X "str") (hm : X.mg "str" = none) (ha : IA X [a] f) (he : starEach [a] X.env = (false, eval a X.env) :: starEach [] X.env := by rfl) : IE X (.Call (.Name "str" p) [a] [] pos) (cN strW f) := by
  refine ie_bltT call_str_int (fun {Z F φ L H ws w vs} hs rs h Q q => ?_) hg hm (by decide +kernel) ha (he := he)
  unfold strW at h
  split at h
  · split at h
    · rename_i i hz
      cases h
      cases rs with
      | cons r1 r2 =>
        cases r1; cases r2
        refine ⟨_, rfl, ?_, flat hs (.str _) q⟩
        by_cases z : i.natAbs = 0
        · rw [z]; decide
        · have := (Nat.log2_lt z (k := 64)).mpr hz
          omega
    · cases h
  · cases h
/-- c in s, c one sign -/
def inSW (neg : Bool) (x y : W) : Option W := match x, y with
  | .str a, .str z => (match a.cps.toList with
    | [c] => some (.bl (if neg then !decide (c ∈ z.cps.toList) else decide (c ∈ z.cps.toList)))
    | _ => none)
  | _, _ => none
theorem one_sign {a : Str} {c : Nat} (h : a.cps.toList = [c]) : a = ⟨#[c]⟩ := by
  cases a with
  | mk cps =>
    have : cps = #[c] := by rw [← Array.toArray_toList (xs := cps), h]
    rw [this]
theorem op2_inS : Op2 X (fun x y H Q => ∃ (c : Nat) (z : Str), x = .str ⟨#[c]⟩ ∧ y = .str z ∧ Q (.bl (decide (c ∈ z.cps.toList))) H) (inSW false) := by
  intro Z F φ L H x y w vx vy hs rx ry h Q q
  unfold inSW at h
  split at h
  · split at h
    · rename_i c e1
      cases h
      have e2 := one_sign e1
      subst e2
      cases rx; cases ry
      exact ⟨c, _, rfl, rfl, flat hs (.bl _) q⟩
    · cases h
  · cases h
theorem op2_ninS : Op2 X (fun x y H Q => ∃ (c : Nat) (z : Str), x = .str ⟨#[c]⟩ ∧ y = .str z ∧ Q (.bl (!decide (c ∈ z.cps.toList))) H) (inSW true) := by
  intro Z F φ L H x y w vx vy hs rx ry h Q q
  unfold inSW at h
  split at h
  · split at h
    · rename_i c e1
      cases h
      have e2 := one_sign e1
      subst e2
      cases rx; cases ry
      exact ⟨c, _, rfl, rfl, flat hs (.bl _) q⟩
    · cases h
  · cases h
theorem it_inS {fa fb : EF} (ha : IE X a fa) (hb : IE X b fb) (hm : behindInMarks .In b = false := by rfl) : IT X (.Compare a [.In] [b] pos) (asT (cOp (inSW false) fa fb)) := it_cmp op_in_sign op2_inS ha hb hm
theorem it_notinS {fa fb : EF} (ha : IE X a fa) (hb : IE X b fb) (hm : behindInMarks .NotIn b = false := by rfl) : IT X (.Compare a [.NotIn] [b] pos) (asT (cOp (inSW true) fa fb)) := it_cmp op_notIn_sign op2_ninS ha hb hm
/-- for c in s -/
def signsW (s : Str) : List W := s.cps.toList.map fun c => .str ⟨#[c]⟩
theorem itok_str {K : PySem.W.Frag} {mg : Str → Option Value} {F : Hp} {φ : List Addr} (s : Str) : ItOk K mg F φ (Its s) (signsW s) := by
  intro Z F1 φ1 L1 H1 i sb p hs
  refine ⟨fun x hx => ?_, fun hl => by
    show s.cps.size ≤ i
    unfold signsW at hl
    simpa using hl⟩
  unfold signsW at hx
  rw [List.getElem?_map] at hx
  cases q : s.cps.toList[i]? with
  | none => rw [q] at hx; cases hx
  | some c =>
    rw [q] at hx
    cases hx
    have q' : s.cps[i]? = some c := by rw [← Array.getElem?_toList]; exact q
    refine ⟨(Array.getElem?_eq_some_iff.mp q').1, fun v H2 y => ?_⟩
    obtain ⟨rfl, c', h1, rfl⟩ := y
    rw [q'] at h1; cases h1
    exact ⟨F1, Sub.refl F1, hs, .str _⟩
def sStr (f : EF) : AF := fun ρ L => match f ρ L with
  | some (.str s, L') => some (signsW s, L')
  | _ => none
theorem ii_str {f : EF} (h : IE X e f) : II X tg e (sStr f) := by
  refine ⟨fun {Zx Z F φ L ρ σ H xs L'} hs ss h' Q q => PI.wp (pi_str wpE) ?_⟩
  unfold sStr at h'
  split at h'
  · rename_i s L2 e1
    simp only [Option.some.injEq, Prod.mk.injEq] at h'
    obtain ⟨rfl, rfl⟩ := h'
    refine h.run hs ss e1 _ fun F1 φ1 H1 v s1 p1 hs1 r1 => ?_
    cases r1
    exact ⟨s, rfl, q F1 φ1 H1 _ s1 p1 hs1 (itok_str s)⟩
  · cases h'
/-- s.m(t), a value -/
def cS1 (g : Str → Str → W) (fs ft : EF) : EF := fun ρ L => match fs ρ L with
  | some (.str s, L1) => (match ft ρ L1 with
    | some (.str t, L2) => some (g s t, L2)
    | _ => none)
  | _ => none
theorem ie_s1 {id : String} {name : Str} {apos : Pos} {v : Str → Str → V} {g : Str → Str → W} {fs ft : EF} (slot : Slot "str" name id) (ty : typeOf (.builtin id) = pure (.type "method_descriptor")) (rule : MtR X id (fun x xs H Q => ∃ a b, x = .str a ∧ xs = [.str b] ∧ Q (v a b) H))
    (rel : ∀ {F : Hp} {φ : List Addr} (s t : Str), R X.K F φ (g s t) (v s t)) (h1 : IE X o fs) (h2 : IE X e ft) (hs0 : starEach [e] X.env = [(false, eval e X.env)] := by rfl) (hbase : attributeBase o name X.env (eval o X.env) = eval o X.env := by rfl) (hline : (apos.endLine == pos.line) = true := by rfl) :
    IE X (.Call (.Attribute o name apos) [e] [] pos) (cS1 g fs ft) := by
  refine ⟨fun {Zx Z F φ L ρ σ H w L'} hs ss h Q q => PE.wp (pe_m1 slot ty rule wpE wpE hs0 hbase hline) ?_⟩
  unfold cS1 at h
  split at h
  · rename_i s L1 e1
    split at h
    · rename_i t L2 e2
      simp only [Option.some.injEq, Prod.mk.injEq] at h
      obtain ⟨rfl, rfl⟩ := h
      refine h1.run hs ss e1 _ fun F1 φ1 H1 x s1 p1 hs1 r1 => ?_
      cases r1
      refine ⟨⟨_, rfl⟩, ?_⟩
      refine h2.run hs1 (ss.mono s1 p1) e2 _ fun F2 φ2 H2 y s2 p2 hs2 r2 => ?_
      cases r2
      exact ⟨_, _, rfl, rfl, q F2 φ2 H2 _ (s1.trans s2) (List.IsPrefix.trans p1 p2) hs2 (rel _ _)⟩
    · cases h
  · cases h
theorem ie_startswith {fs ft : EF} {apos : Pos} (h1 : IE X o fs) (h2 : IE X e ft) (hs0 : starEach [e] X.env = [(false, eval e X.env)] := by rfl) (hbase : attributeBase o "startswith" X.env (eval o X.env) = eval o X.env := by rfl) (hline : (apos.endLine == pos.line) = true := by rfl) :
    IE X (.Call (.Attribute o "startswith" apos) [e] [] pos) (cS1 (fun s t => .bl (Txt.startswith s t)) fs ft) :=
  ie_s1 F.slot_str_startswith F.type_str_startswith mt_startswith (fun _ _ => .bl _) h1 h2 hs0 hbase hline
/-- s.split(t) -/
def nSplit (fs ft : EF) : NF := fun ρ L => match fs ρ L with
  | some (.str s, L1) => (match ft ρ L1 with
    | some (.str t, L2) => if (t.length == 0) = false ∧ s.length ≤ 1000000 then some (.lst ((Txt.split s t).map W.str), L2) else none
    | _ => none)
  | _ => none
theorem Rs.of_strs {K : PySem.W.Frag} {F : Hp} {φ : List Addr} : ∀ (ns : List Str), Rs K F φ (ns.map W.str) (ns.map V.str)
  | [] => .nil
  | n :: ns => .cons (.str n) (Rs.of_strs ns)
theorem in_split {fs ft : EF} {apos : Pos} (h1 : IE X o fs) (h2 : IE X e ft) (hs0 : starEach [e] X.env = [(false, eval e X.env)] := by rfl) (hbase : attributeBase o "split" X.env (eval o X.env) = eval o X.env := by rfl) (hline : (apos.endLine == pos.line) = true := by rfl) :
    IN X (.Call (.Attribute o "split" apos) [e] [] pos) (nSplit fs ft) := by
  refine ⟨fun {Zx Z F φ L ρ σ H m L'} hs ss h Q q => PE.wp (pe_split wpE wpE hs0 hbase hline) ?_⟩
  unfold nSplit at h
  split at h
  · rename_i s L1 e1
    split at h
    · rename_i t L2 e2
      split at h
      · rename_i hz
        simp only [Option.some.injEq, Prod.mk.injEq] at h
        obtain ⟨rfl, rfl⟩ := h
        refine h1.run hs ss e1 _ fun F1 φ1 H1 x s1 p1 hs1 r1 => ?_
        cases r1
        refine ⟨⟨_, rfl⟩, ?_⟩
        refine h2.run hs1 (ss.mono s1 p1) e2 _ fun F2 φ2 H2 y s2 p2 hs2 r2 => ?_
        cases r2
        refine ⟨_, _, rfl, rfl, hz.1, by rw [sizeLine_eq]; omega, fun p hp => ?_⟩
        have z0 : Z p = none := (hs2.free hp).2.1
        exact q F2 φ2 _ p _ (s1.trans s2) (List.IsPrefix.trans p1 p2) z0 (hs2.fresh hp) (Rs.of_strs _)
      · cases h
    · cases h
  · cases h
/-! ### xs[::-1] as a new list -/
def nRev (fo : OF) : NF := fun ρ L => match fo ρ L with
  | none => none
  | some (h, L1) => match cont ρ L1 h with
    | some (.lst ws) => some (.lst ws.reverse, L1)
    | _ => none
theorem in_rev {fo : OF} {k : Nat} {p1 p2 p3 : Pos} (ha : IO X a fo) : IN X (.Subscript a (.Slice none none (some (.UnaryOp .USub (.Constant (.int 1) k p1) p2)) p3) pos) (nRev fo) := by
  refine ⟨fun {Zx Z F φ L ρ σ H m L'} hs ss h Q q => PE.wp (pe_revL wpE) ?_⟩
  unfold nRev at h
  split at h
  · cases h
  rename_i hd L1 e1
  split at h
  · rename_i ws e2
    simp only [Option.some.injEq, Prod.mk.injEq] at h
    obtain ⟨rfl, rfl⟩ := h
    refine ha.run hs ss e1 _ fun F1 φ1 H1 v s1 p1 hs1 r1 => ?_
    obtain ⟨a, vs, rfl, g1, g2⟩ := (cont_ok hs1 (ss.mono s1 p1) r1 e2).seq hs1.sub
    refine ⟨a, vs, rfl, g1, fun p hp => ?_⟩
    exact q F1 φ1 _ p _ s1 p1 (hs1.free hp).2.1 (hs1.fresh hp) g2.reverse
  · cases h
/-! ### a box: lists and dicts that others hold too -/
/-- xs.append(e), xs at a box -/
def cAppB (fo : EF) (f : EF) : SF := fun ρ L => match fo ρ L with
  | some (.ob j, L0) => (match L0[j]? with
    | some (.box (.lst _)) => (match f ρ L0 with
      | none => none
      | some (w, L1) => match L1[j]? with
        | some (.box (.lst ws)) => if ws.length < 16777216 then some (.nx ρ (L1.set j (.box (.lst (ws ++ [w]))))) else none
        | _ => none)
    | _ => none)
  | _ => none
theorem is_appB {fo f : EF} {apos cpos : Pos} (ho : IE X o fo) (he : IE X e f) (hs' : swapsWith (.Call (.Attribute o "append" apos) [e] [] cpos) none pos.line X.env = pure false := by rfl)
    (hb : attributeBase o "append" X.env (eval o X.env) = eval o X.env := by rfl)
    (hfew : ((backTo cpos (starEach (e :: []) X.env)).all (fun x => !x.1) && (backToKw cpos (keywordEach [] X.env)).all (fun x => x.1.isSome)
      && decide ((e :: []).length + ([] : List Keyword).length + (if ([] : List Keyword).isEmpty then 0 else 1) < 30)) = true := by rfl)
    (hline : (apos.endLine == cpos.line) = true := by rfl) (hst : starEach (e :: []) X.env = (false, eval e X.env) :: starEach [] X.env := by rfl) (hplain : (backTo cpos (starEach [] X.env)).any (·.1) = false := by rfl) :
    IS X (.Expr (.Call (.Attribute o "append" apos) [e] [] cpos) pos) (cAppB fo f) := by
  refine ⟨fun {Zx Z F φ L ρ σ H o} hs ss h D q => PS.wp (ps_expr (pe_bm PySem.F.plainAttrs_list PySem.F.slot_list_append PySem.F.type_list_append mt_append wpE (pa_cons wpE pa_nil hst) hb hfew hline hst hplain) hs') ?_⟩
  unfold cAppB at h
  split at h
  · rename_i j L0 e0
    split at h
    · rename_i ws0 e1
      split at h
      · cases h
      rename_i w L1 e2
      split at h
      · rename_i ws e3
        split at h
        · rename_i hz
          simp only [Option.some.injEq] at h
          subst h
          refine ho.run hs ss e0 _ fun F1 φ1 H1 v s1 p1 hs1 r1 => ?_
          cases r1 with
          | ob hj =>
            obtain ⟨_, o1, k1, k2⟩ := hs1.objs _ _ _ e1 hj
            cases o1 <;> first | exact k2.elim | skip
            refine ⟨.inl ⟨rfl, _, SqL.of k1⟩, ?_⟩
            refine he.run hs1 (ss.mono s1 p1) e2 _ fun F2 φ2 H2 v2 s2 p2 hs2 r2 => ?_
            have hj2 := pre_get p2 hj
            obtain ⟨nF, o2, g1, g2⟩ := hs2.objs _ _ _ e3 hj2
            cases o2 <;> first | exact g2.elim | skip
            rename_i vs
            have rv : Rs X.K F2 φ2 ws vs := g2
            refine ⟨_, vs, v2, rfl, rfl, g1, by rw [← rv.length, sizeLine_eq]; exact hz, ?_⟩
            refine q Z F2 φ2 σ _ (s1.trans s2) (List.IsPrefix.trans p1 p2) (hs2.setOb (List.getElem?_eq_some_iff.mp e3).1 hj2 nF NT.lst ?_) (ss.mono (s1.trans s2) (List.IsPrefix.trans p1 p2))
            exact ⟨nF, _, upd_same, Rs.append rv (.one r2)⟩
        · cases h
      · cases h
    · cases h
  · cases h
/-- xs.insert(i, e), xs of the name's own -/
def cIns (i : Nat) (g : AF) : SF := fun ρ L => match g ρ L with
  | some ([.int k, w], L1) => (match ρ[i]? with
    | some (.ow (.lst ws)) => if ws.length < 16777216 ∧ 0 ≤ k ∧ k < 9223372036854775808 then some (.nx (ρ.set i (.ow (.lst (ws.take k.toNat ++ [w] ++ ws.drop k.toNat)))) L1) else none
    | _ => none)
  | _ => none
theorem is_ins (i : Nat) {x : Str} {px apos cpos : Pos} {g : AF} (he : IA X (e :: es) g) (hN : X.N[i]? = some x := by rfl) (hv : Vis X.env.scope x := by first | exact Or.inl rfl | exact Or.inr (Or.inl rfl) | exact Or.inr (Or.inr rfl)) (hd : (x == ("__debug__" : Str)) = false := by decide)
    (hcd : (x == ("__classdict__" : Str)) = false := by decide) (hs' : swapsWith (.Call (.Attribute (.Name x px) "insert" apos) (e :: es) [] cpos) none pos.line X.env = pure false := by rfl)
    (hb : attributeBase (.Name x px) "insert" X.env (eval (.Name x px) X.env) = eval (.Name x px) X.env := by rfl)
    (hfew : ((backTo cpos (starEach (e :: es) X.env)).all (fun x => !x.1) && (backToKw cpos (keywordEach [] X.env)).all (fun x => x.1.isSome)
      && decide ((e :: es).length + ([] : List Keyword).length + (if ([] : List Keyword).isEmpty then 0 else 1) < 30)) = true := by rfl)
    (hline : (apos.endLine == cpos.line) = true := by rfl) (hst : starEach (e :: es) X.env = (false, eval e X.env) :: starEach es X.env := by rfl) (hplain : (backTo cpos (starEach es X.env)).any (·.1) = false := by rfl) :
    IS X (.Expr (.Call (.Attribute (.Name x px) "insert" apos) (e :: es) [] cpos) pos) (cIns i g) := by
  refine ⟨fun {Zx Z F φ L ρ σ H o} hs ss h D q => PS.wp (ps_expr (pe_bm PySem.F.plainAttrs_list PySem.F.slot_list_insert PySem.F.type_list_insert mt_insert (pe_var hN hv hd hcd) wpA hb hfew hline hst hplain) hs') ?_⟩
  unfold cIns at h
  split at h
  · rename_i k w L1 e1
    split at h
    · rename_i ws e2
      split at h
      · rename_i hz
        simp only [Option.some.injEq] at h
        subst h
        obtain ⟨p, ho, h1, h2, h3, h4⟩ := ss.ow i _ e2
        have hH := (hs.ext p ho h2).1
        cases ho <;> first | exact h4.elim | skip
        rename_i vs
        refine ⟨_, h1, .inl ⟨rfl, _, SqL.of hH⟩, ?_⟩
        refine he.run hs ss e1 _ fun F1 φ1 H1 us s1 p1 hs1 r1 => ?_
        cases r1 with
        | cons ra rb =>
          cases ra
          cases rb with
          | cons rb rc =>
            cases rc
            have hH1 := (hs1.ext p _ h2).1
            have rv : Rs X.K F1 φ1 ws vs := Rs.mono s1 p1 h4
            refine ⟨p, vs, k, _, rfl, rfl, hH1, by rw [← rv.length, sizeLine_eq]; exact hz.1, hz.2.1, by have := hz.2.2; omega, ?_⟩
            have m2 : MOk X.K F1 φ1 (.lst (ws.take k.toNat ++ [w] ++ ws.drop k.toNat)) (.lst (vs.take k.toNat ++ [_] ++ vs.drop k.toNat)) := Rs.append (Rs.append (rv.take _) (.one rb)) (rv.drop _)
            exact q _ F1 φ1 σ _ s1 p1 (hs1.turn h2) ((ss.mono s1 p1).turn e2 h1 m2)
      · cases h
    · cases h
  · cases h
end
end Lf

set_option maxHeartbeats 4000000
/-! Lf, part L: an own ==, isinstance of an own class, constants of the module, the head's hook with one more Bool. -/
namespace Lf
open PySem PySem.Spec PyProof.Rows L2
open C8 (InsC)
/-! ### a == b by the class's own method -/
structure EqD (P : Program) (w : World) (K : PySem.W.Frag) (mg : Str → Option Value) (base : Heap) (k : Nat) (c : Str) (ps : List Str) (d : DF) : Prop where
  ex : ∃ (C f : Addr) (fd : FuncData), ClsD K mg c C ∧ InsC K C ∧ PySem.W.findIn K (.ref C) "__eq__" = some (some (.ref f)) ∧ PySem.W.isFn K (.ref f) = true ∧ PySem.W.notFirst K C (.type "str") = true ∧ PySem.W.notFirst K C (.type "tuple") = true ∧
    FnOk P w K mg base CX0 k f fd ps (spI K mg ps.length d) ∧ Binds K fd ps []
section
variable {X : Cx} {e a b c o : Expr} {es : List Expr} {pos : Pos}
def rOwnEq (K : PySem.W.Frag) (C : Addr) (sp : Sp) : R2 := fun x y H Q => ∃ (l dx : Addr) (fs : List (Str × V)) (t : Value), x = .ref l ∧ H l = some (.ins C dx fs) ∧ TyX K H y t ∧ PySem.W.notFirst K C t = true ∧ sp [x, y] H (fun r H' => ∃ k, r = .bl k ∧ Q (.bl k) H') E0
theorem op_own {n : Nat} {C f : Addr} {fd : FuncData} {ps : List Str} {sp : Sp} (F : FnOk X.prog X.w X.K X.mg X.base CX0 n f fd ps sp) (h1 : PySem.W.findIn X.K (.ref C) "__eq__" = some (some (.ref f))) (h2 : PySem.W.isFn X.K (.ref f) = true) (hb : Binds X.K fd ps []) (hr : Room n X.A) :
    OpR X (compareOp .Eq) (rOwnEq X.K C sp) := by
  intro pins s σ H x y v u Q I rx ry h
  obtain ⟨l, dx, fs, t, rfl, hl, ty, nf, hs⟩ := h
  obtain rfl : v = Value.ref l := rx
  obtain ⟨_, J0, _⟩ := ins_get I.hok hl
  obtain ⟨od, J, _⟩ := J0.look
  obtain ⟨m, fr⟩ := I.fr
  obtain ⟨P, kx, hp, _⟩ := kit_of I ry ty
  show wpAny (model X.prog X.w) X.A (richCompare .Eq (.ref l) u) (EP X pins σ Q) X.xe s
  refine PySem.W.cmp_K (op := .Eq) (tb := t) hr.units0 fr I.ok.mod.kin J (kx.ty _ _ I.kIn hp) nf h1 h2 ?_
  have len2 := F.len _ _ _ _ hs
  have vv : Vals [V.ref l, y] [Value.ref l, u] := .cons rfl (.cons ry .nil)
  have bb : BindsTo s fd ⟨[.ref l, u], []⟩ (ps.zip [.ref l, u]) := by
    have := hb s [.ref l, u] I.kIn (by simpa using len2)
    simpa using this
  refine wpAny_call (codeAny_mono (F.run X.A X.stack s H ⟨[.ref l, u], []⟩ [.ref l, u] [.ref l, y] _ E0 hr I.env0 bb vv hs) fun r s' hq => ?_)
  cases r with
  | error er => exact pass0 pins σ H s er s' I hq
  | ok fl =>
    cases fl with
    | ret w =>
      obtain ⟨z, H', I', rz, k, ez, q⟩ := I.after hq
      subst ez
      cases rz
      exact ⟨.bl k, H', I', rfl, q⟩
    | next => exact False.elim hq
    | brk => exact False.elim hq
    | cont => exact False.elim hq
def okArg (c : Str) (L : Lg) : W → Bool
  | .str _ => true
  | .tup _ => true
  | .ob j => (match L[j]? with
    | some (.ins c' _) => decide (c' = c)
    | _ => false)
  | _ => false
def cEqO (c : Str) (d : DF) (fa fb : EF) : EF := fun ρ L => match fa ρ L with
  | some (.ob i, L1) => (match fb ρ L1 with
    | none => none
    | some (y, L2) => match L2[i]? with
      | some (.ins c' _) => if c' = c ∧ okArg c L2 y = true then (match d [.ob i, y] L2 with
        | some (.bl k, L3) => some (.bl k, L3)
        | _ => none) else none
      | _ => none)
  | _ => none
theorem eqo {k j : Nat} {c : Str} {ps : List Str} {d : DF} {fa fb : EF} {C f : Addr} {fd : FuncData} (cd : ClsD X.K X.mg c C) (ic : InsC X.K C) (n1 : PySem.W.notFirst X.K C (.type "str") = true) (n2 : PySem.W.notFirst X.K C (.type "tuple") = true) (h2 : ps.length = 2)
    (ha : IE X a fa) (hb : IE X b fb)
    {Zx Z F : Hp} {φ : List Addr} {L : Lg} {ρ : Ro} {σ : L2.St} {H : Hp} {w : W} {L' : Lg} (hs : Hs X.K X.mg Z F φ L H) (ss : Ss X.K Zx Z F φ ρ σ) (h : cEqO c d fa fb ρ L = some (w, L'))
    (Q : VK) (q : ∀ (F' : Hp) (φ' : List Addr) (H' : Hp) (v : V), Sub F F' → φ <+: φ' → Hs X.K X.mg Z F' φ' L' H' → R X.K F' φ' w v → Q v H') : tOp (rOwnEq X.K C (spI X.K X.mg ps.length d)) (Wp X a) (Wp X b) σ H Q := by
  unfold cEqO at h
  split at h
  · rename_i i L1 e1
    split at h
    · cases h
    rename_i y L2 e2
    split at h
    · rename_i c' fs e3
      split at h
      · rename_i hz
        obtain ⟨rfl, hz⟩ := hz
        split at h
        · rename_i k0 L3 e4
          simp only [Option.some.injEq, Prod.mk.injEq] at h
          obtain ⟨rfl, rfl⟩ := h
          refine ha.run hs ss e1 _ fun F1 φ1 H1 v s1 p1 hs1 r1 => ?_
          refine hb.run hs1 (ss.mono s1 p1) e2 _ fun F2 φ2 H2 v2 s2 p2 hs2 r2 => ?_
          cases r1 with
          | ob hj =>
            have hj2 := pre_get p2 hj
            obtain ⟨nF, C', dx, vs, g1, g2, g3, g4⟩ := hs2.objs _ _ _ e3 hj2
            rw [cd.at_] at g1
            cases g1
            have ty : ∃ t, TyX X.K H2 v2 t ∧ PySem.W.notFirst X.K C t = true := by
              cases r2 with
              | str x => exact ⟨_, .base (.str x), n1⟩
              | tup t1 t2 => exact ⟨_, .base (.tup (hs2.sub _ _ t1)), n2⟩
              | ob hk =>
                simp only [okArg] at hz
                split at hz
                · rename_i c2 fs2 e5
                  have ec : c2 = _ := of_decide_eq_true hz
                  subst ec
                  obtain ⟨_, C2, dx2, vs2, k1, k2, _, _⟩ := hs2.objs _ _ _ e5 hk
                  rw [cd.at_] at k1
                  cases k1
                  exact ⟨_, .base (.ins k2 ic.cl ic.ha ic.hn ic.htk ic.hm), by unfold PySem.W.notFirst; simp⟩
                · cases hz
              | _ => cases hz
            obtain ⟨t, ty, nf⟩ := ty
            refine ⟨_, dx, vs, t, rfl, g2, ty, nf, ?_⟩
            refine ⟨Z, F2, φ2, L2, [.ob i, y], .bl k0, L3, hs2, .cons (.ob hj2) (.cons r2 .nil), h2.symm, e4, fun Z' F' φ' H' v3 s3 p3 z hs3 r3 => ?_⟩
            cases r3
            exact ⟨k0, rfl, q F' φ' H' _ (s1.trans (s2.trans s3)) (List.IsPrefix.trans p1 (List.IsPrefix.trans p2 p3)) (hs3.weak z) (.bl k0)⟩
        · cases h
      · cases h
    · cases h
  · cases h
theorem ie_eqo {k j : Nat} {c : Str} {ps : List Str} {d : DF} {fa fb : EF} (D : EqD X.prog X.w X.K X.mg X.base k c ps d) (hr : Room j X.A) (hkj : k ≤ j) (h2 : ps.length = 2) (ha : IE X a fa) (hb : IE X b fb) : IE X (.Compare a [.Eq] [b] pos) (cEqO c d fa fb) := by
  obtain ⟨C, f, fd, cd, ic, g1, g2, n1, n2, F0, bs⟩ := D.ex
  exact ⟨fun hs ss h Q q => PE.wp (pe_cmpR (op_own F0 g1 g2 bs (hr.mono hkj)) wpE wpE (nomark _)) (eqo (k := k) (j := j) (f := f) (fd := fd) cd ic n1 n2 h2 ha hb hs ss h Q q)⟩
theorem it_eqo {k j : Nat} {c : Str} {ps : List Str} {d : DF} {fa fb : EF} (D : EqD X.prog X.w X.K X.mg X.base k c ps d) (hr : Room j X.A) (hkj : k ≤ j) (h2 : ps.length = 2) (ha : IE X a fa) (hb : IE X b fb) : IT X (.Compare a [.Eq] [b] pos) (asT (cEqO c d fa fb)) := by
  obtain ⟨C, f, fd, cd, ic, g1, g2, n1, n2, F0, bs⟩ := D.ex
  refine ⟨fun {Zx Z F φ L ρ σ H w L'} hs ss h Q q => PT.wp (pt_cmpR (op_own F0 g1 g2 bs (hr.mono hkj)) wpE wpE (nomark _)) ?_⟩
  refine eqo (k := k) (j := j) (f := f) (fd := fd) cd ic n1 n2 h2 ha hb hs ss (asT_some h) _ fun F' φ' H' v s1 p1 hs1 r1 => ?_
  cases r1
  exact ⟨w, rfl, q F' φ' H' s1 p1 hs1⟩
/-! ### isinstance(x, C) -/
structure IsCD (K : PySem.W.Frag) (mg : Str → Option Value) (c : Str) : Prop where
  ex : ∃ C, ClsD K mg c C ∧ InsC K C ∧ PySem.W.kitOne K (.type "str") (.ref C) = some false ∧ PySem.W.kitOne K (.type "tuple") (.ref C) = some false
def cIsC (c : Str) (fa : EF) : EF := fun ρ L => match fa ρ L with
  | some (.ob j, L1) => (match L1[j]? with
    | some (.ins c' _) => if c' = c then some (.bl true, L1) else none
    | _ => none)
  | some (.str _, L1) => some (.bl false, L1)
  | some (.tup _, L1) => some (.bl false, L1)
  | _ => none
theorem ie_isc {c : Str} {fa : EF} {p p2 : Pos} (D : IsCD X.K X.mg c) (hg : Gl X "isinstance") (hm : X.mg "isinstance" = none) (hgc : Gl X c) (ha : IE X a fa) (he : starEach [a, .Name c p2] X.env = (false, eval a X.env) :: starEach [.Name c p2] X.env := by rfl) (he2 : starEach [.Name c p2] X.env = (false, eval (.Name c p2) X.env) :: starEach [] X.env := by rfl) (hdc : (c == ("__debug__" : Str)) = false := by decide)
    (hpl : (backTo pos (starEach [.Name c p2] X.env)).any (·.1) = false := by rfl) (hn : c ≠ "__name__" := by decide) : IE X (.Call (.Name "isinstance" p) [a, .Name c p2] [] pos) (cIsC c fa) := by
  obtain ⟨C, cd, ic, k1, k2⟩ := D.ex
  refine ⟨fun {Zx Z F φ L ρ σ H w L'} hs ss h Q q => PE.wp (pe_callB call_isi hg hm (by decide +kernel) (pa_cons wpE (pa_cons (pe_glob (v := .ref C) hgc cd.at_ rfl (hd := hdc)) pa_nil he2) he) (he := he) (hpl := hpl)) ?_⟩
  unfold cIsC at h
  have key : ∀ {x : W} {L1 : Lg} {k : Bool}, fa ρ L = some (x, L1) → w = .bl k → L' = L1 → (∀ {F1 : Hp} {φ1 : List Addr} {H1 : Hp} {v : V}, Hs X.K X.mg Z F1 φ1 L1 H1 → R X.K F1 φ1 x v → ∃ t, TyX X.K H1 v t ∧ PySem.W.kitOne X.K t (.ref C) = some k) → tCons (Wp X a) (tCons (tC (.ref C)) tNil) σ H (fun vs H' => rIsi X.K vs H' Q) := by
    intro x L1 k e1 ew eL ty
    subst ew; subst eL
    refine ha.run hs ss e1 _ fun F1 φ1 H1 v s1 p1 hs1 r1 => ?_
    obtain ⟨t, t1, t2⟩ := ty hs1 r1
    exact ⟨v, .ref C, t, .ref C, k, rfl, .own C, t1, t2, q F1 φ1 H1 _ s1 p1 hs1 (.bl k)⟩
  split at h
  · rename_i j L1 e1
    split at h
    · rename_i c' fs e2
      split at h
      · rename_i ec
        subst ec
        simp only [Option.some.injEq, Prod.mk.injEq] at h
        refine key (k := true) e1 h.1.symm h.2.symm fun {F1 φ1 H1 v} hs1 r1 => ?_
        cases r1 with
        | ob hj =>
          obtain ⟨_, C', dx, vs, g1, g2, _, _⟩ := hs1.objs _ _ _ e2 hj
          rw [cd.at_] at g1
          cases g1
          exact ⟨_, .base (.ins g2 ic.cl ic.ha ic.hn ic.htk ic.hm), ic.me⟩
      · cases h
    · cases h
  · rename_i x L1 e1
    simp only [Option.some.injEq, Prod.mk.injEq] at h
    refine key (k := false) e1 h.1.symm h.2.symm fun {F1 φ1 H1 v} hs1 r1 => ?_
    cases r1
    exact ⟨_, .base (.str _), k1⟩
  · rename_i x L1 e1
    simp only [Option.some.injEq, Prod.mk.injEq] at h
    refine key (k := false) e1 h.1.symm h.2.symm fun {F1 φ1 H1 v} hs1 r1 => ?_
    cases r1 with
    | tup t1 t2 => exact ⟨_, .base (.tup (hs1.sub _ _ t1)), k2⟩
  · cases h
end
/-! ### constants of the module -/
/-- a written value -/
inductive Cv where
  | int (i : Int) | str (s : Str) | tup (xs : List Cv)
mutual
def Cv.w : Cv → W
  | .int i => .int i
  | .str s => .str s
  | .tup xs => .kt (Cv.ws xs)
def Cv.ws : List Cv → List W
  | [] => []
  | x :: xs => x.w :: Cv.ws xs
end
mutual
def cvB (K : PySem.W.Frag) (x : Cv) (v : Value) : Bool := match x with
  | .int i => (match v with
    | .int j _ => decide (i = j)
    | _ => false)
  | .str s => (match v with
    | .str t _ => decide (s = t)
    | _ => false)
  | .tup xs => (match v with
    | .ref a => (match K.lookup a with
      | some ⟨.type c, _, .seq its _, _⟩ => decide (c = "tuple") && (decide (its.size ≤ 1000) && cvBs K xs its.toList)
      | _ => false)
    | _ => false)
def cvBs (K : PySem.W.Frag) (xs : List Cv) (vs : List Value) : Bool := match xs with
  | [] => vs.isEmpty
  | x :: xs => (match vs with
    | v :: vs => cvB K x v && cvBs K xs vs
    | [] => false)
end
mutual
theorem cvB_ok {K : PySem.W.Frag} : ∀ (x : Cv) {u : Value}, cvB K x u = true → ∃ v, RelV v u ∧ ∀ F φ, R K F φ x.w v
  | .int i, u, h => by
    unfold cvB at h
    split at h
    · rename_i j t
      have e : i = j := of_decide_eq_true h
      subst e
      exact ⟨.int i, ⟨t, rfl⟩, fun _ _ => .int i⟩
    · cases h
  | .str i, u, h => by
    unfold cvB at h
    split at h
    · rename_i j t
      have e : i = j := of_decide_eq_true h
      subst e
      exact ⟨.str i, ⟨t, rfl⟩, fun _ _ => .str i⟩
    · cases h
  | .tup xs, u, h => by
    unfold cvB at h
    split at h
    · rename_i a
      split at h
      · rename_i c od its n sl e1
        simp only [Bool.and_eq_true, decide_eq_true_eq] at h
        obtain ⟨h1, h2, h3⟩ := h
        subst h1
        obtain ⟨vs, g1, g2⟩ := cvBs_ok xs h3
        exact ⟨.ref a, rfl, fun F φ => .kt ⟨_, its, n, e1, rfl, rfl, by rw [sizeLine_eq]; omega, g1⟩ (g2 F φ)⟩
      · cases h
    · cases h
theorem cvBs_ok {K : PySem.W.Frag} : ∀ (xs : List Cv) {us : List Value}, cvBs K xs us = true → ∃ vs, Vals vs us ∧ ∀ F φ, Rs K F φ (Cv.ws xs) vs
  | [], us, h => by
    unfold cvBs at h
    cases us with
    | nil => exact ⟨[], .nil, fun _ _ => .nil⟩
    | cons _ _ => cases h
  | x :: xs, us, h => by
    unfold cvBs at h
    split at h
    · rename_i v vs
      simp only [Bool.and_eq_true] at h
      obtain ⟨v, g1, g2⟩ := cvB_ok x h.1
      obtain ⟨vs, g3, g4⟩ := cvBs_ok xs h.2
      exact ⟨v :: vs, .cons g1 g3, fun F φ => .cons (g2 F φ) (g4 F φ)⟩
    · cases h
end
/-- the module's name x stands for it -/
def conB (K : PySem.W.Frag) (x : Str) (c : Cv) : Bool := match PySem.W.nsIn K mainGlobals x with
  | some (some v) => cvB K c v
  | _ => false
structure ConD (K : PySem.W.Frag) (mg : Str → Option Value) (x : Str) (c : Cv) : Prop where
  ex : ∃ u v, mg x = some u ∧ RelV v u ∧ ∀ F φ, R K F φ c.w v
theorem conB_ok {K : PySem.W.Frag} {h : Heap} {mg : Str → Option Value} (X : K.In h) (G : h.Ns mainGlobals mg) {x : Str} {c : Cv} (e : conB K x c = true) : ConD K mg x c := by
  unfold conB at e
  split at e
  · rename_i u e1
    obtain ⟨v, h1, h2⟩ := cvB_ok c e
    exact ⟨u, v, PySem.W.mg_of X G e1, h1, h2⟩
  · cases e
theorem ie_con {X : Cx} {x : Str} {c : Cv} {pos : Pos} (D : ConD X.K X.mg x c) (hg : Gl X x) (hdb : (x == ("__debug__" : Str)) = false := by decide) : IE X (.Name x pos) (cK c.w) := by
  obtain ⟨u, v, h1, h2, h3⟩ := D.ex
  exact ie_k (pe_glob (v := v) hg h1 h2 (hd := hdb)) h3
/-! ### the head, with one more Bool -/
abbrev AlE : Type := He.AlD × Bool
def obsE (n : Nat) (fa : List He.Fa) (fn : List He.DefD) (ex : PySem.W.Frag → Bool) (g : Addr → Option Obj) : AlE := (He.obsDG n fa fn g, ex (He.frG g (He.asD g n)))
def hookE (n : Nat) (fa : List He.Fa) (fn : List He.DefD) (ex : PySem.W.Frag → Bool) : PySem.W.Hook where
  α := AlE
  obs := fun s => obsE n fa fn ex s.heap.get?
  val := fun _ => (He.valD fn, true)
  says := fun _ h => ∃ K : PySem.W.Frag, K.In h ∧ (He.SaysD fa fn K ∧ ex K = true)
  of := fun _ _ e => ⟨_, He.frG_in, congrArg Prod.fst e, congrArg Prod.snd e⟩
  keeps := fun _ _ _ ⟨K, hK, c⟩ k => ⟨K, PySem.W.Frag.In.keeps hK k, c⟩
theorem obsE_eq {n : Nat} {fa : List He.Fa} {fn : List He.DefD} {ex : PySem.W.Frag → Bool} {g : Addr → Option Obj} {s : Shared} (h : ∀ a, g a = s.heap.get? a) : obsE n fa fn ex g = (hookE n fa fn ex).obs s := by
  have e : g = s.heap.get? := funext h
  rw [e]; rfl
theorem u65 {A : Around} {k : Nat} (r : Room k A) : A.units + 65 < cLine := by have := r.un; omega
theorem len_add1 {g : AF} {n : Nat} (h : ∀ (ρ : Ro) (L : Lg) (ws : List W) (L' : Lg), g ρ L = some (ws, L') → ws.length = n) : ∀ (ρ : Ro) (L : Lg) (ws : List W) (L' : Lg), g ρ L = some (ws, L') → ws.length + 1 = n + 1 := fun ρ L ws L' e => by rw [h ρ L ws L' e]
/-! classes, by the Bool -/
def insB (K : PySem.W.Frag) (C : Addr) : Bool := decide (PySem.W.findIn K (.ref C) "__class__" = some (some (.builtin "object.__class__"))) && (decide (PySem.W.specialIn K (.builtin "object.__class__") "__get__" = some (some (.builtin "getset_descriptor.__get__"))) &&
  (decide (PySem.W.takesIn K (.builtin "object.__class__") = some true) && (decide (PySem.W.mroIn K C (.type "object") = some true) && decide (PySem.W.kitOne K (.ref C) (.ref C) = some true))))
theorem insB_ok {K : PySem.W.Frag} {C : Addr} (c : Cls K C) (h : insB K C = true) : InsC K C := by
  unfold insB at h
  simp only [Bool.and_eq_true, decide_eq_true_eq] at h
  exact ⟨c, h.1, h.2.1, h.2.2.1, h.2.2.2.1, h.2.2.2.2⟩
end Lf

set_option maxHeartbeats 4000000
/-! Lf, part M: the combinators on slots and things, as equations. -/
namespace Lf
open PySem PySem.Spec PyProof.Rows L2
@[simp] theorem e_cOpC (g : W → W → Option W) (fa : EF) (fo : OF) (ρ : Ro) (L : Lg) : cOpC g fa fo ρ L = (match fa ρ L with
  | none => none
  | some (x, L1) => match fo ρ L1 with
    | none => none
    | some (h, L2) => match cont ρ L2 h with
      | none => none
      | some y => match g x y with
        | none => none
        | some w => some (w, L2)) := id rfl
@[simp] theorem e_cJoin (fs : EF) (fo : OF) (ρ : Ro) (L : Lg) : cJoin fs fo ρ L = (match fs ρ L with
  | some (.str s, L1) => (match fo ρ L1 with
    | none => none
    | some (h, L2) => match cont ρ L2 h with
      | some (.lst ws) => (match strsW ws with
        | some ys => if (ys.map fun y => y.length).sum + ys.length * s.length ≤ 16777216 then some (.str (Txt.join s ys), L2) else none
        | none => none)
      | _ => none)
  | _ => none) := id rfl
@[simp] theorem e_cTupOf (fo : OF) (ρ : Ro) (L : Lg) : cTupOf fo ρ L = (match fo ρ L with
  | none => none
  | some (h, L1) => match cont ρ L1 h with
    | some (.lst ws) => some (.tup ws, L1)
    | _ => none) := id rfl
@[simp] theorem e_nSetI (f : OF) (ρ : Ro) (L : Lg) : nSetI f ρ L = (match f ρ L with
  | none => none
  | some (h, L1) => match cont ρ L1 h with
    | some (.lst ws) => (match intsW ws with
      | some ns => if ns.length < 64 then some (.lst ((setI ns).map W.int), L1) else none
      | none => none)
    | _ => none) := id rfl
@[simp] theorem e_cRaise  (z0 : Ro) (z1 : Lg) : cRaise  z0 z1 = (none) := id rfl
@[simp] theorem e_sStr (f : EF) (ρ : Ro) (L : Lg) : sStr f ρ L = (match f ρ L with
  | some (.str s, L') => some (signsW s, L')
  | _ => none) := id rfl
@[simp] theorem e_cS1 (g : Str → Str → W) (fs ft : EF) (ρ : Ro) (L : Lg) : cS1 g fs ft ρ L = (match fs ρ L with
  | some (.str s, L1) => (match ft ρ L1 with
    | some (.str t, L2) => some (g s t, L2)
    | _ => none)
  | _ => none) := id rfl
@[simp] theorem e_nSplit (fs ft : EF) (ρ : Ro) (L : Lg) : nSplit fs ft ρ L = (match fs ρ L with
  | some (.str s, L1) => (match ft ρ L1 with
    | some (.str t, L2) => if (t.length == 0) = false ∧ s.length ≤ 1000000 then some (.lst ((Txt.split s t).map W.str), L2) else none
    | _ => none)
  | _ => none) := id rfl
@[simp] theorem e_nRev (fo : OF) (ρ : Ro) (L : Lg) : nRev fo ρ L = (match fo ρ L with
  | none => none
  | some (h, L1) => match cont ρ L1 h with
    | some (.lst ws) => some (.lst ws.reverse, L1)
    | _ => none) := id rfl
@[simp] theorem e_cAppB (fo : EF) (f : EF) (ρ : Ro) (L : Lg) : cAppB fo f ρ L = (match fo ρ L with
  | some (.ob j, L0) => (match L0[j]? with
    | some (.box (.lst _)) => (match f ρ L0 with
      | none => none
      | some (w, L1) => match L1[j]? with
        | some (.box (.lst ws)) => if ws.length < 16777216 then some (.nx ρ (L1.set j (.box (.lst (ws ++ [w]))))) else none
        | _ => none)
    | _ => none)
  | _ => none) := id rfl
@[simp] theorem e_cIns (i : Nat) (g : AF) (ρ : Ro) (L : Lg) : cIns i g ρ L = (match g ρ L with
  | some ([.int k, w], L1) => (match ρ[i]? with
    | some (.ow (.lst ws)) => if ws.length < 16777216 ∧ 0 ≤ k ∧ k < 9223372036854775808 then some (.nx (ρ.set i (.ow (.lst (ws.take k.toNat ++ [w] ++ ws.drop k.toNat)))) L1) else none
    | _ => none)
  | _ => none) := id rfl
@[simp] theorem e_cEqO (c : Str) (d : DF) (fa fb : EF) (ρ : Ro) (L : Lg) : cEqO c d fa fb ρ L = (match fa ρ L with
  | some (.ob i, L1) => (match fb ρ L1 with
    | none => none
    | some (y, L2) => match L2[i]? with
      | some (.ins c' _) => if c' = c ∧ okArg c L2 y = true then (match d [.ob i, y] L2 with
        | some (.bl k, L3) => some (.bl k, L3)
        | _ => none) else none
      | _ => none)
  | _ => none) := id rfl
@[simp] theorem e_cIsC (c : Str) (fa : EF) (ρ : Ro) (L : Lg) : cIsC c fa ρ L = (match fa ρ L with
  | some (.ob j, L1) => (match L1[j]? with
    | some (.ins c' _) => if c' = c then some (.bl true, L1) else none
    | _ => none)
  | some (.str _, L1) => some (.bl false, L1)
  | some (.tup _, L1) => some (.bl false, L1)
  | _ => none) := id rfl
@[simp] theorem strW_i (i : Int) : strW [.int i] = if i.natAbs < 18446744073709551616 then some (.str (toString i)) else none := id rfl
@[simp] theorem intSW_s (s : Str) : intSW [.str s] = (match PySem.intText? s with
  | some n => if s.length ≤ 640 then some (.int n) else none
  | none => none) := id rfl
@[simp] theorem inSW_s (neg : Bool) (a z : Str) : inSW neg (.str a) (.str z) = (match a.cps.toList with
  | [c] => some (.bl (if neg then !decide (c ∈ z.cps.toList) else decide (c ∈ z.cps.toList)))
  | _ => none) := id rfl
@[simp] theorem inW_il (neg : Bool) (i : Int) (ns : List Int) : inW neg (.int i) (.lst (ns.map W.int)) = some (.bl (if neg then !decide (i ∈ ns) else decide (i ∈ ns))) := by
  simp only [inW, memW, intsW_map]
@[simp] theorem inW_it (neg : Bool) (i : Int) (ns : List Int) : inW neg (.int i) (.tup (ns.map W.int)) = some (.bl (if neg then !decide (i ∈ ns) else decide (i ∈ ns))) := by
  simp only [inW, intsW_map]
@[simp] theorem okArg_s (c : Str) (L : Lg) (s : Str) : okArg c L (.str s) = true := id rfl
@[simp] theorem okArg_t (c : Str) (L : Lg) (s : List W) : okArg c L (.tup s) = true := id rfl
@[simp] theorem okArg_o (c : Str) (L : Lg) (j : Nat) : okArg c L (.ob j) = (match L[j]? with
  | some (.ins c' _) => decide (c' = c)
  | _ => false) := id rfl
@[simp] theorem isiW_boolb (b : Bool) : isiW "bool" [.bl b, .ty "bool"] = some (.bl true) := by
  simp only [isiW, tyName, if_pos]; rfl
@[simp] theorem eqW_b (a b : Bool) : eqW (.bl a) (.bl b) = some (.bl (decide (a = b))) := id rfl
@[simp] theorem neW_b (a b : Bool) : neW (.bl a) (.bl b) = some (.bl (!decide (a = b))) := id rfl
@[simp] theorem eqW_s (a b : Str) : eqW (.str a) (.str b) = some (.bl (decide (a = b))) := id rfl
@[simp] theorem neW_s (a b : Str) : neW (.str a) (.str b) = some (.bl (!decide (a = b))) := id rfl
@[simp] theorem shlW_i (i j : Int) : shlW (.int i) (.int j) = if 0 ≤ j ∧ j ≤ 1000000 ∧ i.natAbs < 18446744073709551616 then some (.int (i * 2 ^ j.toNat)) else none := id rfl
@[simp] theorem cont_ob (ρ : Ro) (L : Lg) (j : Nat) : cont ρ L (.val (.ob j)) = (match L[j]? with
  | some (.box m) => some m.fz
  | _ => none) := id rfl
@[simp] theorem truW_str (s : Str) : truW (.str s) = if s.length ≤ 16777216 then some ((s.length : Int) != 0) else none := id rfl
/-- tuples of ints compared -/
theorem toDs_ints : ∀ ns : List Int, toDs (ns.map W.int) = some (ns.map PyData.int)
  | [] => rfl
  | n :: r => by rw [List.map_cons]; simp only [toDs, toD, toDs_ints r]; rfl
theorem eqvAll_ints : ∀ ns ms : List Int, PyData.eqvAll (ns.map PyData.int) (ms.map PyData.int) = decide (ns = ms)
  | [], [] => by simp [PyData.eqvAll]
  | [], _ :: _ => by simp [PyData.eqvAll]
  | _ :: _, [] => by simp [PyData.eqvAll]
  | n :: r, m :: t => by
    simp only [List.map_cons, PyData.eqvAll, PyData.eqv, eqvAll_ints r t]
    rw [Bool.eq_iff_iff]
    simp
theorem canLay_ints : ∀ ns : List Int, PyData.canLayAll0 (ns.map PyData.int) = true
  | [] => rfl
  | n :: r => by simp [PyData.canLayAll0, PyData.canLay0, canLay_ints r]
theorem depthAll_ints : ∀ ns : List Int, PyData.depthAll (ns.map PyData.int) = 0
  | [] => by simp [PyData.depthAll]
  | n :: r => by simp [PyData.depthAll, PyData.depth, depthAll_ints r]
theorem shaped_tints (ns : List Int) : SeqAt.shaped (.tuple (ns.map PyData.int)) = true := by
  unfold SeqAt.shaped
  rw [Bool.and_eq_true, decide_eq_true_eq]
  exact ⟨by simp [PyData.canLay0, canLay_ints], by simp [PyData.depth, depthAll_ints]⟩
theorem shaped_lints (ns : List Int) : SeqAt.shaped (.list (ns.map PyData.int)) = true := by
  unfold SeqAt.shaped
  rw [Bool.and_eq_true, decide_eq_true_eq]
  exact ⟨by simp [PyData.canLay0, canLay_ints], by simp [PyData.depth, depthAll_ints]⟩
theorem eqB_tints (ns ms : List Int) : eqB (.tup (ns.map W.int)) (.tup (ms.map W.int)) = some (decide (ns = ms)) := by
  show eqD _ _ = _
  unfold eqD
  simp only [toD, toDs_ints, shaped_tints, and_self, if_true, PyData.eqv, eqvAll_ints]
@[simp] theorem eqW_tints (ns ms : List Int) : eqW (.tup (ns.map W.int)) (.tup (ms.map W.int)) = some (.bl (decide (ns = ms))) := by unfold eqW; rw [eqB_tints]
@[simp] theorem neW_tints (ns ms : List Int) : neW (.tup (ns.map W.int)) (.tup (ms.map W.int)) = some (.bl (!decide (ns = ms))) := by unfold neW; rw [eqB_tints]
/-- a pair of lists of ints compared -/
theorem eqB_plints (a b c d : List Int) : eqB (.tup [.lst (a.map W.int), .lst (b.map W.int)]) (.tup [.lst (c.map W.int), .lst (d.map W.int)]) = some (decide (a = c ∧ b = d)) := by
  show eqD _ _ = _
  unfold eqD
  have sh : ∀ x y : List Int, SeqAt.shaped (.tuple [.list (x.map PyData.int), .list (y.map PyData.int)]) = true := fun x y => by
    unfold SeqAt.shaped
    rw [Bool.and_eq_true, decide_eq_true_eq]
    exact ⟨by simp [PyData.canLay0, PyData.canLayAll0, canLay_ints], by simp [PyData.depth, PyData.depthAll, depthAll_ints]⟩
  simp only [toD, toDs, toDs_ints, sh, and_self, if_true, PyData.eqv, PyData.eqvAll, eqvAll_ints, Bool.and_true, Option.some.injEq]
  rw [Bool.eq_iff_iff]; simp
theorem eqW_plints (a b c d : List Int) : eqW (.tup [.lst (a.map W.int), .lst (b.map W.int)]) (.tup [.lst (c.map W.int), .lst (d.map W.int)]) = some (.bl (decide (a = c ∧ b = d))) := by unfold eqW; rw [eqB_plints]
theorem lc_filter {α : Type} (f : α → W) (p : α → Bool) (h : α → W) {g : GF} {tt : TF} {te : EF} {ρ : Ro} {L : Lg} : ∀ {xs : List α}, (∀ x ∈ xs, ∃ ρ1, g (f x) ρ = some ρ1 ∧ tt ρ1 L = some (p x, L) ∧ (p x = true → te ρ1 L = some (h x, L))) → lcLoop g tt te ρ (xs.map f) L = some ((xs.filter p).map h, L)
  | [], _ => rfl
  | x :: xs, H => by
    obtain ⟨ρ1, h1, h2, h3⟩ := H x List.mem_cons_self
    have ih := lc_filter f p h (xs := xs) fun y hy => H y (List.mem_cons_of_mem _ hy)
    rw [List.map_cons]
    cases e : p x with
    | true =>
      rw [e] at h2
      simp only [lcLoop, h1, h2, h3 e, ih, List.filter_cons, e, if_true, List.map_cons]
    | false =>
      rw [e] at h2
      simp only [lcLoop, h1, h2, ih, List.filter_cons, e, Bool.false_eq_true, if_false]
theorem seq_none {f g : SF} {ρ : Ro} {L : Lg} (h : f ρ L = none) : cSeq f g ρ L = none := by rw [e_cSeq, h]
end Lf

set_option maxHeartbeats 4000000
/-! Lf, part N: texts as lists of signs. -/
namespace Lf
open PySem PySem.Spec PyProof.Rows L2
def mk (l : List Nat) : Str := ⟨l.toArray⟩
@[simp] theorem mk_len (l : List Nat) : (mk l).length = l.length := by unfold mk Str.length; simp
@[simp] theorem mk_cps (l : List Nat) : (mk l).cps.toList = l := by unfold mk; simp
theorem mk_app (a b : List Nat) : mk a ++ mk b = mk (a ++ b) := by
  show Str.append (mk a) (mk b) = _
  unfold mk Str.append
  simp
theorem mk_inj {a b : List Nat} (h : mk a = mk b) : a = b := by rw [← mk_cps a, h, mk_cps]
theorem mk_of (s : Str) : mk s.cps.toList = s := by cases s with | mk c => unfold mk; simp
@[simp] theorem mk_eq {a b : List Nat} : (mk a = mk b) ↔ a = b := ⟨mk_inj, fun h => by rw [h]⟩
theorem mk_one (c : Nat) : mk [c] = ⟨#[c]⟩ := rfl
theorem signs_mk (l : List Nat) : signsW (mk l) = l.map fun c => W.str (mk [c]) := by unfold signsW; rw [mk_cps]; rfl
theorem cutS_tail (c : Nat) (l : List Nat) : cutS (mk (c :: l)) (some 1) none = mk l := by
  unfold cutS
  rw [mk_len, mk_cps]
  have h1 : HT.sIx (c :: l).length 0 (some 1) = 1 := by
    have := HT.sIx_nat (c :: l).length 0 1
    simp at this ⊢
    rw [this]
  rw [h1, HT.sIx_none]
  simp [mk]
theorem starts_one (c : Nat) (l : List Nat) : Txt.startswith (mk (c :: l)) (mk [c]) = true := by
  unfold Txt.startswith
  rw [Bool.and_eq_true, decide_eq_true_eq]
  refine ⟨by rw [mk_len, mk_len]; simp, ?_⟩
  unfold Builtin.Str.subAt
  rw [mk_len, beq_iff_eq]
  apply Array.toList_inj.mp
  simp [mk]
@[simp] theorem slW_s (s : Str) (l u : Option Int) : slW (.str s) l u = if s.length ≤ 16777216 then some (.str (cutS s l u)) else none := id rfl
/-- one separator: two parts -/
theorem cut_uniq {x : Nat} : ∀ {a b c d : List Nat}, a ++ x :: b = c ++ x :: d → x ∉ a → x ∉ c → a = c ∧ b = d
  | [], b, [], d, h, _, _ => by simp at h; exact ⟨rfl, h⟩
  | [], b, y :: c, d, h, _, h2 => by
    simp at h
    exact absurd (by rw [h.1]; exact List.mem_cons_self) h2
  | y :: a, b, [], d, h, h1, _ => by
    simp at h
    exact absurd (by rw [h.1]; exact List.mem_cons_self) h1
  | y :: a, b, z :: c, d, h, h1, h2 => by
    simp only [List.cons_append, List.cons.injEq] at h
    obtain ⟨e1, e2⟩ := cut_uniq h.2 (fun m => h1 (List.mem_cons_of_mem _ m)) fun m => h2 (List.mem_cons_of_mem _ m)
    exact ⟨by rw [h.1, e1], e2⟩
theorem split_two {x : Nat} {a b : List Nat} (ha : x ∉ a) (hb : x ∉ b) : Txt.split (mk (a ++ x :: b)) (mk [x]) = [mk a, mk b] := by
  have l1 := split_len (mk (a ++ x :: b)) x
  rw [mk_cps, cnt_append, cnt_cons, cnt_none x a ha, cnt_none x b hb, if_pos rfl] at l1
  have f := StrLaws.split_free (mk (a ++ x :: b)) x
  have j := StrLaws.join_split (mk (a ++ x :: b)) (mk [x])
  rw [mk_one] at j ⊢
  generalize Txt.split (mk (a ++ x :: b)) ⟨#[x]⟩ = ps at l1 f j
  match ps, l1 with
  | [p, q], _ =>
    have fp := f p (by simp)
    have j' : p ++ mk [x] ++ q = mk (a ++ x :: b) := j
    rw [← mk_of p, ← mk_of q, mk_app, mk_app] at j'
    have j2 := mk_inj j'
    simp only [List.append_assoc, List.singleton_append] at j2
    obtain ⟨e1, e2⟩ := cut_uniq j2 fp ha
    rw [← mk_of p, ← mk_of q, e1, e2]
  | [], h => exact absurd h (by simp; try omega)
  | [_], h => exact absurd h (by simp; try omega)
  | _ :: _ :: _ :: _, h => exact absurd h (by simp; try omega)
/-- signs joined -/
theorem join_mk (l : List Nat) : Txt.join (mk []) (l.map fun c => mk [c]) = mk l := by
  have := PyProof.Rows.join_ones l
  unfold Txt.join
  rw [StrLaws.glued_eq_join]
  exact this
theorem sum_ones (l : List Nat) : ((l.map fun c => mk [c]).map fun y => y.length).sum = l.length := by
  induction l with
  | nil => rfl
  | cons c r ih =>
    simp only [List.map_cons, List.sum_cons, ih, mk_len, List.length_cons, List.length_nil]
    omega
theorem atI_end {α : Type} (xs : List α) (x : α) : atI (xs ++ [x]) (-1) = some x := by
  unfold atI ixN
  simp
  rw [if_pos (by omega)]
  show (xs ++ [x])[(-1 + ((xs.length : Int) + 1)).toNat]? = some x
  rw [show (-1 + ((xs.length : Int) + 1)).toNat = xs.length by omega]
  simp
end Lf

set_option maxHeartbeats 4000000
/-! Lf, part O: enumerate of a list, of a text. -/
namespace L2
open PySem PySem.Spec PyProof.Rows
/-- enumerate(a text): each sign in a new pair -/
def ItS (x : Str) : It := ⟨fun i _ => i < x.cps.size, fun i H v H' => ∃ T c, v = .ref T ∧ H T = none ∧ H' = upd H T (.tup [.int (i : Nat), .str ⟨#[c]⟩]) ∧ x.cps[i]? = some c, fun i _ => x.cps.size ≤ i⟩
def EnS (e it : Addr) (ty : String) (x : Str) (t : Tok) (i : Nat) (h : Heap) : Prop := (∃ old, IsEnum h e it ((i : Nat) : Int) old) ∧ h.IsStrIter it ty x t i ∧ e ≠ it ∧ i ≤ x.cps.size
theorem turn_enS {P : Program} {w : World} {K : PySem.W.Frag} {elts : List Expr} {kk : Nat} {tp : Pos} (e it : Addr) (x : Str) (t : Tok) (ty : String) (hty : ty = "str_ascii_iterator" ∨ ty = "str_iterator") :
    Turn P w K (.Tuple elts kk tp) (ItS x) [e, it] e (EnS e it ty x t) where
  mem := by simp
  obj := fun i h st b hb => by
    obtain ⟨⟨old, g⟩, ⟨o, g1, g2, g3⟩, _⟩ := st
    rcases (show b = e ∨ b = it by simpa using hb) with rfl | rfl
    · exact ⟨_, g, fun v q => nomatch q⟩
    · exact ⟨o, g1, fun v q => by rw [g3] at q; cases q⟩
  keep := fun i h h' st k => by
    obtain ⟨⟨old, g⟩, ⟨o, g1, r⟩, n, l⟩ := st
    exact ⟨⟨old, k e (by simp) _ g⟩, ⟨o, k it (by simp) o g1, r⟩, n, l⟩
  item := by
    intro X hP hw hK hc i pins s σ H E I hf st go
    subst hP hw hK
    obtain ⟨⟨old, g⟩, gi, hne, _⟩ := st
    have go' : i < x.cps.size := go
    have h1 : X.A.in1.handled = none := by have := I.ok.hd hc; simp [this]
    have D : Draws X.prog X.w X.A.in1 it [it] x.cps.size (fun i v => ∃ c u, x.cps[i]? = some c ∧ v = .str ⟨#[c]⟩ u) (fun i h => h.IsStrIter it ty x t i) := by
      rcases hty with z | z
      · rw [z]; exact Draws.strAscii h1 it x t
      · rw [z]; exact Draws.strWide h1 it x t
    have le : e < s.heap.objs.size := Heap.lt_size g
    have li : it < s.heap.objs.size := by obtain ⟨_, q, _⟩ := gi; exact Heap.lt_size q
    refine wpAny_pyNext_enum_itemD D g gi go' hne (by simp [hne]) fun v h' tk pv ho gi' hT hsz hk => ?_
    obtain ⟨c, u, hcx, rfl⟩ := pv
    refine ⟨_, rfl, wpAny_letOwnedTupleGo_enum (s := { s with heap := h', toks := tk + 1 }) ho fun h2 g' sb => ?_⟩
    have T2 : h2.get? s.heap.objs.size = some { cls := .type "tuple", data := .seq #[.int i tk, .str ⟨#[c]⟩ u] } := (sb.2 _ (Nat.ne_of_gt le)).trans hT
    have new : ObjOk X.prog X.w (upd H s.heap.objs.size (.tup [.int (i : Nat), .str ⟨#[c]⟩])) h2 s.heap.objs.size (.tup [.int (i : Nat), .str ⟨#[c]⟩]) :=
      ⟨by show 2 ≤ sizeLine; decide, [.int i tk, .str ⟨#[c]⟩ u], .cons ⟨_, rfl⟩ (.cons ⟨_, rfl⟩ .nil), ⟨_, T2, rfl, _, rfl⟩⟩
    have J : Inv X pins σ (upd H s.heap.objs.size (.tup [.int (i : Nat), .str ⟨#[c]⟩])) { s with heap := h2, toks := tk + 1 } :=
      I.turnedNew (ch := [e, it]) (fun b ob hb q => (sb.2 b (fun z => hb (by simp [z]))).trans (hk b ob (fun z => hb (by simp [z])) (fun z => hb (by simp [z])) q)) hf (Nat.le_refl _) new
    refine ⟨.ref s.heap.objs.size, _, J, rfl, ⟨_, c, rfl, I.hok.fresh (Nat.le_refl _), rfl, hcx⟩, ⟨⟨.str ⟨#[c]⟩ u, ?_⟩, ?_, hne, go'⟩, fun b hb => ?_⟩
    · rw [show ((i + 1 : Nat) : Int) = (i : Int) + 1 by omega]; exact g'
    · obtain ⟨o, q, r⟩ := gi'
      exact ⟨o, (sb.2 it (Ne.symm hne)).trans q, r⟩
    · have lb : b < s.heap.objs.size := by
        rcases (show b = e ∨ b = it by simpa using hb) with rfl | rfl
        · exact le
        · exact li
      rw [upd_ne (Nat.ne_of_lt lb)]
      exact (hf b hb).1
  done := by
    intro X hP hw hK hc i pins s σ H E I hf st go
    subst hP hw hK
    obtain ⟨⟨old, g⟩, gi, hne, hle⟩ := st
    have go' : x.cps.size ≤ i := go
    have ei : i = x.cps.size := Nat.le_antisymm hle go'
    have h1 : X.A.in1.handled = none := by have := I.ok.hd hc; simp [this]
    have D : Draws X.prog X.w X.A.in1 it [it] x.cps.size (fun i v => ∃ c u, x.cps[i]? = some c ∧ v = .str ⟨#[c]⟩ u) (fun i h => h.IsStrIter it ty x t i) := by
      rcases hty with z | z
      · rw [z]; exact Draws.strAscii h1 it x t
      · rw [z]; exact Draws.strWide h1 it x t
    obtain ⟨f0, f1, f2, f3, f4, f5⟩ := hf it (by simp)
    exact wpAny_pyNext_enum_endD D g (ei ▸ gi) fun h' eb => ⟨rfl, I.turned (t' := s.toks) (fun b o hb q => eb b o hb q) f0 f1 f3 f4 f5⟩
  self := fun A i s Q E st h => by
    obtain ⟨⟨_, g⟩, _⟩ := st
    exact wpAny_pyIter_enum g h
def iEnS (ta : TA) : TI := fun σ H R => ta σ H fun vs H1 => ∃ x, vs = [.str x] ∧ R (ItS x) H1
theorem pi_enS {X : Cx} {e : Expr} {ta : TA} {p pos tp : Pos} {elts : List Expr} {kk : Nat} (hg : Gl X "enumerate") (hm : X.mg "enumerate" = none) (ha : PA X [e] ta) (hs : starEach [e] X.env = [(false, eval e X.env)] := by rfl) :
    PI X (.Tuple elts kk tp) (.Call (.Name "enumerate" p) [e] [] pos) (iEnS ta) := by
  refine ⟨fun pins s σ H R I h => ?_⟩
  refine Call_ (ld_blt I hg hm boot_enumerate (PyProof.Rows.callWith_type1 (thn (ha.run pos pins s σ H _ I h) fun us s1 ⟨vs, H1, I1, r1, q1⟩ => ?_) hs rfl))
  obtain ⟨x, rfl, q⟩ := q1
  cases r1 with
  | cons r rr =>
    cases rr
    obtain ⟨t, rfl⟩ := r
    have two : strIterType x = "str_ascii_iterator" ∨ strIterType x = "str_iterator" := by
      unfold strIterType
      split
      · exact .inl rfl
      · exact .inr rfl
    refine call_enumerate_str fun h' g gi hz hk => wpAny_pyIter_enum g ?_
    have J : Inv X pins σ H1 { s1 with heap := h' } := I1.kept (t' := s1.toks) hk
    refine ⟨s1.heap.objs.size + 1, [s1.heap.objs.size + 1, s1.heap.objs.size], _, _, H1, rfl, J, turn_enS (s1.heap.objs.size + 1) s1.heap.objs.size x t _ two, ⟨⟨.none, g⟩, gi, Nat.succ_ne_self _, Nat.zero_le _⟩, fun b hb => ?_, q⟩
    have le : s1.heap.objs.size ≤ b := by
      rcases (show b = s1.heap.objs.size + 1 ∨ b = s1.heap.objs.size by simpa using hb) with rfl | rfl
      · exact Nat.le_add_right _ _
      · exact Nat.le_refl _
    exact I1.fpOk le (I1.hok.fresh le)
end L2
namespace Lf
open PySem PySem.Spec PyProof.Rows L2
section
variable {X : Cx} {e : Expr} {pos : Pos}
def pairsW (xs : List W) : List W := xs.mapIdx fun i x => .tup [.int (i : Nat), x]
theorem pairsW_at {xs : List W} {i : Nat} {y : W} (h : (pairsW xs)[i]? = some y) : ∃ x, xs[i]? = some x ∧ y = .tup [.int (i : Nat), x] := by
  unfold pairsW at h
  rw [List.getElem?_mapIdx] at h
  cases q : xs[i]? with
  | none => rw [q] at h; cases h
  | some x => rw [q] at h; cases h; exact ⟨x, rfl, rfl⟩
theorem itok_en {K : PySem.W.Frag} {mg : Str → Option Value} {F : Hp} {φ : List Addr} {a : Addr} {xs : List W} {vs : List V} (h : F a = some (.lst vs)) (r : Rs K F φ xs vs) : ItOk K mg F φ (Ite K a) (pairsW xs) := by
  intro Z F1 φ1 L1 H1 i s p hs
  have hq : SqL K H1 a vs := SqL.of (hs.sub _ _ (s _ _ h))
  refine ⟨fun y hy => ?_, fun hl => ⟨vs, hq, by rw [← r.length]; unfold pairsW at hl; simpa using hl⟩⟩
  obtain ⟨x, hx, rfl⟩ := pairsW_at hy
  obtain ⟨v, h1, h2⟩ := r.get hx
  refine ⟨⟨vs, v, hq, h1⟩, fun u H2 z => ?_⟩
  obtain ⟨T, v', rfl, hT, rfl, hv⟩ := z
  have := hv vs hq
  rw [h1] at this; cases this
  obtain ⟨k1, k2⟩ := hs.fresh_frozen (o := .tup [.int (i : Nat), v]) hT
  exact ⟨_, k2, k1, .tup upd_same (.cons (.int _) (.cons ((h2.mono s p).mono k2 (List.prefix_refl φ1)) .nil))⟩
theorem itok_enS {K : PySem.W.Frag} {mg : Str → Option Value} {F : Hp} {φ : List Addr} (s : Str) : ItOk K mg F φ (ItS s) (pairsW (signsW s)) := by
  intro Z F1 φ1 L1 H1 i sb p hs
  refine ⟨fun y hy => ?_, fun hl => by
    show s.cps.size ≤ i
    unfold pairsW signsW at hl
    simpa using hl⟩
  obtain ⟨x, hx, rfl⟩ := pairsW_at hy
  unfold signsW at hx
  rw [List.getElem?_map] at hx
  cases q : s.cps.toList[i]? with
  | none => rw [q] at hx; cases hx
  | some c =>
    rw [q] at hx
    cases hx
    have q' : s.cps[i]? = some c := by rw [← Array.getElem?_toList]; exact q
    refine ⟨(Array.getElem?_eq_some_iff.mp q').1, fun v H2 z => ?_⟩
    obtain ⟨T, c', rfl, hT, rfl, hc⟩ := z
    rw [q'] at hc; cases hc
    obtain ⟨k1, k2⟩ := hs.fresh_frozen (o := .tup [.int (i : Nat), .str ⟨#[c]⟩]) hT
    exact ⟨_, k2, k1, .tup upd_same (.cons (.int _) (.cons (.str _) .nil))⟩
def sEn (f : EF) : AF := fun ρ L => match f ρ L with
  | some (.lst xs, L') => some (pairsW xs, L')
  | _ => none
def sEnS (f : EF) : AF := fun ρ L => match f ρ L with
  | some (.str s, L') => some (pairsW (signsW s), L')
  | _ => none
theorem ii_enum {f : EF} {elts : List Expr} {kk : Nat} {tp p : Pos} (hg : Gl X "enumerate") (hm : X.mg "enumerate" = none) (h : IE X e f) (hs0 : starEach [e] X.env = (false, eval e X.env) :: starEach [] X.env := by rfl) (hs9 : starEach [e] X.env = [(false, eval e X.env)] := by rfl) : II X (.Tuple elts kk tp) (.Call (.Name "enumerate" p) [e] [] pos) (sEn f) := by
  refine ⟨fun {Zx Z F φ L ρ σ H xs L'} hs ss h' Q q => PI.wp (pi_enum hg hm (pa_cons wpE pa_nil hs0) hs9) ?_⟩
  unfold sEn at h'
  split at h'
  · rename_i ys L2 e1
    simp only [Option.some.injEq, Prod.mk.injEq] at h'
    obtain ⟨rfl, rfl⟩ := h'
    refine h.run hs ss e1 _ fun F1 φ1 H1 v s1 p1 hs1 r1 => ?_
    cases r1 with
    | lst g1 g2 => exact ⟨_, _, rfl, SqL.of (hs1.sub _ _ g1), q F1 φ1 H1 _ s1 p1 hs1 (itok_en g1 g2)⟩
  · cases h'
theorem ii_enumS {f : EF} {elts : List Expr} {kk : Nat} {tp p : Pos} (hg : Gl X "enumerate") (hm : X.mg "enumerate" = none) (h : IE X e f) (hs0 : starEach [e] X.env = (false, eval e X.env) :: starEach [] X.env := by rfl) (hs9 : starEach [e] X.env = [(false, eval e X.env)] := by rfl) : II X (.Tuple elts kk tp) (.Call (.Name "enumerate" p) [e] [] pos) (sEnS f) := by
  refine ⟨fun {Zx Z F φ L ρ σ H xs L'} hs ss h' Q q => PI.wp (pi_enS hg hm (pa_cons wpE pa_nil hs0) hs9) ?_⟩
  unfold sEnS at h'
  split at h'
  · rename_i s L2 e1
    simp only [Option.some.injEq, Prod.mk.injEq] at h'
    obtain ⟨rfl, rfl⟩ := h'
    refine h.run hs ss e1 _ fun F1 φ1 H1 v s1 p1 hs1 r1 => ?_
    cases r1
    exact ⟨s, rfl, q F1 φ1 H1 _ s1 p1 hs1 (itok_enS s)⟩
  · cases h'
end
end Lf

set_option maxHeartbeats 4000000
/-! Lf, part P: boxes made of a name's own thing, boxes frozen, dicts in boxes changed. -/
namespace Lf
open PySem PySem.Spec PyProof.Rows L2
section
variable {K : PySem.W.Frag} {mg : Str → Option Value} {Zx Z F : Hp} {φ : List Addr} {L : Lg} {H : Hp} {ρ : Ro} {σ : L2.St}
/-- a slot's own thing becomes a box -/
theorem Ss.boxed {i : Nat} {m : M} (hs : Hs K mg Z F φ L H) (h : Ss K Zx Z F φ ρ σ) (e : ρ[i]? = some (.ow m)) :
    ∃ Z' p, Hs K mg Z' F (φ ++ [p]) (L ++ [.box m]) H ∧ Ss K Zx Z' F (φ ++ [p]) (ρ.set i (.va (.ob L.length))) σ := by
  have hi : i < ρ.length := (List.getElem?_eq_some_iff.mp e).1
  obtain ⟨p, o, h1, h2, h3, h4⟩ := h.ow i m e
  let Z' : Hp := fun b => if b = p then none else Z b
  have zp : Z' p = none := by show (if p = p then none else Z p) = none; rw [if_pos rfl]
  have zn : ∀ b, b ≠ p → Z' b = Z b := fun b q => by show (if b = p then none else Z b) = Z b; rw [if_neg q]
  have hz : Z = upd Z' p o := by
    funext b
    by_cases q : b = p
    · subst q; rw [upd_same]; exact h2
    · rw [upd_ne q, zn b q]
  have hs' : Hs K mg (upd Z' p o) F φ L H := by rw [← hz]; exact hs
  have pf : φ <+: φ ++ [p] := List.prefix_append _ _
  refine ⟨Z', p, hs'.box zp h4, ?_⟩
  have at' : (φ ++ [p])[L.length]? = some p := by rw [← hs.len, List.getElem?_append_right (Nat.le_refl _)]; simp
  refine ⟨by simp [h.len], fun j w' e' => ?_, fun j m2 e' => ?_, fun j k m1 m2 a e1 e2 e3 e4 => ?_, fun a u e' => ?_⟩
  · by_cases q : i = j
    · subst q; rw [List.getElem?_set_self hi] at e'; cases e'
      exact ⟨_, h1, .ob at'⟩
    · rw [List.getElem?_set_ne q] at e'
      obtain ⟨v, g1, g2⟩ := h.va j w' e'
      exact ⟨v, g1, g2.mono (Sub.refl F) pf⟩
  · by_cases q : i = j
    · subst q; rw [List.getElem?_set_self hi] at e'; cases e'
    · rw [List.getElem?_set_ne q] at e'
      obtain ⟨b, u', g1, g2, g3, g4⟩ := h.ow j m2 e'
      have : b ≠ p := fun z => by subst z; exact q (h.sep i j m m2 _ e e' h1 g1)
      exact ⟨b, u', g1, by rw [zn b this]; exact g2, g3, g4.mono (Sub.refl F) pf⟩
  · by_cases q : i = j
    · subst q; rw [List.getElem?_set_self hi] at e1; cases e1
    · by_cases q' : i = k
      · subst q'; rw [List.getElem?_set_self hi] at e2; cases e2
      · rw [List.getElem?_set_ne q] at e1
        rw [List.getElem?_set_ne q'] at e2
        exact h.sep j k m1 m2 a e1 e2 e3 e4
  · rw [zn a (fun z => by subst z; rw [h3] at e'; cases e')]; exact h.out a u e'
/-- a box is frozen -/
theorem Hs.frzB {j : Nat} {a : Addr} {m : M} (h : Hs K mg Z F φ L H) (hL : L[j]? = some (.box m)) (ha : φ[j]? = some a) : ∃ F', Sub F F' ∧ Hs K mg Z F' φ (L.set j .dead) H ∧ R K F' φ m.fz (.ref a) := by
  obtain ⟨nF, o, hH, mk⟩ := h.objs _ _ _ hL ha
  have am : a ∈ φ := List.mem_of_getElem? ha
  have sb : Sub F (upd F a o) := Sub.new nF
  refine ⟨upd F a o, sb, ⟨fun b u e => ?_, fun b u e => ?_, by rw [List.length_set]; exact h.len, h.nd, h.has, fun i u b e1 e2 => ?_⟩, (mk.mono sb (List.prefix_refl φ)).fz upd_same⟩
  · by_cases q : b = a
    · subst q; rw [upd_same] at e; cases e; exact hH
    · rw [upd_ne q] at e; exact h.sub b u e
  · obtain ⟨g1, g2, g3, g4⟩ := h.ext b u e
    have q : b ≠ a := fun q => g3 (q ▸ am)
    exact ⟨g1, by rw [upd_ne q]; exact g2, g3, g4⟩
  · by_cases q : j = i
    · subst q
      rw [List.getElem?_set_self (List.getElem?_eq_some_iff.mp hL).1] at e1
      cases e1
      exact True.intro
    · rw [List.getElem?_set_ne q] at e1
      have qb : b ≠ a := fun z => by
        subst z
        exact q ((List.getElem?_inj (List.getElem?_eq_some_iff.mp ha).1 h.nd).mp (ha.trans e2.symm))
      exact (h.objs i u b e1 e2).mono sb (List.prefix_refl φ) (fun z => by rw [upd_ne qb]; exact z) fun u e => e
/-- the same object, better known -/
theorem Ss.reva {i : Nat} {w : W} {v : V} (h : Ss K Zx Z F φ ρ σ) (hi : ∃ w0, ρ[i]? = some (.va w0)) (hv : σ[i]? = some (some v)) (r : R K F φ w v) : Ss K Zx Z F φ (ρ.set i (.va w)) σ := by
  obtain ⟨w0, e0⟩ := hi
  have hl : i < ρ.length := (List.getElem?_eq_some_iff.mp e0).1
  refine ⟨by simp [h.len], fun j w' e' => ?_, fun j m2 e' => ?_, fun j k m1 m2 a e1 e2 e3 e4 => ?_, h.out⟩
  · by_cases q : i = j
    · subst q; rw [List.getElem?_set_self hl] at e'; cases e'
      exact ⟨v, hv, r⟩
    · rw [List.getElem?_set_ne q] at e'
      exact h.va j w' e'
  · by_cases q : i = j
    · subst q; rw [List.getElem?_set_self hl] at e'; cases e'
    · rw [List.getElem?_set_ne q] at e'
      exact h.ow j m2 e'
  · by_cases q : i = j
    · subst q; rw [List.getElem?_set_self hl] at e1; cases e1
    · by_cases q' : i = k
      · subst q'; rw [List.getElem?_set_self hl] at e2; cases e2
      · rw [List.getElem?_set_ne q] at e1
        rw [List.getElem?_set_ne q'] at e2
        exact h.sep j k m1 m2 a e1 e2 e3 e4
end
section
variable {X : Cx} {st : Stmt} {tg e a b c o : Expr} {es : List Expr} {pos : Pos}
/-- ghosts ahead of a statement -/
def cBx (i : Nat) (f : SF) : SF := fun ρ L => match ρ[i]? with
  | some (.ow m) => f (ρ.set i (.va (.ob L.length))) (L ++ [.box m])
  | _ => f ρ L
theorem IS.bx {f : SF} (i : Nat) (h : IS X st f) : IS X st (cBx i f) := by
  refine ⟨fun {Zx Z F φ L ρ σ H o} hs ss h' D q => ?_⟩
  unfold cBx at h'
  split at h'
  · rename_i m e1
    obtain ⟨Z', p, hs1, ss1⟩ := ss.boxed hs e1
    exact h.run hs1 ss1 h' D (q.step (Sub.refl F) (List.prefix_append _ _))
  · exact h.run hs ss h' D q
def cFrB (i : Nat) (f : SF) : SF := fun ρ L => match ρ[i]? with
  | some (.va (.ob j)) => (match L[j]? with
    | some (.box m) => f (ρ.set i (.va m.fz)) (L.set j .dead)
    | _ => f ρ L)
  | _ => f ρ L
theorem IS.frB {f : SF} (i : Nat) (h : IS X st f) : IS X st (cFrB i f) := by
  refine ⟨fun {Zx Z F φ L ρ σ H o} hs ss h' D q => ?_⟩
  unfold cFrB at h'
  split at h'
  · rename_i j e1
    split at h'
    · rename_i m e2
      obtain ⟨v, h1, h2⟩ := ss.va i _ e1
      cases h2 with
      | ob hj =>
        obtain ⟨F', s1, hs1, r1⟩ := hs.frzB e2 hj
        exact h.run hs1 ((ss.mono s1 (List.prefix_refl φ)).reva ⟨_, e1⟩ h1 r1) h' D (q.step s1 (List.prefix_refl φ))
    · exact h.run hs ss h' D q
  · exact h.run hs ss h' D q
/-- d[k] = v, d in a box -/
def cPutB (i : Nat) (fk fv : EF) : SF := fun ρ L => match fv ρ L with
  | none => none
  | some (w, L1) => match fk ρ L1 with
    | none => none
    | some (k, L2) => match ρ[i]? with
      | some (.va (.ob j)) => (match L2[j]? with
        | some (.box (.lst _)) => none
        | some (.box m) => (match putM m k w with
          | some m' => some (.nx ρ (L2.set j (.box m')))
          | none => none)
        | _ => none)
      | _ => none
theorem is_putB (i : Nat) {x : Str} {px pos' : Pos} {fk fv : EF} (hu : X.A.units + 1 < cLine) (hk : IE X b fk) (hv' : IE X c fv) (hN : X.N[i]? = some x := by rfl) (hv : Vis X.env.scope x := by first | exact Or.inl rfl | exact Or.inr (Or.inl rfl) | exact Or.inr (Or.inr rfl)) (hd : (x == ("__debug__" : Str)) = false := by decide)
    (hcd : (x == ("__classdict__" : Str)) = false := by decide) (hs' : swapsWith c (some (.Subscript (.Name x px) b pos')) pos.line X.env = pure false := by rfl) :
    IS X (.Assign [.Subscript (.Name x px) b pos'] c pos) (cPutB i fk fv) := by
  refine ⟨fun {Zx Z F φ L ρ σ H o} hs ss h D q => PS.wp (ps_dput hu (pe_var hN hv hd hcd) wpE wpE hs') ?_⟩
  unfold cPutB at h
  split at h
  · cases h
  rename_i w L1 e1
  split at h
  · cases h
  rename_i k L2 e2
  split at h
  · rename_i j e3
    split at h
    · cases h
    · rename_i m nl e4
      split at h
      · rename_i m' e5
        simp only [Option.some.injEq] at h
        subst h
        obtain ⟨v, h1, h2⟩ := ss.va i _ e3
        cases h2 with
        | ob hj =>
          refine hv'.run hs ss e1 _ fun F1 φ1 H1 vw s1 p1 hs1 r1 => ?_
          refine ⟨_, h1, ?_⟩
          refine hk.run hs1 (ss.mono s1 p1) e2 _ fun F2 φ2 H2 vk s2 p2 hs2 r2 => ?_
          have hj2 := pre_get p2 (pre_get p1 hj)
          obtain ⟨nF, o2, g1, g2⟩ := hs2.objs _ _ _ e4 hj2
          obtain ⟨o', k1, k2⟩ := putM_rel hs2.sub g1 g2 r2 (r1.mono s2 p2) (fun xs z => nl xs z) e5
          refine ⟨_, _, rfl, k1, ?_⟩
          refine q Z F2 φ2 σ _ (s1.trans s2) (List.IsPrefix.trans p1 p2) (hs2.setOb (List.getElem?_eq_some_iff.mp e4).1 hj2 nF k2.nt ?_) (ss.mono (s1.trans s2) (List.IsPrefix.trans p1 p2))
          exact ⟨nF, _, upd_same, k2⟩
      · cases h
    · cases h
  · cases h
end
@[simp] theorem e_sEn (f : EF) (ρ : Ro) (L : Lg) : sEn f ρ L = (match f ρ L with
  | some (.lst xs, L') => some (pairsW xs, L')
  | _ => none) := id rfl
@[simp] theorem e_sEnS (f : EF) (ρ : Ro) (L : Lg) : sEnS f ρ L = (match f ρ L with
  | some (.str s, L') => some (pairsW (signsW s), L')
  | _ => none) := id rfl
@[simp] theorem e_cBx (i : Nat) (f : SF) (ρ : Ro) (L : Lg) : cBx i f ρ L = (match ρ[i]? with
  | some (.ow m) => f (ρ.set i (.va (.ob L.length))) (L ++ [.box m])
  | _ => f ρ L) := id rfl
@[simp] theorem e_cFrB (i : Nat) (f : SF) (ρ : Ro) (L : Lg) : cFrB i f ρ L = (match ρ[i]? with
  | some (.va (.ob j)) => (match L[j]? with
    | some (.box m) => f (ρ.set i (.va m.fz)) (L.set j .dead)
    | _ => f ρ L)
  | _ => f ρ L) := id rfl
@[simp] theorem e_cPutB (i : Nat) (fk fv : EF) (ρ : Ro) (L : Lg) : cPutB i fk fv ρ L = (match fv ρ L with
  | none => none
  | some (w, L1) => match fk ρ L1 with
    | none => none
    | some (k, L2) => match ρ[i]? with
      | some (.va (.ob j)) => (match L2[j]? with
        | some (.box (.lst _)) => none
        | some (.box m) => (match putM m k w with
          | some m' => some (.nx ρ (L2.set j (.box m')))
          | none => none)
        | _ => none)
      | _ => none) := id rfl
end Lf

set_option maxHeartbeats 4000000
/-! Lf, part Q: dicts by cells as lists of pairs; loops with an invariant, loops that end early. -/
namespace Lf
open PySem PySem.Spec PyProof.Rows L2
section
variable {α : Type} (e : α → W)
def cD (kvs : List (Cell × α)) : List (List Key × W) := kvs.map fun p => (tkC p.1, e p.2)
def lkC (kvs : List (Cell × α)) (c : Cell) : Option α := (kvs.find? fun kv => decide (kv.1 = c)).map (·.2)
def putC (kvs : List (Cell × α)) (c : Cell) (v : α) : List (Cell × α) := if c ∈ kvs.map Prod.fst then kvs.map (fun kv => if kv.1 = c then (kv.1, v) else kv) else kvs ++ [(c, v)]
@[simp] theorem cD_len (kvs : List (Cell × α)) : (cD e kvs).length = kvs.length := by unfold cD; simp
theorem look_cD (c : Cell) : ∀ kvs : List (Cell × α), lookD (cD e kvs) (tkC c) = (lkC kvs c).map e
  | [] => rfl
  | p :: r => by
    have ih := look_cD c r
    unfold lookD lkC cD at *
    rw [List.map_cons, List.find?_cons, List.find?_cons]
    by_cases h : p.1 = c
    · simp [h]
    · have : ¬ tkC p.1 = tkC c := fun z => h (tkC_inj z)
      simp only [h, this, decide_false]
      exact ih
theorem any_cD (c : Cell) (kvs : List (Cell × α)) : ((cD e kvs).any fun kv => decide (kv.1 = tkC c)) = decide (c ∈ kvs.map Prod.fst) := by
  rw [Bool.eq_iff_iff, List.any_eq_true, decide_eq_true_eq]
  constructor
  · rintro ⟨kv, h1, h2⟩
    obtain ⟨p, hp, rfl⟩ := List.mem_map.mp h1
    rw [← tkC_inj (of_decide_eq_true h2)]
    exact List.mem_map.mpr ⟨p, hp, rfl⟩
  · intro h
    obtain ⟨p, hp, rfl⟩ := List.mem_map.mp h
    exact ⟨(tkC p.1, e p.2), List.mem_map.mpr ⟨p, hp, rfl⟩, by simp⟩
theorem put_cD (c : Cell) (v : α) (kvs : List (Cell × α)) : putD (cD e kvs) (tkC c) (e v) = cD e (putC kvs c v) := by
  unfold putD putC
  rw [any_cD]
  by_cases h : c ∈ kvs.map Prod.fst
  · simp only [h, decide_true, if_true]
    unfold cD
    rw [List.map_map, List.map_map]
    apply List.map_congr_left
    intro p _
    show (if tkC p.1 = tkC c then (tkC p.1, e v) else (tkC p.1, e p.2)) = (tkC (if p.1 = c then (p.1, v) else p).1, e (if p.1 = c then (p.1, v) else p).2)
    by_cases q : p.1 = c
    · rw [if_pos (by rw [q]), if_pos q]
    · rw [if_neg (fun z => q (tkC_inj z)), if_neg q]
  · simp only [h, decide_false, if_false, Bool.false_eq_true]
    unfold cD
    rw [List.map_append]; rfl
theorem lk_put (c d : Cell) (v : α) (kvs : List (Cell × α)) : lkC (putC kvs c v) d = if d = c then some v else lkC kvs d := by
  unfold putC
  split
  · rename_i h
    induction kvs with
    | nil => simp at h
    | cons p r ih =>
      unfold lkC at *
      rw [List.map_cons, List.find?_cons, List.find?_cons]
      by_cases q : p.1 = c
      · rw [if_pos q]
        by_cases z : d = c
        · subst z; simp [q]
        · have z1 : ¬ p.1 = d := fun y => z (by rw [← y, q])
          simp only [z1, decide_false, if_neg z]
          by_cases m : c ∈ r.map Prod.fst
          · rw [ih m, if_neg z]
          · have : r.map (fun kv => if kv.1 = c then (kv.1, v) else kv) = r := by
              conv => rhs; rw [← List.map_id r]
              apply List.map_congr_left
              intro x hx
              rw [if_neg (fun y => m (List.mem_map.mpr ⟨x, hx, y⟩))]; rfl
            rw [this]
      · rw [if_neg q]
        have m : c ∈ r.map Prod.fst := by
          rcases List.mem_cons.mp h with y | y
          · exact absurd y.symm q
          · exact y
        by_cases z1 : p.1 = d
        · subst z1; simp [q]
        · simp only [z1, decide_false]
          exact ih m
  · rename_i h
    unfold lkC
    rw [List.find?_append]
    by_cases z : d = c
    · subst z
      have : kvs.find? (fun kv => decide (kv.1 = d)) = none := List.find?_eq_none.mpr fun x hx y => h (List.mem_map.mpr ⟨x, hx, of_decide_eq_true y⟩)
      simp [this]
    · have : ¬ c = d := fun y => z y.symm
      cases q : kvs.find? (fun kv => decide (kv.1 = d)) with
      | none => simp [this, z]
      | some x => simp [z]
theorem keys_put (c : Cell) (v : α) (kvs : List (Cell × α)) : (putC kvs c v).map Prod.fst = if c ∈ kvs.map Prod.fst then kvs.map Prod.fst else kvs.map Prod.fst ++ [c] := by
  unfold putC
  split
  · rw [List.map_map]
    apply List.map_congr_left
    intro p _
    show (if p.1 = c then (p.1, v) else p).1 = p.1
    split <;> rfl
  · rw [List.map_append]; rfl
theorem len_put (c : Cell) (v : α) (kvs : List (Cell × α)) : (putC kvs c v).length ≤ kvs.length + 1 := by
  have := congrArg List.length (keys_put c v kvs)
  rw [List.length_map] at this
  rw [this]
  split <;> simp
theorem lk_mem {c : Cell} {v : α} {kvs : List (Cell × α)} (h : lkC kvs c = some v) : c ∈ kvs.map Prod.fst := by
  unfold lkC at h
  cases q : kvs.find? (fun kv => decide (kv.1 = c)) with
  | none => rw [q] at h; cases h
  | some x =>
    have := List.find?_some q
    exact List.mem_map.mpr ⟨x, List.mem_of_find?_eq_some q, of_decide_eq_true this⟩
theorem mem_lk {c : Cell} {kvs : List (Cell × α)} (h : c ∈ kvs.map Prod.fst) : ∃ v, lkC kvs c = some v := by
  unfold lkC
  cases q : kvs.find? (fun kv => decide (kv.1 = c)) with
  | none =>
    obtain ⟨x, hx, e⟩ := List.mem_map.mp h
    exact absurd (List.find?_eq_none.mp q x hx) (by simp [e])
  | some x => exact ⟨x.2, rfl⟩
theorem keys_cD (kvs : List (Cell × α)) : keysD (.dT (cD e kvs)) = some ((kvs.map Prod.fst).map cW) := by
  show some ((cD e kvs).map fun kv => W.tup (kv.1.map keyW)) = _
  unfold cD
  rw [List.map_map, List.map_map]
  rfl
theorem get_cD (kvs : List (Cell × α)) (a b : Int) : getW (.dT (cD e kvs)) (.tup [.int a, .int b]) = some ((lkC kvs (a, b)).map e) := by
  show (match asTKey (.tup [.int a, .int b]) with | some k => some (lookD (cD e kvs) k) | none => none) = _
  rw [asTKey_c]
  show some (lookD (cD e kvs) (tkC (a, b))) = _
  rw [look_cD]
end
/-! ### loops -/
theorem for_inv {β : Type} (f : β → W) {g : GF} {body : SF} {L : Lg} (I : List β → Ro → Prop) : ∀ (xs done : List β) (ρ : Ro), I done ρ →
    (∀ (d : List β) (x : β) (r : List β) (ρ : Ro), done ++ xs = d ++ x :: r → I d ρ → ∃ ρ1 ρ2, g (f x) ρ = some ρ1 ∧ body ρ1 L = some (.nx ρ2 L) ∧ I (d ++ [x]) ρ2) →
    ∃ ρ', forLoop g body (xs.map f) ρ L = some (.nx ρ' L) ∧ I (done ++ xs) ρ'
  | [], done, ρ, h, _ => ⟨ρ, rfl, by rw [List.append_nil]; exact h⟩
  | x :: xs, done, ρ, h, st => by
    obtain ⟨ρ1, ρ2, h1, h2, h3⟩ := st done x xs ρ rfl h
    obtain ⟨ρ', e1, e2⟩ := for_inv f I xs (done ++ [x]) ρ2 h3 fun d y r ρ e => st d y r ρ (by rw [← e]; simp)
    refine ⟨ρ', ?_, by simpa using e2⟩
    rw [List.map_cons, for_nx h1 h2]
    exact e1
/-- a loop that ends with w at the first x that has P -/
theorem for_ret {β : Type} (f : β → W) {g : GF} {body : SF} {L : Lg} {w : W} (I : Ro → Prop) (P : β → Bool) : ∀ (xs : List β) (ρ : Ro), I ρ →
    (∀ x ∈ xs, ∀ ρ, I ρ → ∃ ρ1, g (f x) ρ = some ρ1 ∧ ((P x = false ∧ ∃ ρ2, body ρ1 L = some (.nx ρ2 L) ∧ I ρ2) ∨ (P x = true ∧ body ρ1 L = some (.rt w L)))) →
    (xs.any P = false ∧ ∃ ρ', forLoop g body (xs.map f) ρ L = some (.nx ρ' L) ∧ I ρ') ∨ (xs.any P = true ∧ forLoop g body (xs.map f) ρ L = some (.rt w L))
  | [], ρ, h, _ => .inl ⟨rfl, ρ, rfl, h⟩
  | x :: xs, ρ, h, st => by
    obtain ⟨ρ1, h1, h2⟩ := st x List.mem_cons_self ρ h
    rcases h2 with ⟨p, ρ2, h2, h3⟩ | ⟨p, h2⟩
    · rcases for_ret f I P xs ρ2 h3 fun y hy => st y (List.mem_cons_of_mem _ hy) with ⟨a, ρ', b, c⟩ | ⟨a, b⟩
      · exact .inl ⟨by rw [List.any_cons, p, a]; rfl, ρ', by rw [List.map_cons, for_nx h1 h2]; exact b, c⟩
      · exact .inr ⟨by rw [List.any_cons, p, a]; rfl, by rw [List.map_cons, for_nx h1 h2]; exact b⟩
    · exact .inr ⟨by rw [List.any_cons, p]; rfl, by rw [List.map_cons, for_rt h1 h2]⟩
end Lf

set_option maxHeartbeats 4000000
/-! Lf, part R: all(..), del of a key that is a tuple, dict comprehensions with such keys. -/
namespace Lf
open PySem PySem.Spec PyProof.Rows L2
/-! ### all([..]) -/
def blsW : List W → Option (List Bool)
  | [] => some []
  | .bl b :: r => match blsW r with
    | some bs => some (b :: bs)
    | none => none
  | _ :: _ => none
theorem blsW_map : ∀ bs : List Bool, blsW (bs.map W.bl) = some bs
  | [] => rfl
  | b :: r => by rw [List.map_cons]; simp only [blsW, blsW_map r]
theorem blsW_eq : ∀ {ws : List W} {bs : List Bool}, blsW ws = some bs → ws = bs.map W.bl
  | [], bs, h => by simp only [blsW, Option.some.injEq] at h; subst h; rfl
  | w :: r, bs, h => by
    cases w <;> simp only [blsW] at h <;> first | (cases h; done) | skip
    split at h
    · rename_i bs' e
      cases h
      rw [List.map_cons, ← blsW_eq e]
    · cases h
theorem Rs.bls {K : PySem.W.Frag} {F : Hp} {φ : List Addr} : ∀ {bs : List Bool} {vs : List V}, Rs K F φ (bs.map W.bl) vs → vs = bs.map V.bl
  | [], _, .nil => rfl
  | b :: bs, _, .cons r t => by cases r; rw [Rs.bls t]; rfl
def allW : W → Option W
  | .lst ws => match blsW ws with
    | some bs => some (.bl (bs.all id))
    | none => none
  | _ => none
@[simp] theorem allW_bls (bs : List Bool) : allW (.lst (bs.map W.bl)) = some (.bl (bs.all id)) := by simp only [allW, blsW_map]
section
variable {X : Cx} {a : Expr} {pos : Pos}
theorem ie_all {f : OF} {p : Pos} (hc : X.calm = true) (hg : Gl X "all") (hm : X.mg "all" = none) (ha : IO X a f) (he : starEach [a] X.env = (false, eval a X.env) :: starEach [] X.env := by rfl) : IE X (.Call (.Name "all" p) [a] [] pos) (cC allW f) := by
  refine ie_bltC (cr_all hc) (fun {Z F φ L H w0 w v0} hs c h Q q => ?_) hg hm (by decide +kernel) ha (he := he)
  unfold allW at h
  split at h
  · rename_i ws
    split at h
    · rename_i bs e
      cases h
      obtain ⟨l, vs, rfl, g1, g2⟩ := c.seq hs.sub
      rw [blsW_eq e] at g2
      rw [g2.bls] at g1
      exact ⟨l, bs, rfl, g1, flat hs (.bl _) q⟩
    · cases h
  · cases h
end
/-! ### del d[k], k a tuple -/
section
variable {κ : Type} [DecidableEq κ] {prog : Program} {w : World} {knd : HeapKind prog w κ}
theorem meetsDelT {dst kad : Addr} {k : κ} :
    MeetsIn prog w (Builtin.«dict.__delitem__» ⟨[.ref dst, .ref kad], []⟩) (fun A R s => ∃ ents pr, knd.room A.in1 ∧ knd.is s.heap k kad ∧ s.heap.DictOfH knd dst ents ∧ ents.length ≤ sizeLine ∧ atKey ents k = some pr ∧
      ∀ h' tk, h'.DictOfH knd dst (DT.dropH ents k) → Heap.SameBut dst s.heap h' → R (.ok (.ret .none)) { s with heap := h', toks := tk }) :=
  .of_wp fun A R s ⟨ents, pr, room, isk, dict, sz, there, fin⟩ => by
    unfold Builtin.«dict.__delitem__»
    refine wpAny_bind ?_
    unfold Builtin.Dict.dictSlotArgs
    refine wpAny_bind (wpAny_notOrdered_dict dict.typeIs ?_)
    show wpAny _ _ (pure (Value.ref dst, Value.ref kad)) _ _ s
    refine wpAny_pure ?_
    show wpAny _ _ (Builtin.Dict.takeOut dst (.ref kad) >>= _) _ _ s
    refine wpAny_bind (DT.takeH room isk dict sz (fun z => by rw [z] at there; cases there) fun p e _ _ h' d' sb => ?_)
    exact wpAny_bind (wpAny_letGo (wpAny_pure ⟨.none, rfl, fin h' _ d' sb⟩))
end
def tDelT (to ti : TE) : TS := fun D σ H => to σ H fun x H1 => ti σ H1 fun y H2 => ∃ (p b : Addr) (kvs : List (List Key × V)) (k : List Key), x = .ref p ∧ y = .ref b ∧ H2 p = some (.dT kvs) ∧ H2 b = some (.tup (k.map kV)) ∧ (valV kvs k).isSome = true ∧ D.nx σ (upd H2 p (.dT (dropK kvs k)))
section
variable {X : Cx} {o i : Expr} {pos tpos : Pos} {to ti : TE}
theorem ps_delT (hu : X.A.units + 1 < cLine) (ho : PE X o to) (hi : PE X i ti) : PS X (.Delete [.Subscript o i tpos] pos) (tDelT to ti) := by
  refine ⟨fun pins s σ H D I h => wpAny_Delete (wpAny_deleteEach_cons (wpAny_delete_Subscript (thn (ho.run pins s σ H _ I h) fun uo s1 ⟨x, H1, I1, rx, k1⟩ => thn (hi.run pins s1 σ H1 _ I1 k1) fun ui s2 ⟨y, H2, I2, ry, k2⟩ => ?_)))⟩
  obtain ⟨p, b, kvs, k, rfl, rfl, hp, hb, there, nx⟩ := k2
  cases (show uo = Value.ref p from rx)
  cases (show ui = Value.ref b from ry)
  obtain ⟨z, hd, ents, rel, dd⟩ := dt_of I2.hok hp
  have hz : ents.length ≤ sizeLine := by rw [← Paired.length rel]; exact z
  obtain ⟨pr, hpr⟩ : ∃ pr, atKey ents k = some pr := by
    have r := rel.val k
    cases ek : atKey ents k with
    | some pr => exact ⟨pr, rfl⟩
    | none =>
      rw [ek] at r
      cases ev : valV kvs k with
      | none => rw [ev] at there; cases there
      | some v0 => rw [ev] at r; exact (show False from r).elim
  refine wpAny_delItem_slot dd.typeIs (by decide) PySem.F.slot_dict_delitem (call_meetsIn PySem.F.slot_dict_delitem dd.typeIs PySem.F.entry_dict_delitem (PySem.F.args_dict_delitem_2 _ _) (meetsDelT (knd := tupleKind (mixKind X.prog X.w)) (k := k))
    ⟨ents, pr, tupleKind_room_in1 hu, key_of I2.hok hb, dd, hz, hpr, fun h' tk d' sb => ?_⟩)
  obtain ⟨ob, es, ep, hq, q2, q3, q4, _, q5⟩ := d'
  have I3 : Inv X pins σ (upd H2 p (.dT (dropK kvs k))) { s2 with heap := h', toks := tk } :=
    d_write I2 (by rw [hp]; exact True.intro) sb ⟨ob, hq⟩ ⟨Nat.le_trans (dropK_le kvs k) z, hd, _, (L2.DX.KT_drop k rel).keeps (fun c ys ec => (by rw [upd_ne (ne_of ec hp (fun z => nomatch z))]; exact ec)), ob, es, ep, hq, q2, q3, q4, q5⟩
  exact wpAny_deleteEach_nil ⟨σ, _, I3, nx⟩
end
/-- the dict without a key -/
def dropW (kvs : List (List Key × W)) (k : List Key) : List (List Key × W) := kvs.filter fun p => decide (p.1 ≠ k)
theorem drop_rel {K : PySem.W.Frag} {F : Hp} {φ : List Addr} (k : List Key) : ∀ {kvs : List (List Key × W)} {vs : List (List Key × V)}, kvs.map Prod.fst = vs.map Prod.fst → Rs K F φ (kvs.map Prod.snd) (vs.map Prod.snd) →
    (dropW kvs k).map Prod.fst = (dropK vs k).map Prod.fst ∧ Rs K F φ ((dropW kvs k).map Prod.snd) ((dropK vs k).map Prod.snd)
  | [], [], _, _ => ⟨rfl, .nil⟩
  | [], _ :: _, e, _ => by cases e
  | _ :: _, [], e, _ => by cases e
  | p :: kvs, r :: vs, e, rel => by
    simp only [List.map_cons, List.cons.injEq] at e
    rw [List.map_cons, List.map_cons] at rel
    cases rel with
    | cons r1 r2 =>
      obtain ⟨i1, i2⟩ := drop_rel k e.2 r2
      by_cases q : p.1 = k
      · have q2 : r.1 = k := e.1.symm.trans q
        have z1 : dropW (p :: kvs) k = dropW kvs k := List.filter_cons_of_neg (by simp [q])
        have z2 : dropK (r :: vs) k = dropK vs k := List.filter_cons_of_neg (by simp [q2])
        rw [z1, z2]
        exact ⟨i1, i2⟩
      · have q2 : ¬ r.1 = k := fun z => q (e.1.trans z)
        have z1 : dropW (p :: kvs) k = p :: dropW kvs k := List.filter_cons_of_pos (by simp [q])
        have z2 : dropK (r :: vs) k = r :: dropK vs k := List.filter_cons_of_pos (by simp [q2])
        rw [z1, z2]
        exact ⟨by simp only [List.map_cons, e.1, i1], .cons r1 i2⟩
theorem val_some {K : PySem.W.Frag} {F : Hp} {φ : List Addr} {kvs : List (List Key × W)} {vs : List (List Key × V)} {k : List Key} (e : kvs.map Prod.fst = vs.map Prod.fst) (h : (kvs.any fun p => decide (p.1 = k)) = true) : (valV vs k).isSome = true := by
  have h : k ∈ vs.map Prod.fst := by
    rw [← e]
    obtain ⟨p, hp, z⟩ := List.any_eq_true.mp h
    exact List.mem_map.mpr ⟨p, hp, of_decide_eq_true z⟩
  obtain ⟨p, hp, rfl⟩ := List.mem_map.mp h
  unfold valV
  cases q : vs.find? (fun z => decide (z.1 = p.1)) with
  | none => exact absurd (List.find?_eq_none.mp q p hp) (by simp)
  | some z => simp [q]
/-- del d[k], d in a box at the slot i -/
def cDelB (i : Nat) (fk : EF) : SF := fun ρ L => match fk ρ L with
  | none => none
  | some (k, L1) => match ρ[i]? with
    | some (.va (.ob j)) => (match L1[j]? with
      | some (.box (.dT kvs)) => (match asTKey k with
        | some k => if (kvs.any fun p => decide (p.1 = k)) = true then some (.nx ρ (L1.set j (.box (.dT (dropW kvs k))))) else none
        | none => none)
      | _ => none)
    | _ => none
section
variable {X : Cx} {b : Expr} {pos : Pos}
theorem is_delB (i : Nat) {x : Str} {px tpos : Pos} {fk : EF} (hu : X.A.units + 1 < cLine) (hk : IE X b fk) (hN : X.N[i]? = some x := by rfl) (hv : Vis X.env.scope x := by first | exact Or.inl rfl | exact Or.inr (Or.inl rfl) | exact Or.inr (Or.inr rfl)) (hd : (x == ("__debug__" : Str)) = false := by decide)
    (hcd : (x == ("__classdict__" : Str)) = false := by decide) : IS X (.Delete [.Subscript (.Name x px) b tpos] pos) (cDelB i fk) := by
  refine ⟨fun {Zx Z F φ L ρ σ H o} hs ss h D q => PS.wp (ps_delT hu (pe_var hN hv hd hcd) wpE) ?_⟩
  unfold cDelB at h
  split at h
  · cases h
  rename_i kw L1 e1
  split at h
  · rename_i j e2
    split at h
    · rename_i kvs e3
      split at h
      · rename_i k e4
        split at h
        · rename_i hmem
          simp only [Option.some.injEq] at h
          subst h
          obtain ⟨v, h1, h2⟩ := ss.va i _ e2
          cases h2 with
          | ob hj =>
            refine ⟨_, h1, ?_⟩
            refine hk.run hs ss e1 _ fun F1 φ1 H1 vk s1 p1 hs1 r1 => ?_
            have hj1 := pre_get p1 hj
            obtain ⟨nF, o2, g1, g2⟩ := hs1.objs _ _ _ e3 hj1
            cases o2 <;> first | exact g2.elim | skip
            rename_i vs
            obtain ⟨g3, g4⟩ := g2
            obtain ⟨kb, rfl, hkb⟩ := asTKey_rel r1 e4
            obtain ⟨d1, d2⟩ := drop_rel k g3 g4
            refine ⟨_, kb, vs, k, rfl, rfl, g1, hs1.sub _ _ hkb, val_some (K := X.K) (F := F1) (φ := φ1) g3 hmem, ?_⟩
            refine q Z F1 φ1 σ _ s1 p1 (hs1.setOb (List.getElem?_eq_some_iff.mp e3).1 hj1 nF (by intro _ z; cases z) ?_) (ss.mono s1 p1)
            exact ⟨nF, _, upd_same, d1, d2⟩
        · cases h
      · cases h
    · cases h
  · cases h
end
end Lf

set_option maxHeartbeats 4000000
/-! Lf, part F: {k: v for x in xs}, keys tuples. -/
namespace Lf
open PySem PySem.Spec PyProof.Rows L2
section
variable {X : Cx}
/-- what one turn of such a comprehension does to the new dict at D -/
def tTurnT (g : TG) (tt : TT) (tk tv : TE) (vs : List Nat) (σ : L2.St) (D : Addr) (Nx : Hp → Prop) : V → Hp → Prop := fun x H' => g x (wipe σ vs) H' fun σ2 H2 => wipe σ2 vs = wipe σ vs ∧ tt σ2 H2 fun c H3 =>
  if c = true then tk σ2 H3 fun y H4 => tv σ2 H4 fun z H5 => ∃ (kvs : List (List Key × V)) (k : List Key) (kb : Addr), y = .ref kb ∧ H5 kb = some (.tup (k.map kV)) ∧ H5 D = some (.dT kvs) ∧ kvs.length < sizeLine ∧ Nx (upd H5 D (.dT (putK kvs k z))) else Nx H3
def tDcT (wi : TI) (g : TG) (tt : TT) (tk tv : TE) (vs : List Nat) : TE := fun σ H Q => wi σ H fun J H1 => ∀ D, H1 D = none → ∃ W : Nat → Nat → Hp → Prop, (∃ m, W 0 m (upd H1 D (.dT []))) ∧ ∀ i m H, W i m H →
  (J.stop i H ∧ Q (.ref D) H) ∨ (J.go i H ∧ ∃ Nx : Hp → Prop, (∀ H', Nx H' → ∃ m', m' < m ∧ W (i + 1) m' H') ∧ ∀ x H', J.yld i H x H' → tTurnT g tt tk tv vs σ D Nx x H')
/-- the new dict takes a pair -/
theorem put_newT {Y : Cx} {pins : List (Addr × Obj)} {σ : L2.St} {H : Hp} {s : Shared} {E : Value → Shared → Prop} {D kb : Addr} {kvs : List (List Key × V)} {k : List Key} {v : V} {r : Value} {Q : Unit → Shared → Prop} (hu : Y.A.units + 1 < cLine) (I : Inv Y pins σ H s) (hD : H D = some (.dT kvs)) (hb : H kb = some (.tup (k.map kV)))
    (hz : kvs.length < sizeLine) (rv : RelV v r) (fin : ∀ s', Inv Y pins σ (upd H D (.dT (putK kvs k v))) s' → Q () s') : wpAny (model Y.prog Y.w) Y.A (dictSet D (.ref kb) r) Q E s := by
  obtain ⟨z, hd, ents, rel, dd⟩ := dt_of I.hok hD
  have he : ents.length ≤ sizeLine := by rw [← Paired.length rel]; exact z
  refine wpAny_dictSet_heap (hsz := he) (show (tupleKind (mixKind Y.prog Y.w)).room Y.A from (by omega : Y.A.units < cLine)) (key_of I.hok hb) dd fun h' d' sb => fin _ ?_
  obtain ⟨ob, es, ep, hq, q2, q3, q4, _, q5⟩ := d'
  refine d_write I (by rw [hD]; exact True.intro) sb ⟨ob, hq⟩ ⟨Nat.le_trans (length_putK kvs k v) hz, hd, _, (rel.put k hb rv).keeps fun c ys ec => ?_, ob, es, ep, hq, q2, q3, q4, q5⟩
  rw [upd_ne (ne_of ec hD (fun z => nomatch z))]
  exact ec
theorem dcT_core {pins : List (Addr × Obj)} {s : Shared} {σ : L2.St} {H : Hp} {Q : VK} {ke ve tg iter : Expr} {ifs : List Expr} {sc : Scope} {own : List (Str × Nat)} {pos pos' : Pos} {use : Option (Value → Sem Unit)} {Qf : Value → Shared → Prop} {wi : TI} {g : TG} {tt : TT} {tk tv : TE}
    (hu : X.A.units + 1 < cLine) (hc : X.calm = true) (hN : X.N.Nodup) (I : Inv X pins σ H s) (hi : PI X tg iter wi) (blk : BlkOk X.N X.env.scope sc own)
    (hg : ∀ (s : Shared) (H : Hp) (C : Addr) (cl : List (Str × Addr)) (fs : List Addr), PG (X.blk s H sc (compEnvC sc cl C X.env) fs) tg g)
    (ht : ∀ (s : Shared) (H : Hp) (C : Addr) (cl : List (Str × Addr)) (fs : List Addr), PTs (X.blk s H sc (compEnvC sc cl C X.env) fs) ifs tt)
    (hk : ∀ (s : Shared) (H : Hp) (C : Addr) (cl : List (Str × Addr)) (fs : List Addr), PE (X.blk s H sc (compEnvC sc cl C X.env) fs) ke tk)
    (hv : ∀ (s : Shared) (H : Hp) (C : Addr) (cl : List (Str × Addr)) (fs : List Addr), PE (X.blk s H sc (compEnvC sc cl C X.env) fs) ve tv) (fold : ∀ x, foldedSetIterable iter X.env x = pure x)
    (h : tDcT wi g tt tk tv (own.map (·.2)) σ H Q)
    (fin : ∀ D C s' m H', Inv X pins σ H' s' → Q (.ref D) H' → s'.heap.Ns C m → FpOk X pins H' C → compPost (model X.prog X.w) X.A X.xe use Qf (.ref D) C (.ok .next) s') :
    wpAny (model X.prog X.w) X.A (comprehension (.DictComp ke ve [⟨tg, iter, ifs, 0⟩] sc pos) sc X.env pos' newDict false (eval iter X.env) use) Qf X.xe s := by
  refine wpAny_comprehension_free (use := use) rfl fold (closure_ok fun y hy e => (blk.free y hy e).elim (fun z => I.ok.has _ (.inl z)) fun z => I.ok.has _ (.inr z)) blk.kind (fun y hy e => by rw [blk.uniq y hy, e])
    (thn (hi.run pins s σ H _ I h) fun xv s1 hx => thn hx fun itv sB got => ?_)
  obtain ⟨it, fs, tn, J, H2, rfl, I2, T, tB, fr2, q⟩ := got
  refine wpAny_newObj_type (newEnv_comp ?_)
  generalize eD : sB.heap.objs.size = D
  obtain ⟨W, ⟨m0, w0⟩, turn⟩ := q D (I2.hok.fresh (Nat.le_of_eq eD))
  generalize eC : ({ sB with heap := sB.heap.push { cls := .type "dict", data := .dict #[] } } : Shared) = sC
  have hh3 : sC.heap = sB.heap.push { cls := .type "dict", data := .dict #[] } := by rw [← eC]
  have I3 : Inv X pins σ (upd H2 D (.dT [])) sC := by
    rw [← eC]
    exact I2.laid (t' := sB.toks) (fun b o e => Heap.get?_push_of_some _ e) (Nat.le_of_eq eD) (by rw [← eD]; exact dt_empty sB.heap I2.big)
  have fr3 : ∀ b ∈ fs, FpOk X pins (upd H2 D (.dT [])) b ∧ b < sC.heap.objs.size := fun b hb => by
    obtain ⟨o, e, _⟩ := T.obj _ _ tB b hb
    have lt := Heap.lt_size e
    exact ⟨⟨by rw [upd_ne (by rw [← eD]; exact Nat.ne_of_lt lt)]; exact (fr2 b hb).1, (fr2 b hb).2⟩, by rw [hh3, Heap.size_push]; exact Nat.lt_succ_of_lt lt⟩
  have tC : tn 0 sC.heap := T.keep _ _ _ tB fun b _ o e => by rw [hh3]; exact Heap.get?_push_of_some _ e
  have I4 := block_start I3 blk hN fr3
  obtain ⟨ce, hce⟩ : ∃ ce, compEnvC sc (cellsFrom (sC.heap.objs.size + 1) sc.names (cloFrom X.env.cells sc.names [])) sC.heap.objs.size X.env = ce := ⟨_, rfl⟩
  obtain ⟨H3, hH3⟩ : ∃ H3, upd H2 D (.dT []) = H3 := ⟨_, rfl⟩
  have pg := hg sC H3 sC.heap.objs.size (cellsFrom (sC.heap.objs.size + 1) sc.names (cloFrom X.env.cells sc.names [])) fs
  have pt := ht sC H3 sC.heap.objs.size (cellsFrom (sC.heap.objs.size + 1) sc.names (cloFrom X.env.cells sc.names [])) fs
  have pk := hk sC H3 sC.heap.objs.size (cellsFrom (sC.heap.objs.size + 1) sc.names (cloFrom X.env.cells sc.names [])) fs
  have pv := hv sC H3 sC.heap.objs.size (cellsFrom (sC.heap.objs.size + 1) sc.names (cloFrom X.env.cells sc.names [])) fs
  have cL : ce.locals = sC.heap.objs.size := by rw [← hce]; rfl
  obtain ⟨sD, eD4⟩ : ∃ sD : Shared, ({ sC with heap := pushCells (sC.heap.push { cls := .type "dict", data := .dict #[] }) sc.names } : Shared) = sD := ⟨_, rfl⟩
  rw [hH3] at I3 I4 w0 fr3
  rw [hce] at I4 pg pt pk pv
  rw [eD4] at I4
  have tD : tn 0 sD.heap := T.keep _ _ _ tC fun b _ o e => by rw [← eD4]; exact pushCells_keeps _ _ _ _ (Heap.get?_push_of_some _ e)
  have own1 : ∀ {σ' : L2.St} {H' : Hp} {s' : Shared}, Inv (X.blk sC H3 sc ce fs) [] σ' H' s' → (∀ b ∈ fs, H' b = none) → ∀ b ∈ fs, FpOk (X.blk sC H3 sc ce fs) [] H' b := fun {σ' H' s'} I' hn b hb =>
    let z := I'.ok.exf b hb
    ⟨hn b hb, z.1, I'.ok.exfs b hb, .inl hb, fun x c e => z.2 x c e, fun p hp => nomatch (show p ∈ ([] : List (Addr × Obj)) from hp)⟩
  have hu' : (X.blk sC H3 sc ce fs).A.units + 1 < cLine := hu
  show codeAny _ _ (.compStart (.DictComp ke ve [⟨tg, iter, ifs, 0⟩] sc pos) 0 (.ref it) (.ref D) (compEnvC sc (cellsFrom (sC.heap.objs.size + 1) sc.names (cloFrom X.env.cells sc.names [])) sC.heap.objs.size X.env)) (compPost (model X.prog X.w) X.A X.xe use Qf (.ref D) sC.heap.objs.size) { sC with heap := pushCells (sC.heap.push { cls := .type "dict", data := .dict #[] }) sc.names }
  rw [hce, eD4]
  refine (fun loop => codeAny_compStart_dict loop (T.self X.A 0 _ _ _ tD loop)) ?_
  refine compLoop_anyD (fun n s' => ∃ i H', Inv (X.blk sC H3 sc ce fs) [] (wipe σ (own.map (·.2))) H' s' ∧ tn i s'.heap ∧ (∀ b ∈ fs, H' b = none) ∧ W i n H') ?_ m0 ⟨0, H3, I4, tD, fun b hb => (fr3 b hb).1.1, w0⟩
  rintro n sE ⟨i, hE, iE, tE, nE, wE⟩
  rcases turn i n hE wE with ⟨stop, qq⟩ | ⟨go, Nx, less, step⟩
  · refine thnF (T.done (X.blk sC H3 sc ce fs) rfl rfl rfl hc i [] sE _ hE (fun _ _ => False) iE (own1 iE nE) tE stop) fun r sF ⟨hr, I6⟩ => ?_
    subst hr
    have iG : Inv X pins σ hE sF := I3.call' (ch := fs) I6.os I6.base I6.hok I6.bare fun b hb => ⟨(fr3 b hb).1.2.2.2.1, (fr3 b hb).1.2.1, (fr3 b hb).1.2.2.2.2.1, (fr3 b hb).1.2.2.2.2.2⟩
    have nC : hE sC.heap.objs.size = none := by rw [← cL]; exact I6.free
    obtain ⟨m, hn, _⟩ := I6.loc
    exact fin D _ sF m hE iG qq (by rw [← cL]; exact hn) (I3.fpOk (Nat.le_refl _) nC)
  · refine thnF (T.item (X.blk sC H3 sc ce fs) rfl rfl rfl hc i [] sE _ hE (fun _ _ => False) iE (own1 iE nE) tE go) fun r sF ⟨u, hr, h6⟩ => ?_
    subst hr
    refine thnF h6 fun _ sG ⟨x, hG, iG, rG, yG, tG, nG⟩ => ?_
    refine thnF (pg.run _ sG _ hG x u _ (iG.pinned (own1 iG nG) (T.obj _ _ tG)) rG (step x hG yG)) fun _ sH ⟨σ8, H8, I8, hw8, q8⟩ => ?_
    refine thnF (pt.run _ sH σ8 H8 _ I8 q8) fun c sI ⟨H9, I9, q9⟩ => ?_
    have again : ∀ {s' : Shared} {H' : Hp}, Inv (X.blk sC H3 sc ce fs) ([] ++ pinsAt fs sG.heap) σ8 H' s' → Nx H' → ∃ m, m < n ∧ ∃ i H', Inv (X.blk sC H3 sc ce fs) [] (wipe σ (own.map (·.2))) H' s' ∧ tn i s'.heap ∧ (∀ b ∈ fs, H' b = none) ∧ W i m H' := fun {s' H'} I' nx => by
      obtain ⟨m', hm, w'⟩ := less H' nx
      have held : ∀ b ∈ fs, ∀ o, sG.heap.get? b = some o → s'.heap.get? b = some o ∧ H' b = none := fun b hb o e =>
        let z := I'.pin (b, o) (by refine List.mem_append_right _ (List.mem_append_right _ ?_); exact mem_pinsAt hb e)
        ⟨z.1, z.2.1⟩
      refine ⟨m', hm, i + 1, H', (I'.unpinned (pins := [])).weak (by rw [← hw8, wipe_length]) (fun j v e => ?_), T.keep _ _ _ tG fun b hb o e => (held b hb o e).1, fun b hb => ?_, w'⟩
      · rw [← hw8] at e
        exact (L2.wipe_some e).1
      · obtain ⟨o, e, _⟩ := T.obj _ _ tG b hb
        exact (held b hb o e).2
    cases c with
    | false =>
      rw [if_neg (by decide)] at q9
      rw [if_neg (by decide)]
      exact again I9 q9
    | true =>
      rw [if_pos rfl] at q9
      rw [if_pos rfl]
      refine thnF (pk.run _ sI σ8 H9 _ I9 q9) fun z sJ ⟨yk, H10, I10, r10, q10⟩ => ?_
      refine thnF (pv.run _ sJ σ8 H10 _ I10 q10) fun z2 sK ⟨yv, H11, I11, r11, kvs, k, kb, ek, hkb, hD11, hz11, nx⟩ => ?_
      subst ek
      cases (show z = Value.ref kb from r10)
      exact put_newT (Y := X.blk sC H3 sc ce fs) hu' I11 hD11 hkb hz11 r11 fun sL I12 => again I12 nx
theorem pe_dcT {ke ve tg iter : Expr} {ifs : List Expr} {sc : Scope} {own : List (Str × Nat)} {pos : Pos} {wi : TI} {g : TG} {tt : TT} {tk tv : TE} (hu : X.A.units + 1 < cLine) (hc : X.calm = true) (hN : X.N.Nodup) (hi : PI X tg iter wi) (blk : BlkOk X.N X.env.scope sc own)
    (hg : ∀ (s : Shared) (H : Hp) (C : Addr) (cl : List (Str × Addr)) (fp : List Addr), PG (X.blk s H sc (compEnvC sc cl C X.env) fp) tg g)
    (ht : ∀ (s : Shared) (H : Hp) (C : Addr) (cl : List (Str × Addr)) (fp : List Addr), PTs (X.blk s H sc (compEnvC sc cl C X.env) fp) ifs tt)
    (hk : ∀ (s : Shared) (H : Hp) (C : Addr) (cl : List (Str × Addr)) (fp : List Addr), PE (X.blk s H sc (compEnvC sc cl C X.env) fp) ke tk)
    (hv : ∀ (s : Shared) (H : Hp) (C : Addr) (cl : List (Str × Addr)) (fp : List Addr), PE (X.blk s H sc (compEnvC sc cl C X.env) fp) ve tv) (fold : ∀ x, foldedSetIterable iter X.env x = pure x) :
    PE X (.DictComp ke ve [⟨tg, iter, ifs, 0⟩] sc pos) (tDcT wi g tt tk tv (own.map (·.2))) := by
  refine ⟨fun pins s σ H Q I h => ?_⟩
  rw [arm_eval_DictComp]
  refine dcT_core hu hc hN I hi blk hg ht hk hv fold h fun D C s' m H' I' qq hn fr => ⟨m, hn, fun h'' sb => ?_⟩
  obtain ⟨f0, f1, f2, f3, f4, f5⟩ := fr
  exact ⟨.ref D, H', I'.turned (t' := s'.toks) (fun b o hb e => (sb.2 b hb).trans e) f0 f1 f3 f4 f5, rfl, qq⟩
theorem ps_setDcT {i : Nat} {y : Str} {py : Pos} {ke ve tg iter : Expr} {ifs : List Expr} {sc : Scope} {own : List (Str × Nat)} {pos spos : Pos} {wi : TI} {g : TG} {tt : TT} {tk tv : TE} (hu : X.A.units + 1 < cLine) (hc : X.calm = true) (hN : X.N.Nodup) (hy : X.N[i]? = some y) (hyl : X.env.scope.names.lookup y = some .local)
    (hsw : swapsWith (.DictComp ke ve [⟨tg, iter, ifs, 0⟩] sc pos) (some (.Name y py)) spos.line X.env = pure true) (hi : PI X tg iter wi) (blk : BlkOk X.N X.env.scope sc own)
    (hg : ∀ (s : Shared) (H : Hp) (C : Addr) (cl : List (Str × Addr)) (fp : List Addr), PG (X.blk s H sc (compEnvC sc cl C X.env) fp) tg g)
    (ht : ∀ (s : Shared) (H : Hp) (C : Addr) (cl : List (Str × Addr)) (fp : List Addr), PTs (X.blk s H sc (compEnvC sc cl C X.env) fp) ifs tt)
    (hk : ∀ (s : Shared) (H : Hp) (C : Addr) (cl : List (Str × Addr)) (fp : List Addr), PE (X.blk s H sc (compEnvC sc cl C X.env) fp) ke tk)
    (hv : ∀ (s : Shared) (H : Hp) (C : Addr) (cl : List (Str × Addr)) (fp : List Addr), PE (X.blk s H sc (compEnvC sc cl C X.env) fp) ve tv) (fold : ∀ x, foldedSetIterable iter X.env x = pure x) :
    PS X (.Assign [.Name y py] (.DictComp ke ve [⟨tg, iter, ifs, 0⟩] sc pos) spos) (tAsg (tDcT wi g tt tk tv (own.map (·.2))) (gName i)) := by
  refine ⟨fun pins s σ H D I h => ?_⟩
  rw [exec_Assign_Name_used _ _ _ _ hsw]
  refine wpAny_bind (wpAny_standAt (wpAny_bind ?_))
  show wpAny _ X.A (do let _ ← comprehension (.DictComp ke ve [⟨tg, iter, ifs, 0⟩] sc pos) sc X.env (firstIterPos [⟨tg, iter, ifs, 0⟩] pos) newDict false (eval iter X.env) (some (assign (.Name y py) X.env))) _ _ s
  have h0 : tDcT wi g tt tk tv (own.map (·.2)) σ H (fun x H1 => gName i x σ H1 D.nx) := h
  refine wpAny_bind (thn (dcT_core (Qf := fun _ s' => SP X pins D .next s') hu hc hN I hi blk hg ht hk hv fold h0 fun B C s' m H' I' qq hn fr => ?_) fun _ s' z => wpAny_pure (wpAny_pure z))
  show wpAny _ _ (assign (.Name y py) X.env (.ref B)) _ _ _
  refine wpAny_assign_Name (store_ok2 (v := V.ref B) I' hN hy (.inl hyl) rfl (fun s2 I2 ⟨a, sb, ha⟩ => ?_) (.inr hyl))
  obtain ⟨f0, f1, f2, f3, f4, f5⟩ := fr
  have ne : C ≠ a := ha.elim (fun z => by rw [z]; exact f1) fun z e => f4 y a z e.symm
  exact ⟨m, hn.sameBut sb ne, fun h3 sb3 => ⟨_, H', I2.turned (t' := s2.toks) (fun b o hb e => (sb3.2 b hb).trans e) f0 f1 f3 f4 f5, qq⟩⟩
theorem sw_trueD {ke ve : Expr} {gs : List Comprehension} {scope : Scope} {pos py : Pos} {y : Str} {l : Nat} {env : Env} (hk : env.scope.kind = .function) (hy : env.scope.names.lookup y = some .local) (hl : (py.line == pos.line) = true)
    (ha : (scope.names.any fun (n, k) => n == y && (k == .local || k == .cell)) = false) : swapsWith (.DictComp ke ve gs scope pos) (some (.Name y py)) l env = pure true := by
  have k1 : env.kindOf y = some .local := hy
  have k2 : env.blockKind = .function := by unfold Env.blockKind; rw [hk]; rfl
  unfold swapsWith
  simp only [k2, k1, ha, Expr.pos, hl]
  rfl
end
/-! ### what it computes -/
def dcLoop (g : GF) (tt : TF) (fk fv : EF) (ρ : Ro) : List W → List (List Key × W) → Lg → Option (List (List Key × W) × Lg)
  | [], kvs, L => some (kvs, L)
  | x :: xs, kvs, L => match g x ρ with
    | none => none
    | some ρ1 => match tt ρ1 L with
      | none => none
      | some (false, L1) => dcLoop g tt fk fv ρ xs kvs L1
      | some (true, L1) => match fk ρ1 L1 with
        | none => none
        | some (k, L2) => match fv ρ1 L2 with
          | none => none
          | some (v, L3) => match asTKey k with
            | none => none
            | some kk => if kvs.length < 16777216 then dcLoop g tt fk fv ρ xs (putD kvs kk v) L3 else none
def cDc (src : AF) (g : GF) (tt : TF) (fk fv : EF) (vs : List Nat) : NF := fun ρ L => match src ρ L with
  | none => none
  | some (xs, L1) => match dcLoop g tt fk fv (wipeR ρ vs) xs [] L1 with
    | none => none
    | some (kvs, L2) => some (.dT kvs, L2)
section
variable {X : Cx}
theorem dc_w {J : It} {xs : List W} {g : GF} {tt : TF} {fk fv : EF} {ix vs : List Nat} (hix : ∀ i ∈ ix, i ∈ vs)
    (gW : TG) (tW : TT) (kW vW : TE)
    (hg : ∀ {Zx Z F : Hp} {φ : List Addr} {L : Lg} {ρ ρ' : Ro} {σ : L2.St} {H : Hp} {w : W} {v : V}, Hs X.K X.mg Z F φ L H → Ss X.K Zx Z F φ ρ σ → R X.K F φ w v → g w ρ = some ρ' →
      ∀ Q : L2.St → Hp → Prop, (∀ σ', Ss X.K Zx Z F φ ρ' σ' → (∀ vs, (∀ i ∈ ix, i ∈ vs) → wipe σ' vs = wipe σ vs) → Q σ' H) → gW v σ H Q)
    (ht : ∀ {Zx Z F : Hp} {φ : List Addr} {L : Lg} {ρ : Ro} {σ : L2.St} {H : Hp} {w : Bool} {L' : Lg}, Hs X.K X.mg Z F φ L H → Ss X.K Zx Z F φ ρ σ → tt ρ L = some (w, L') →
      ∀ Q : Bool → Hp → Prop, (∀ (F' : Hp) (φ' : List Addr) (H' : Hp), Sub F F' → φ <+: φ' → Hs X.K X.mg Z F' φ' L' H' → Q w H') → tW σ H Q)
    (hk : ∀ {Zx Z F : Hp} {φ : List Addr} {L : Lg} {ρ : Ro} {σ : L2.St} {H : Hp} {w : W} {L' : Lg}, Hs X.K X.mg Z F φ L H → Ss X.K Zx Z F φ ρ σ → fk ρ L = some (w, L') →
      ∀ Q : VK, (∀ (F' : Hp) (φ' : List Addr) (H' : Hp) (v : V), Sub F F' → φ <+: φ' → Hs X.K X.mg Z F' φ' L' H' → R X.K F' φ' w v → Q v H') → kW σ H Q)
    (he : ∀ {Zx Z F : Hp} {φ : List Addr} {L : Lg} {ρ : Ro} {σ : L2.St} {H : Hp} {w : W} {L' : Lg}, Hs X.K X.mg Z F φ L H → Ss X.K Zx Z F φ ρ σ → fv ρ L = some (w, L') →
      ∀ Q : VK, (∀ (F' : Hp) (φ' : List Addr) (H' : Hp) (v : V), Sub F F' → φ <+: φ' → Hs X.K X.mg Z F' φ' L' H' → R X.K F' φ' w v → Q v H') → vW σ H Q)
    {Zx Z F1 : Hp} {φ1 : List Addr} {L1 L9 : Lg} {ρ : Ro} {σ : L2.St} {H1 : Hp} {res : List (List Key × W)} (hs1 : Hs X.K X.mg Z F1 φ1 L1 H1) (ss : Ss X.K Zx Z F1 φ1 ρ σ) (itok : ItOk X.K X.mg F1 φ1 J xs) (e2 : dcLoop g tt fk fv (wipeR ρ vs) xs [] L1 = some (res, L9))
    (Q : VK) (q : ∀ (F' : Hp) (φ' : List Addr) (H' : Hp) (p : Addr) (o : HO), Sub F1 F' → φ1 <+: φ' → Z p = none → Hs X.K X.mg (upd Z p o) F' φ' L9 H' → MOk X.K F' φ' (.dT res) o → Q (.ref p) H') {D : Addr} (hD : H1 D = none) :
    ∃ W : Nat → Nat → Hp → Prop, (∃ m, W 0 m (upd H1 D (.dT []))) ∧ ∀ i m H, W i m H →
      (J.stop i H ∧ Q (.ref D) H) ∨ (J.go i H ∧ ∃ Nx : Hp → Prop, (∀ H', Nx H' → ∃ m', m' < m ∧ W (i + 1) m' H') ∧ ∀ x H', J.yld i H x H' → tTurnT gW tW kW vW vs σ D Nx x H') := by
  have zD : Z D = none := (hs1.free hD).2.1
  refine ⟨fun i mm H' => mm = xs.length - i ∧ i ≤ xs.length ∧ ∃ (F2 : Hp) (φ2 : List Addr) (L3 : Lg) (kvs : List (List Key × W)) (vkvs : List (List Key × V)), Sub F1 F2 ∧ φ1 <+: φ2 ∧ Hs X.K X.mg (upd Z D (.dT vkvs)) F2 φ2 L3 H' ∧ (kvs.map Prod.fst = vkvs.map Prod.fst ∧ Rs X.K F2 φ2 (kvs.map Prod.snd) (vkvs.map Prod.snd)) ∧
    dcLoop g tt fk fv (wipeR ρ vs) (xs.drop i) kvs L3 = some (res, L9),
    ⟨xs.length, rfl, Nat.zero_le _, F1, φ1, L1, [], [], Sub.refl F1, List.prefix_refl φ1, hs1.fresh hD, ⟨rfl, .nil⟩, by simpa using e2⟩, ?_⟩
  rintro i mm H' ⟨rfl, hi', F2, φ2, L3, kvs, vkvs, s2, p2, hs2, rel, e3⟩
  obtain ⟨it1, it2⟩ := itok i s2 p2 hs2
  by_cases hlt : i < xs.length
  · obtain ⟨go, yl⟩ := it1 _ (List.getElem?_eq_getElem hlt)
    refine .inr ⟨go, fun H'' => ∃ (F2 : Hp) (φ2 : List Addr) (L3 : Lg) (kvs : List (List Key × W)) (vkvs : List (List Key × V)), Sub F1 F2 ∧ φ1 <+: φ2 ∧ Hs X.K X.mg (upd Z D (.dT vkvs)) F2 φ2 L3 H'' ∧ (kvs.map Prod.fst = vkvs.map Prod.fst ∧ Rs X.K F2 φ2 (kvs.map Prod.snd) (vkvs.map Prod.snd)) ∧
      dcLoop g tt fk fv (wipeR ρ vs) (xs.drop (i + 1)) kvs L3 = some (res, L9), fun H'' n => ⟨xs.length - (i + 1), by omega, rfl, hlt, n⟩, fun v H3 y => ?_⟩
    obtain ⟨F3, s3, hs3, r3⟩ := yl v H3 y
    rw [List.drop_eq_getElem_cons hlt] at e3
    unfold dcLoop at e3
    split at e3
    · cases e3
    rename_i ρ1 g1
    have s13 : Sub F1 F3 := s2.trans s3
    have ssw : Ss X.K (fun _ => none) (upd Z D (.dT vkvs)) F3 φ2 (wipeR ρ vs) (wipe σ vs) := by
      have k := (ss.mono s13 p2).wiped vs
      exact ⟨k.len, k.va, fun j m' ej => let ⟨a, o, h1, h2, h3, h4⟩ := k.ow j m' ej; ⟨a, o, h1, by rw [upd_ne (ne_of_none h2 zD)]; exact h2, rfl, h4⟩, k.sep, fun _ _ z => nomatch z⟩
    refine hg hs3 ssw r3 g1 _ fun σ2 ss2 wq => ⟨(wq _ hix).trans (wipe_wipe σ _), ?_⟩
    split at e3
    · cases e3
    · rename_i L4 t1
      refine ht hs3 ss2 t1 _ fun F4 φ4 H4 s4 p4 hs4 => ?_
      rw [if_neg (by decide)]
      exact ⟨F4, φ4, L4, kvs, vkvs, s13.trans s4, List.IsPrefix.trans p2 p4, hs4, ⟨rel.1, rel.2.mono (s3.trans s4) p4⟩, e3⟩
    · rename_i L4 t1
      refine ht hs3 ss2 t1 _ fun F4 φ4 H4 s4 p4 hs4 => ?_
      rw [if_pos rfl]
      split at e3
      · cases e3
      rename_i kw L5 e5
      split at e3
      · cases e3
      rename_i vw L6 e6
      split at e3
      · cases e3
      rename_i kk e7
      split at e3
      · rename_i hz
        refine hk hs4 (ss2.mono s4 p4) e5 _ fun F5 φ5 H5 vk s5 p5 hs5 r5 => ?_
        refine he hs5 (ss2.mono (s4.trans s5) (List.IsPrefix.trans p4 p5)) e6 _ fun F6 φ6 H6 vv s6 p6 hs6 r6 => ?_
        obtain ⟨kb, rfl, hkb⟩ := asTKey_rel (r5.mono s6 p6) e7
        have hd6 := (hs6.ext D (.dT vkvs) upd_same).1
        have rel6 := rel.2.mono (((s3.trans s4).trans s5).trans s6) (List.IsPrefix.trans (List.IsPrefix.trans p4 p5) p6)
        refine ⟨vkvs, kk, kb, rfl, hs6.sub _ _ hkb, hd6, by rw [← keys_len rel.1, sizeLine_eq]; exact hz, ?_⟩
        have hs7 := hs6.turn (o' := .dT (putK vkvs kk vv)) (p := D) upd_same
        rw [upd_upd] at hs7
        exact ⟨F6, φ6, L6, _, _, ((s13.trans s4).trans s5).trans s6, List.IsPrefix.trans (List.IsPrefix.trans (List.IsPrefix.trans p2 p4) p5) p6, hs7, put_rel kk r6 rel.1 rel6, e3⟩
      · cases e3
  · have ei : i = xs.length := by omega
    subst ei
    refine .inl ⟨it2 (Nat.le_refl _), ?_⟩
    rw [List.drop_length] at e3
    simp only [dcLoop, Option.some.injEq, Prod.mk.injEq] at e3
    obtain ⟨rfl, rfl⟩ := e3
    exact q F2 φ2 H' D _ s2 p2 zD hs2 rel
theorem in_dc {ke ve tg iter : Expr} {ifs : List Expr} {scope : Scope} {own : List (Str × Nat)} {pos : Pos} {src : AF} {g : GF} {tt : TF} {fk fv : EF} {ix : List Nat} (hu : X.A.units + 1 < cLine) (hc : X.calm = true) (hN : X.N.Nodup) (hi : II X tg iter src) (ok : BlkOk X.N X.env.scope scope own) (hix : ∀ i ∈ ix, i ∈ own.map (·.2))
    (hg : ∀ (s : Shared) (H : Hp) (C : Addr) (cl : List (Str × Addr)) (fp : List Addr), IG (X.blk s H scope (compEnvC scope cl C X.env) fp) tg ix g) (ht : ∀ (s : Shared) (H : Hp) (C : Addr) (cl : List (Str × Addr)) (fp : List Addr), ITs (X.blk s H scope (compEnvC scope cl C X.env) fp) ifs tt)
    (hk : ∀ (s : Shared) (H : Hp) (C : Addr) (cl : List (Str × Addr)) (fp : List Addr), IE (X.blk s H scope (compEnvC scope cl C X.env) fp) ke fk)
    (he : ∀ (s : Shared) (H : Hp) (C : Addr) (cl : List (Str × Addr)) (fp : List Addr), IE (X.blk s H scope (compEnvC scope cl C X.env) fp) ve fv) (hs' : ∀ x, foldedSetIterable iter X.env x = pure x := by intro _; rfl) :
    IN X (.DictComp ke ve [⟨tg, iter, ifs, 0⟩] scope pos) (cDc src g tt fk fv (own.map (·.2))) := by
  refine ⟨fun {Zx Z F φ L ρ σ H m L'} hs ss h Q q => ?_⟩
  let gW : TG := fun v σ H Q => ∀ (s : Shared) (H0 : Hp) (C : Addr) (cl : List (Str × Addr)) (fp : List Addr), WpG (X.blk s H0 scope (compEnvC scope cl C X.env) fp) tg v σ H Q
  let tW : TT := fun σ H Q => ∀ (s : Shared) (H0 : Hp) (C : Addr) (cl : List (Str × Addr)) (fp : List Addr), WpTs (X.blk s H0 scope (compEnvC scope cl C X.env) fp) ifs σ H Q
  let kW : TE := fun σ H Q => ∀ (s : Shared) (H0 : Hp) (C : Addr) (cl : List (Str × Addr)) (fp : List Addr), Wp (X.blk s H0 scope (compEnvC scope cl C X.env) fp) ke σ H Q
  let vW : TE := fun σ H Q => ∀ (s : Shared) (H0 : Hp) (C : Addr) (cl : List (Str × Addr)) (fp : List Addr), Wp (X.blk s H0 scope (compEnvC scope cl C X.env) fp) ve σ H Q
  refine PE.wp (t := tDcT (WpI X tg iter) gW tW kW vW (own.map (·.2))) (pe_dcT hu hc hN wpI ok (fun s H C cl fp => ⟨fun pins s' σ H v u Q I r h => h s _ C cl fp pins s' u I r⟩) (fun s H C cl fp => ⟨fun pins s' σ H Q I h => h s _ C cl fp pins s' I⟩) (fun s H C cl fp => ⟨fun pins s' σ H Q I h => h s _ C cl fp pins s' I⟩) (fun s H C cl fp => ⟨fun pins s' σ H Q I h => h s _ C cl fp pins s' I⟩) hs') ?_
  unfold cDc at h
  split at h
  · cases h
  rename_i xs L1 e1
  split at h
  · cases h
  rename_i kvs L2 e2
  simp only [Option.some.injEq, Prod.mk.injEq] at h
  obtain ⟨rfl, rfl⟩ := h
  refine hi.run hs ss e1 _ fun F1 φ1 H1 J s1 p1 hs1 itok => fun D hD => ?_
  refine dc_w hix gW tW kW vW ?_ ?_ ?_ ?_ hs1 (ss.mono s1 p1) itok e2 Q (fun F' φ' H' p o s' p' z hs' m' => q F' φ' H' p o (s1.trans s') (List.IsPrefix.trans p1 p') z hs' m') hD
  · intro _ _ _ _ _ _ _ _ _ _ _ h1 h2 h3 h4 Q q s H0 C cl fp
    exact (hg s H0 C cl fp).run h1 h2 h3 h4 Q q
  · intro _ _ _ _ _ _ _ _ _ _ h1 h2 h3 Q q s H0 C cl fp
    obtain ⟨t, k1, k2⟩ := (ht s H0 C cl fp).run h1 h2 h3 Q q
    exact PTs.wp k1 k2
  · intro _ _ _ _ _ _ _ _ _ _ h1 h2 h3 Q q s H0 C cl fp
    exact (hk s H0 C cl fp).run h1 h2 h3 Q q
  · intro _ _ _ _ _ _ _ _ _ _ h1 h2 h3 Q q s H0 C cl fp
    exact (he s H0 C cl fp).run h1 h2 h3 Q q
theorem is_setDc {i : Nat} {y : Str} {py : Pos} {ke ve tg iter : Expr} {ifs : List Expr} {scope : Scope} {own : List (Str × Nat)} {pos spos : Pos} {src : AF} {g : GF} {tt : TF} {fk fv : EF} {ix : List Nat} (hu : X.A.units + 1 < cLine) (hc : X.calm = true) (hN : X.N.Nodup) (hy : X.N[i]? = some y) (hyl : X.env.scope.names.lookup y = some .local)
    (hsw : swapsWith (.DictComp ke ve [⟨tg, iter, ifs, 0⟩] scope pos) (some (.Name y py)) spos.line X.env = pure true) (hi : II X tg iter src) (ok : BlkOk X.N X.env.scope scope own) (hix : ∀ i ∈ ix, i ∈ own.map (·.2))
    (hg : ∀ (s : Shared) (H : Hp) (C : Addr) (cl : List (Str × Addr)) (fp : List Addr), IG (X.blk s H scope (compEnvC scope cl C X.env) fp) tg ix g) (ht : ∀ (s : Shared) (H : Hp) (C : Addr) (cl : List (Str × Addr)) (fp : List Addr), ITs (X.blk s H scope (compEnvC scope cl C X.env) fp) ifs tt)
    (hk : ∀ (s : Shared) (H : Hp) (C : Addr) (cl : List (Str × Addr)) (fp : List Addr), IE (X.blk s H scope (compEnvC scope cl C X.env) fp) ke fk)
    (he : ∀ (s : Shared) (H : Hp) (C : Addr) (cl : List (Str × Addr)) (fp : List Addr), IE (X.blk s H scope (compEnvC scope cl C X.env) fp) ve fv) (hs' : ∀ x, foldedSetIterable iter X.env x = pure x := by intro _; rfl) :
    IS X (.Assign [.Name y py] (.DictComp ke ve [⟨tg, iter, ifs, 0⟩] scope pos) spos) (cSetO i (cDc src g tt fk fv (own.map (·.2)))) := by
  refine ⟨fun {Zx Z F φ L ρ σ H o} hs ss h D q => ?_⟩
  let gW : TG := fun v σ H Q => ∀ (s : Shared) (H0 : Hp) (C : Addr) (cl : List (Str × Addr)) (fp : List Addr), WpG (X.blk s H0 scope (compEnvC scope cl C X.env) fp) tg v σ H Q
  let tW : TT := fun σ H Q => ∀ (s : Shared) (H0 : Hp) (C : Addr) (cl : List (Str × Addr)) (fp : List Addr), WpTs (X.blk s H0 scope (compEnvC scope cl C X.env) fp) ifs σ H Q
  let kW : TE := fun σ H Q => ∀ (s : Shared) (H0 : Hp) (C : Addr) (cl : List (Str × Addr)) (fp : List Addr), Wp (X.blk s H0 scope (compEnvC scope cl C X.env) fp) ke σ H Q
  let vW : TE := fun σ H Q => ∀ (s : Shared) (H0 : Hp) (C : Addr) (cl : List (Str × Addr)) (fp : List Addr), Wp (X.blk s H0 scope (compEnvC scope cl C X.env) fp) ve σ H Q
  refine PS.wp (ps_setDcT (i := i) hu hc hN hy hyl hsw wpI ok (g := gW) (tt := tW) (tk := kW) (tv := vW) (fun s H C cl fp => ⟨fun pins s' σ H v u Q I r h => h s _ C cl fp pins s' u I r⟩) (fun s H C cl fp => ⟨fun pins s' σ H Q I h => h s _ C cl fp pins s' I⟩) (fun s H C cl fp => ⟨fun pins s' σ H Q I h => h s _ C cl fp pins s' I⟩) (fun s H C cl fp => ⟨fun pins s' σ H Q I h => h s _ C cl fp pins s' I⟩) hs') ?_
  unfold cSetO at h
  split at h
  · cases h
  rename_i m L9 e9
  split at h
  · rename_i hi'
    simp only [Option.some.injEq] at h
    subst h
    unfold cDc at e9
    split at e9
    · cases e9
    rename_i xs L1 e1
    split at e9
    · cases e9
    rename_i kvs L2 e2
    simp only [Option.some.injEq, Prod.mk.injEq] at e9
    obtain ⟨rfl, rfl⟩ := e9
    refine hi.run hs ss e1 _ fun F1 φ1 H1 J s1 p1 hs1 itok => fun B hB => ?_
    refine dc_w hix gW tW kW vW ?_ ?_ ?_ ?_ hs1 (ss.mono s1 p1) itok e2 (fun x H1 => gName i x σ H1 D.nx) (fun F' φ' H' p o s' p' z hs' m' => q _ F' φ' _ H' (s1.trans s') (List.IsPrefix.trans p1 p') hs' ((ss.mono (s1.trans s') (List.IsPrefix.trans p1 p')).setow hi' z m')) hB
    · intro _ _ _ _ _ _ _ _ _ _ _ h1 h2 h3 h4 Q q s H0 C cl fp
      exact (hg s H0 C cl fp).run h1 h2 h3 h4 Q q
    · intro _ _ _ _ _ _ _ _ _ _ h1 h2 h3 Q q s H0 C cl fp
      obtain ⟨t, k1, k2⟩ := (ht s H0 C cl fp).run h1 h2 h3 Q q
      exact PTs.wp k1 k2
    · intro _ _ _ _ _ _ _ _ _ _ h1 h2 h3 Q q s H0 C cl fp
      exact (hk s H0 C cl fp).run h1 h2 h3 Q q
    · intro _ _ _ _ _ _ _ _ _ _ h1 h2 h3 Q q s H0 C cl fp
      exact (he s H0 C cl fp).run h1 h2 h3 Q q
  · cases h
end
end Lf

set_option maxHeartbeats 4000000
/-! Lf, part AA: a box walked, a box read for a while as a value. -/
namespace Lf
open PySem PySem.Spec PyProof.Rows L2
/-! ### for x in a list in a box -/
def forBN (j : Nat) (g : GF) (body : SF) : Nat → Nat → Ro → Lg → Option Out
  | 0, _, _, _ => none
  | n + 1, i, ρ, L => match L[j]? with
    | some (.box (.lst ws)) => (match ws[i]? with
      | none => some (.nx ρ L)
      | some x => match g x ρ with
        | none => none
        | some ρ1 => match body ρ1 L with
          | none => none
          | some (.nx ρ2 L2) => forBN j g body n (i + 1) ρ2 L2
          | some (.ct ρ2 L2) => forBN j g body n (i + 1) ρ2 L2
          | some (.bk ρ2 L2) => some (.nx ρ2 L2)
          | some (.rt w L2) => some (.rt w L2))
    | _ => none
def cForB (i : Nat) (g : GF) (body : SF) : SF := fun ρ L => match ρ[i]? with
  | some (.va (.ob j)) => (match L[j]? with
    | some (.box (.lst ws)) => forBN j g body (ws.length + 1) 0 ρ L
    | _ => none)
  | _ => none
section
variable {X : Cx} {tg : Expr} {pos : Pos}
theorem is_forB {bd : List Stmt} {g : GF} {body : SF} {ix : List Nat} {x : Str} {px : Pos} (i : Nat) (hp : PassesOwn (model X.prog X.w) X.A X.env X.xe) (hc : X.calm = true) (hg : IG X tg ix g) (hb : ISs X bd body) (hN : X.N[i]? = some x := by rfl) (hv : Vis X.env.scope x := by first | exact Or.inl rfl | exact Or.inr (Or.inl rfl) | exact Or.inr (Or.inr rfl)) (hd : (x == ("__debug__" : Str)) = false := by decide)
    (hcd : (x == ("__classdict__" : Str)) = false := by decide) (hs' : ∀ y, foldedSetIterable (.Name x px) X.env y = pure y := by intro _; rfl) : IS X (.For tg (.Name x px) bd [] pos) (cForB i g body) := by
  refine ⟨fun {Zx Z F φ L ρ σ H o} hs ss h D q => PS.wp (ps_for hp hc (pi_list (pe_var hN hv hd hcd)) wpG wpSs hs') ?_⟩
  unfold cForB at h
  split at h
  · rename_i j e1
    split at h
    · rename_i ws0 e2
      obtain ⟨v, hv1, hv2⟩ := ss.va i _ e1
      cases hv2 with
      | ob hj =>
        rename_i a
        have box : ∀ {Z2 F2 H2 : Hp} {φ2 : List Addr} {L2 : Lg} {ws : List W}, φ <+: φ2 → Hs X.K X.mg Z2 F2 φ2 L2 H2 → L2[j]? = some (.box (.lst ws)) → ∃ vs, SqL X.K H2 a vs ∧ Rs X.K F2 φ2 ws vs := fun {Z2 F2 H2 φ2 L2 ws} p2 hs2 e => by
          obtain ⟨_, o2, g1, g2⟩ := hs2.objs _ _ _ e (pre_get p2 hj)
          cases o2 <;> first | exact g2.elim | skip
          exact ⟨_, .inl (.inl g1), g2⟩
        obtain ⟨vs0, sq0, _⟩ := box (List.prefix_refl φ) hs e2
        refine ⟨_, hv1, a, rfl, ⟨vs0, sq0⟩, ?_⟩
        refine ⟨fun k m σ' H' => ∃ (Z2 F2 : Hp) (φ2 : List Addr) (ρ2 : Ro) (L2 : Lg), Sub F F2 ∧ φ <+: φ2 ∧ Hs X.K X.mg Z2 F2 φ2 L2 H' ∧ Ss X.K Zx Z2 F2 φ2 ρ2 σ' ∧ forBN j g body m k ρ2 L2 = some o,
          ⟨_, Z, F, φ, ρ, L, Sub.refl F, List.prefix_refl φ, hs, ss, h⟩, ?_⟩
        rintro k m σ' H' ⟨Z2, F2, φ2, ρ2, L2, s2, p2, hs2, ss2, e3⟩
        cases m with
        | zero => cases e3
        | succ n =>
          unfold forBN at e3
          split at e3
          · rename_i ws e4
            obtain ⟨vs, sq, rel⟩ := box p2 hs2 e4
            split at e3
            · rename_i e5
              simp only [Option.some.injEq] at e3
              subst e3
              refine .inl ⟨⟨vs, sq, ?_⟩, q Z2 F2 φ2 σ' H' s2 p2 hs2 ss2⟩
              rw [← rel.length]
              exact List.getElem?_eq_none_iff.mp e5
            · rename_i y e5
              obtain ⟨vy, gy, ry⟩ := rel.get e5
              refine .inr ⟨⟨vs, vy, sq, gy⟩, fun σ' H' => ∃ (Z2 F2 : Hp) (φ2 : List Addr) (ρ2 : Ro) (L2 : Lg), Sub F F2 ∧ φ <+: φ2 ∧ Hs X.K X.mg Z2 F2 φ2 L2 H' ∧ Ss X.K Zx Z2 F2 φ2 ρ2 σ' ∧ forBN j g body n (k + 1) ρ2 L2 = some o,
                fun σ' H' w => ⟨n, Nat.lt_succ_self n, w⟩, fun z H3 yl => ?_⟩
              obtain ⟨rfl, yl⟩ := yl
              have : vy = z := Option.some.inj (gy.symm.trans (yl vs sq))
              subst this
              split at e3
              · cases e3
              rename_i ρ3 g1
              refine hg.run hs2 ss2 ry g1 _ fun σ4 ss4 _ => ?_
              split at e3
              · cases e3
              · rename_i ρ5 L5 e6
                exact hb.run hs2 ss4 e6 _ fun Z5 F5 φ5 σ5 H5 s5 p5 hs5 ss5 => ⟨Z5, F5, φ5, ρ5, L5, s2.trans s5, List.IsPrefix.trans p2 p5, hs5, ss5, e3⟩
              · rename_i ρ5 L5 e6
                exact hb.run hs2 ss4 e6 _ fun Z5 F5 φ5 σ5 H5 s5 p5 hs5 ss5 => ⟨Z5, F5, φ5, ρ5, L5, s2.trans s5, List.IsPrefix.trans p2 p5, hs5, ss5, e3⟩
              · rename_i ρ5 L5 e6
                cases e3
                exact hb.run hs2 ss4 e6 _ fun Z5 F5 φ5 σ5 H5 s5 p5 hs5 ss5 => q Z5 F5 φ5 σ5 H5 (s2.trans s5) (List.IsPrefix.trans p2 p5) hs5 ss5
              · rename_i w L5 e6
                cases e3
                exact hb.run hs2 ss4 e6 _ fun Z5 F5 φ5 H5 v5 s5 p5 z hs5 r5 => q Z5 F5 φ5 H5 v5 (s2.trans s5) (List.IsPrefix.trans p2 p5) z hs5 r5
          · cases e3
    · cases h
  · cases h
end
/-! ### a test under which a box stands still -/
def flatW : W → Bool
  | .non => true
  | .bl _ => true
  | .int _ => true
  | .str _ => true
  | .ty _ => true
  | _ => false
def flatOb : Ob → Bool
  | .ins _ fs => fs.all fun p => flatW p.2
  | .box (.lst ws) => ws.all flatW
  | .box (.dK kvs) => kvs.all fun p => flatW p.2
  | .box (.dT kvs) => kvs.all fun p => flatW p.2
  | .dead => true
  | .nd _ => false
theorem R.flat {K : PySem.W.Frag} {F F' : Hp} {φ φ' : List Addr} {w : W} {v : V} (hw : flatW w = true) (r : R K F φ w v) : R K F' φ' w v := by
  cases r <;> first | (cases hw; done) | constructor
theorem Rs.flat {K : PySem.W.Frag} {F F' : Hp} {φ φ' : List Addr} : ∀ {ws : List W} {vs : List V}, ws.all flatW = true → Rs K F φ ws vs → Rs K F' φ' ws vs
  | _, _, _, .nil => .nil
  | _, _, h, .cons r t => by
    rw [List.all_cons, Bool.and_eq_true] at h
    exact .cons (r.flat h.1) (Rs.flat h.2 t)
theorem all_snd {κ : Type} {kvs : List (κ × W)} (h : (kvs.all fun p => flatW p.2) = true) : (kvs.map Prod.snd).all flatW = true := by
  rw [List.all_map]; exact h
theorem ObOk.flat {K : PySem.W.Frag} {mg : Str → Option Value} {F F' H : Hp} {φ φ' : List Addr} {a : Addr} {o : Ob} (hF : F' a = none → F a = none) (ho : flatOb o = true) (h : ObOk K mg F' φ' H a o) : ObOk K mg F φ H a o := by
  cases o with
  | ins c fs => obtain ⟨n, C, dx, vs, h1, h2, h3, h4⟩ := h; exact ⟨hF n, C, dx, vs, h1, h2, h3, h4.flat (all_snd ho)⟩
  | box m =>
    obtain ⟨n, u, h1, h2⟩ := h
    refine ⟨hF n, u, h1, ?_⟩
    cases m <;> cases u <;> first | exact h2.elim | exact Rs.flat ho h2 | exact ⟨h2.1, h2.2.flat (all_snd ho)⟩
  | dead => exact True.intro
  | nd kvs => cases ho
section
variable {K : PySem.W.Frag} {mg : Str → Option Value} {Z F : Hp} {φ : List Addr} {L : Lg} {H : Hp}
/-- the box at j, its object o, is frozen, and one can come back -/
theorem Hs.still {j : Nat} {a : Addr} {m : M} (h : Hs K mg Z F φ L H) (hL : L[j]? = some (.box m)) (ha : φ[j]? = some a) :
    ∃ F', Sub F F' ∧ Hs K mg Z F' φ (L.set j .dead) H ∧ R K F' φ m.fz (.ref a) ∧
      ∀ (F2 H2 : Hp) (φ2 : List Addr) (L2 : Lg), Sub F' F2 → φ <+: φ2 → Hs K mg Z F2 φ2 L2 H2 → L2.all flatOb = true → Hs K mg Z F φ2 (L2.set j (.box m)) H2 := by
  obtain ⟨nF, o, hH, mk⟩ := h.objs _ _ _ hL ha
  have am : a ∈ φ := List.mem_of_getElem? ha
  have sb : Sub F (upd F a o) := Sub.new nF
  refine ⟨upd F a o, sb, ⟨fun b u e => ?_, fun b u e => ?_, by rw [List.length_set]; exact h.len, h.nd, h.has, fun i u b e1 e2 => ?_⟩, (mk.mono sb (List.prefix_refl φ)).fz upd_same, fun F2 H2 φ2 L2 s2 p2 hs2 fl => ?_⟩
  · by_cases q : b = a
    · subst q; rw [upd_same] at e; cases e; exact hH
    · rw [upd_ne q] at e; exact h.sub b u e
  · obtain ⟨g1, g2, g3, g4⟩ := h.ext b u e
    have q : b ≠ a := fun q => g3 (q ▸ am)
    exact ⟨g1, by rw [upd_ne q]; exact g2, g3, g4⟩
  · by_cases q : j = i
    · subst q
      rw [List.getElem?_set_self (List.getElem?_eq_some_iff.mp hL).1] at e1
      cases e1
      exact True.intro
    · rw [List.getElem?_set_ne q] at e1
      have qb : b ≠ a := fun z => by
        subst z
        exact q ((List.getElem?_inj (List.getElem?_eq_some_iff.mp ha).1 h.nd).mp (ha.trans e2.symm))
      exact (h.objs i u b e1 e2).mono sb (List.prefix_refl φ) (fun z => by rw [upd_ne qb]; exact z) fun u e => e
  · have s3 := sb.trans s2
    have down : ∀ {b : Addr}, F2 b = none → F b = none := fun {b} e => by
      cases z : F b with
      | none => rfl
      | some u => rw [s3 b u z] at e; cases e
    have hj := pre_get p2 ha
    refine ⟨fun b u e => hs2.sub b u (s3 b u e), fun b u e => ?_, by rw [List.length_set]; exact hs2.len, hs2.nd, hs2.has, fun i u b e1 e2 => ?_⟩
    · obtain ⟨g1, g2, g3, g4⟩ := hs2.ext b u e
      exact ⟨g1, down g2, g3, g4⟩
    · by_cases q : j = i
      · subst q
        have lt : j < L2.length := by rw [← hs2.len]; exact (List.getElem?_eq_some_iff.mp hj).1
        rw [List.getElem?_set_self lt] at e1
        cases e1
        rw [hj] at e2
        cases e2
        exact ⟨nF, o, hs2.sub _ _ (s2 _ _ upd_same), mk.mono (Sub.refl F) p2⟩
      · rw [List.getElem?_set_ne q] at e1
        have fo : flatOb u = true := List.all_eq_true.mp fl u (List.mem_of_getElem? e1)
        exact (hs2.objs i u b e1 e2).flat down fo
end
def cSnapT (i : Nat) (t : TF) : TF := fun ρ L => match ρ[i]? with
  | some (.va (.ob j)) => (match L[j]? with
    | some (.box m) => (match t (ρ.set i (.va m.fz)) (L.set j .dead) with
      | some (k, L') => if L'.all flatOb = true then some (k, L'.set j (.box m)) else none
      | none => none)
    | _ => none)
  | _ => none
section
variable {X : Cx} {e : Expr}
theorem IT.snap {t : TF} (i : Nat) (h : IT X e t) : IT X e (cSnapT i t) := by
  refine ⟨fun {Zx Z F φ L ρ σ H w L'} hs ss h' Q q => ?_⟩
  unfold cSnapT at h'
  split at h'
  · rename_i j e1
    split at h'
    · rename_i m e2
      split at h'
      · rename_i k L2 e3
        split at h'
        · rename_i fl
          simp only [Option.some.injEq, Prod.mk.injEq] at h'
          obtain ⟨rfl, rfl⟩ := h'
          obtain ⟨v, h1, h2⟩ := ss.va i _ e1
          cases h2 with
          | ob hj =>
            obtain ⟨F1, s1, hs1, r1, back⟩ := hs.still e2 hj
            refine h.run hs1 ((ss.mono s1 (List.prefix_refl φ)).reva ⟨_, e1⟩ h1 r1) e3 Q fun F2 φ2 H2 s2 p2 hs2 => ?_
            exact q F φ2 H2 (Sub.refl F) p2 (back F2 H2 φ2 L2 s2 p2 hs2 fl)
        · cases h'
      · cases h'
    · cases h'
  · cases h'
end
/-- a box, made a value -/
def cFzE (f : EF) : EF := fun ρ L => match f ρ L with
  | some (.ob j, L1) => (match L1[j]? with
    | some (.box m) => some (m.fz, L1.set j .dead)
    | _ => none)
  | _ => none
theorem IE.frB {X : Cx} {e : Expr} {f : EF} (h : IE X e f) : IE X e (cFzE f) := by
  refine ⟨fun {Zx Z F φ L ρ σ H w L'} hs ss h' Q q => ?_⟩
  unfold cFzE at h'
  split at h'
  · rename_i j L1 e1
    split at h'
    · rename_i m e2
      simp only [Option.some.injEq, Prod.mk.injEq] at h'
      obtain ⟨rfl, rfl⟩ := h'
      refine h.run hs ss e1 Q fun F1 φ1 H1 v s1 p1 hs1 r1 => ?_
      cases r1 with
      | ob hj =>
        obtain ⟨F2, s2, hs2, r2⟩ := hs1.frzB e2 hj
        exact q F2 φ1 H1 _ (s1.trans s2) p1 hs2 r2
    · cases h'
  · cases h'
/-! ### as equations -/
@[simp] theorem e_cFzE (f : EF) (ρ : Ro) (L : Lg) : cFzE f ρ L = (match f ρ L with
  | some (.ob j, L1) => (match L1[j]? with
    | some (.box m) => some (m.fz, L1.set j .dead)
    | _ => none)
  | _ => none) := id rfl
@[simp] theorem e_cForB (i : Nat) (g : GF) (body : SF) (ρ : Ro) (L : Lg) : cForB i g body ρ L = (match ρ[i]? with
  | some (.va (.ob j)) => (match L[j]? with
    | some (.box (.lst ws)) => forBN j g body (ws.length + 1) 0 ρ L
    | _ => none)
  | _ => none) := id rfl
@[simp] theorem e_cSnapT (i : Nat) (t : TF) (ρ : Ro) (L : Lg) : cSnapT i t ρ L = (match ρ[i]? with
  | some (.va (.ob j)) => (match L[j]? with
    | some (.box m) => (match t (ρ.set i (.va m.fz)) (L.set j .dead) with
      | some (k, L') => if L'.all flatOb = true then some (k, L'.set j (.box m)) else none
      | none => none)
    | _ => none)
  | _ => none) := id rfl
@[simp] theorem e_cDelB (i : Nat) (fk : EF) (ρ : Ro) (L : Lg) : cDelB i fk ρ L = (match fk ρ L with
  | none => none
  | some (k, L1) => match ρ[i]? with
    | some (.va (.ob j)) => (match L1[j]? with
      | some (.box (.dT kvs)) => (match asTKey k with
        | some k => if (kvs.any fun p => decide (p.1 = k)) = true then some (.nx ρ (L1.set j (.box (.dT (dropW kvs k))))) else none
        | none => none)
      | _ => none)
    | _ => none) := id rfl
@[simp] theorem e_cDc (src : AF) (g : GF) (tt : TF) (fk fv : EF) (vs : List Nat) (ρ : Ro) (L : Lg) : cDc src g tt fk fv vs ρ L = (match src ρ L with
  | none => none
  | some (xs, L1) => match dcLoop g tt fk fv (wipeR ρ vs) xs [] L1 with
    | none => none
    | some (kvs, L2) => some (.dT kvs, L2)) := id rfl
end Lf

set_option maxHeartbeats 4000000
/-! Lf, part AB: tables of sets with masks up to 32767. -/
namespace Lf
open PySem PySem.Spec PyProof.Rows L2
/-! ### the round of x -> 5 x + 1 -/
def geo : Nat → Nat
  | 0 => 0
  | n + 1 => 5 * geo n + 1
theorem geo_add (a : Nat) : ∀ b, geo (a + b) = 5 ^ b * geo a + geo b
  | 0 => by simp [geo]
  | b + 1 => by rw [show a + (b + 1) = a + b + 1 from rfl, geo, geo_add a b, geo, Nat.pow_succ, Nat.mul_add, Nat.mul_comm (5 ^ b) 5, Nat.mul_assoc]; omega
theorem geo_pow : ∀ n, 5 ^ n = 4 * geo n + 1
  | 0 => rfl
  | n + 1 => by rw [Nat.pow_succ, geo_pow n, geo]; omega
theorem geo_two (n : Nat) : geo (2 * n) = geo n * (2 * (2 * geo n + 1)) := by
  rw [Nat.two_mul, geo_add, geo_pow, Nat.add_mul, Nat.one_mul, Nat.mul_add, Nat.mul_add, Nat.mul_comm (4 * geo n) (geo n), Nat.mul_one]
  have : geo n * (2 * (2 * geo n)) = geo n * (4 * geo n) := by congr 1; omega
  rw [this]; omega
theorem geo_odd : ∀ n, geo n % 2 = n % 2
  | 0 => rfl
  | n + 1 => by have := geo_odd n; rw [geo]; omega
theorem cop2 (k : Nat) {x : Nat} : Nat.Coprime (2 ^ k) (2 * x + 1) := by
  refine Nat.Coprime.pow_left k ?_
  show Nat.gcd 2 (2 * x + 1) = 1
  rw [Nat.gcd_rec, show (2 * x + 1) % 2 = 1 by omega, Nat.gcd_one_left]
theorem geo_dvd : ∀ (k n : Nat), 2 ^ k ∣ geo n → 2 ^ k ∣ n
  | 0, n, _ => Nat.one_dvd n
  | k + 1, n, h => by
    have h2 : 2 ∣ geo n := Nat.dvd_trans ⟨2 ^ k, by rw [Nat.pow_succ]; omega⟩ h
    have o := geo_odd n
    obtain ⟨m, rfl⟩ : ∃ m, n = 2 * m := ⟨n / 2, by omega⟩
    rw [geo_two, Nat.mul_left_comm, Nat.pow_succ, Nat.mul_comm (2 ^ k) 2] at h
    have h3 := Nat.dvd_of_mul_dvd_mul_left (by decide) h
    have h4 := geo_dvd k m (Nat.Coprime.dvd_of_dvd_mul_right (cop2 k) h3)
    rw [Nat.pow_succ, Nat.mul_comm (2 ^ k) 2]
    exact Nat.mul_dvd_mul_left 2 h4
theorem geo_zero : ∀ k, 2 ^ k ∣ geo (2 ^ k)
  | 0 => Nat.one_dvd _
  | k + 1 => by
    rw [Nat.pow_succ, Nat.mul_comm (2 ^ k) 2, geo_two, Nat.mul_left_comm]
    exact Nat.mul_dvd_mul_left 2 (Nat.dvd_trans (geo_zero k) (Nat.dvd_mul_right _ _))
theorem lcg_geo (m : Nat) : ∀ n, lcgN m n = geo n % (m + 1)
  | 0 => by rw [geo, Nat.zero_mod]; rfl
  | n + 1 => by
    show (lcgN m n * 5 + 1) % (m + 1) = (5 * geo n + 1) % (m + 1)
    rw [lcg_geo m n, Nat.mul_comm, Nat.add_mod, Nat.mul_mod_mod, ← Nat.add_mod]
theorem lcgN_le (m : Nat) : ∀ k, lcgN m k ≤ m
  | 0 => Nat.zero_le _
  | k + 1 => Nat.le_of_lt_succ (Nat.mod_lt _ (Nat.succ_pos m))
/-- the masks that come -/
def MG (m : Nat) : Prop := m = 7 ∨ m = 31 ∨ m = 127 ∨ m = 511 ∨ m = 2047 ∨ m = 8191 ∨ m = 32767
theorem MG.pow {m : Nat} (h : MG m) : ∃ k, m + 1 = 2 ^ k := by
  rcases h with rfl | rfl | rfl | rfl | rfl | rfl | rfl
  · exact ⟨3, rfl⟩
  · exact ⟨5, rfl⟩
  · exact ⟨7, rfl⟩
  · exact ⟨9, rfl⟩
  · exact ⟨11, rfl⟩
  · exact ⟨13, rfl⟩
  · exact ⟨15, rfl⟩
theorem MG.inj0 {m : Nat} (hm : MG m) {i j : Nat} (hij : i < j) (hj : j ≤ m) : lcgN m i ≠ lcgN m j := fun e => by
  obtain ⟨k, hk⟩ := hm.pow
  obtain ⟨d, rfl⟩ : ∃ d, j = i + d := ⟨j - i, by omega⟩
  rw [lcg_geo, lcg_geo, geo_add, geo_pow, Nat.add_mul, Nat.one_mul] at e
  have z : (4 * geo d * geo i + geo i + geo d) = geo i + geo d * (2 * (2 * geo i) + 1) := by
    rw [Nat.mul_add, Nat.mul_one, Nat.mul_comm 4 (geo d), Nat.mul_assoc, show 4 * geo i = 2 * (2 * geo i) by omega]; omega
  rw [z] at e
  have dv : m + 1 ∣ geo d * (2 * (2 * geo i) + 1) := by
    have := Nat.sub_mod_eq_zero_of_mod_eq e.symm
    rw [Nat.add_sub_cancel_left] at this
    exact Nat.dvd_of_mod_eq_zero this
  rw [hk] at dv
  have := Nat.le_of_dvd (by omega) (geo_dvd k d (Nat.Coprime.dvd_of_dvd_mul_right (cop2 k) dv))
  omega
theorem MG.inj {m : Nat} (hm : MG m) {i j : Nat} (hi : i ≤ m) (hj : j ≤ m) (e : lcgN m i = lcgN m j) : i = j := by
  rcases Nat.lt_trichotomy i j with c | c | c
  · exact absurd e (hm.inj0 c hj)
  · exact c
  · exact absurd e.symm (hm.inj0 c hi)
theorem MG.nodup {m : Nat} (hm : MG m) : ((List.range (m + 1)).map (lcgN m)).Nodup := by
  refine List.pairwise_map.mpr (List.Pairwise.imp_of_mem (fun {a b} ha hb (h : a ≠ b) e => h ?_) List.nodup_range)
  rw [List.mem_range] at ha hb
  exact hm.inj (by omega) (by omega) e
theorem nd_len0 : ∀ {l D : List Nat}, l.Nodup → (∀ x ∈ l, x ∈ D) → l.length ≤ D.length
  | [], _, _, _ => Nat.zero_le _
  | x :: l, D, nd, h => by
    obtain ⟨n1, n2⟩ := List.nodup_cons.mp nd
    have hx := h x List.mem_cons_self
    have := nd_len0 (D := D.erase x) n2 fun y hy => (List.mem_erase_of_ne (fun e : y = x => n1 (e ▸ hy))).mpr (h y (List.mem_cons_of_mem _ hy))
    rw [List.length_erase_of_mem hx] at this
    have := List.length_pos_of_mem hx
    rw [List.length_cons]
    omega
theorem MG.round {m : Nat} (hm : MG m) : (∀ j, j ≤ m → ∃ b, b ≤ m ∧ lcgN m b = j) ∧ ∀ k, lcgN m (m + 1 + k) = lcgN m k := by
  constructor
  · intro j hj
    refine Classical.byContradiction fun no => ?_
    have := nd_len0 (D := (List.range (m + 1)).erase j) hm.nodup fun x hx => by
      obtain ⟨b, hb, rfl⟩ := List.mem_map.mp hx
      exact (List.mem_erase_of_ne fun e => no ⟨b, Nat.le_of_lt_succ (List.mem_range.mp hb), e⟩).mpr (List.mem_range.mpr (Nat.lt_succ_of_le (lcgN_le m b)))
    rw [List.length_erase_of_mem (List.mem_range.mpr (Nat.lt_succ_of_le hj)), List.length_map, List.length_range] at this
    omega
  · intro k
    obtain ⟨n, hn⟩ := hm.pow
    rw [lcg_geo, lcg_geo, geo_add, hn, Nat.add_mod, Nat.mod_eq_zero_of_dvd (Nat.dvd_trans (geo_zero n) (Nat.dvd_mul_left _ _)), Nat.zero_add, Nat.mod_mod]
theorem MG.inj2 {m : Nat} (hm : MG m) {a i j : Nat} (ha : a ≤ m) (hi : i ≤ m) (hj : j ≤ m) (e : lcgN m (a + i) = lcgN m (a + j)) : i = j := by
  have red : ∀ x, m < a + x → lcgN m (a + x) = lcgN m (a + x - (m + 1)) := fun x hx => by
    have := hm.round.2 (a + x - (m + 1))
    rwa [show m + 1 + (a + x - (m + 1)) = a + x by omega] at this
  by_cases c1 : m < a + i <;> by_cases c2 : m < a + j
  · rw [red i c1, red j c2] at e
    have := hm.inj (by omega) (by omega) e
    omega
  · rw [red i c1] at e
    have := hm.inj (by omega) (by omega) e
    omega
  · rw [red j c2] at e
    have := hm.inj (by omega) (by omega) e
    omega
  · have := hm.inj (by omega) (by omega) e
    omega
/-- each slot begins a run within m + 12 runs -/
theorem MG.full {m : Nat} (hm : MG m) (h : Int) {j : Nat} (hj : j ≤ m) : ∃ n, n ≤ m + 12 ∧ runI m (SetTable.bits h) n = j := by
  obtain ⟨surj, per⟩ := hm.round
  obtain ⟨a, ha, ea⟩ := surj _ (runI_le m (SetTable.bits h) 12)
  obtain ⟨b, hb, eb⟩ := surj j hj
  have tail : ∀ k, runI m (SetTable.bits h) (12 + k) = lcgN m (a + k) := fun k => by
    rw [runI_tail (bits_lt h), ← ea, lcgN_add]
  by_cases c : a ≤ b
  · exact ⟨12 + (b - a), by omega, by rw [tail, show a + (b - a) = b by omega, eb]⟩
  · exact ⟨12 + (m + 1 + b - a), by omega, by rw [tail, show a + (m + 1 + b - a) = m + 1 + b by omega, per, eb]⟩
theorem MG.meets {m : Nat} (hm : MG m) (h : Int) {j : Nat} (hj : j ≤ m) : ∃ k, k < 10 * SetTable.turns m ∧ way m h k = j := by
  obtain ⟨n, hn, e⟩ := hm.full h hj
  obtain ⟨k, hk, e2⟩ := run_nth m (SetTable.bits h) n
  refine ⟨k, Nat.lt_of_le_of_lt hk (by unfold SetTable.turns; omega), ?_⟩
  show (nth m _ k).j = j
  rw [e2]; exact e
theorem MG.odd {m : Nat} (hm : MG m) : m % 2 = 1 := by
  rcases hm with rfl | rfl | rfl | rfl | rfl | rfl | rfl <;> rfl
theorem MG.small {m : Nat} (hm : MG m) : 7 ≤ m ∧ m ≤ 32767 := by
  rcases hm with rfl | rfl | rfl | rfl | rfl | rfl | rfl <;> decide
theorem way_in (m : Nat) (h : Int) (k : Nat) : way m h k ≤ m := by
  have hi : SetTable.bits h % (m + 1) ≤ m := Nat.le_of_lt_succ (Nat.mod_lt _ (Nat.succ_pos m))
  obtain ⟨r1, r2, _⟩ := runEnd_bd hi
  exact Nat.le_trans (Nat.le_add_right _ _) (nth_in k (runAt m (SetTable.bits h % (m + 1)) (SetTable.bits h)) (show SetTable.bits h % (m + 1) + (SetTable.runEnd m (SetTable.bits h % (m + 1)) - SetTable.bits h % (m + 1)) ≤ m by omega))
/-! ### a good table -/
/-- slot j is where the way of h ends that goes over taken slots alone -/
def Ends1 (m : Nat) (taken : Nat → Prop) (h : Int) (j : Nat) : Prop := ∃ k, way m h k = j ∧ ∀ i, i < k → taken (way m h i)
structure Tab (t : SetTable) (hs : List Int) : Prop where
  mg : MG t.mask
  dm : t.dummies = #[]
  ris : Ris t.place.toList
  sz : t.place.size = hs.length
  bd : ∀ x ∈ t.place.toList, x ≤ t.mask
  at_ : ∀ (i j : Nat) (h : Int), hs[i]? = some h → t.place.toList[i]? = some j → Ends1 t.mask (· ∈ t.place.toList) h j
theorem Tab.gap {t : SetTable} {hs : List Int} (T : Tab t hs) (room : hs.length ≤ t.mask) (h : Int) : ∃ K, K ≤ 10 * (12 + hs.length) ∧ way t.mask h K ∉ t.place.toList ∧ ∀ k, k < K → way t.mask h k ∈ t.place.toList := by
  obtain ⟨surj, _⟩ := T.mg.round
  obtain ⟨a, ha, ea⟩ := surj _ (runI_le t.mask (SetTable.bits h) 12)
  have tail : ∀ k, runI t.mask (SetTable.bits h) (12 + k) = lcgN t.mask (a + k) := fun k => by
    rw [runI_tail (bits_lt h), ← ea, lcgN_add]
  obtain ⟨i, hi, ni⟩ : ∃ i, i ≤ hs.length ∧ runI t.mask (SetTable.bits h) (12 + i) ∉ t.place.toList := by
    refine Classical.byContradiction fun no => ?_
    have nd : ((List.range (hs.length + 1)).map fun i => runI t.mask (SetTable.bits h) (12 + i)).Nodup := by
      refine List.pairwise_map.mpr (List.Pairwise.imp_of_mem (fun {x y} hx hy (c : x ≠ y) e => c ?_) List.nodup_range)
      rw [List.mem_range] at hx hy
      rw [tail, tail] at e
      exact T.mg.inj2 ha (by omega) (by omega) e
    have := nd_len0 (D := t.place.toList) nd fun x hx => by
      obtain ⟨i, hi, rfl⟩ := List.mem_map.mp hx
      rw [List.mem_range] at hi
      exact Classical.byContradiction fun z => no ⟨i, by omega, z⟩
    rw [List.length_map, List.length_range] at this
    have e1 : t.place.toList.length = hs.length := by rw [Array.length_toList, T.sz]
    omega
  obtain ⟨k, hk, e2⟩ := run_nth t.mask (SetTable.bits h) (12 + i)
  have ek : way t.mask h k ∉ t.place.toList := by
    have : (nth t.mask (runAt t.mask (SetTable.bits h % (t.mask + 1)) (SetTable.bits h)) k).j = runI t.mask (SetTable.bits h) (12 + i) := by rw [e2]; rfl
    intro z
    refine ni ?_
    rw [← this]
    exact z
  obtain ⟨K, a1, a2, a3⟩ := st_least (p := fun k => way t.mask h k ∉ t.place.toList) k ek
  exact ⟨K, by omega, a2, fun i hi => Classical.byContradiction fun z => a3 i hi z⟩
theorem Tab.ahead {t : SetTable} {hs : List Int} (T : Tab t hs) {h : Int} {K i j : Nat} (gap : way t.mask h K ∉ t.place.toList) (hi : hs[i]? = some h) (hj : t.place.toList[i]? = some j) : ∃ k, k < K ∧ way t.mask h k = j := by
  obtain ⟨k, e, all⟩ := T.at_ i j h hi hj
  refine ⟨k, Classical.byContradiction fun z => ?_, e⟩
  rcases Nat.lt_or_ge K k with c | c
  · exact gap (all K c)
  · have : k = K := by omega
    subst this
    rw [e] at gap
    exact gap (List.mem_of_getElem? hj)
/-- one more -/
theorem Tab.more {t : SetTable} {hs : List Int} (T : Tab t hs) {h : Int} {j : Nat} (hj : j ∉ t.place.toList) (he : Ends1 t.mask (· ∈ t.place.toList) h j) :
    ∃ p, (t.put j).2 = p ∧ p ≤ hs.length ∧ Tab (t.put j).1 (hs.take p ++ h :: hs.drop p) ∧ (t.put j).1.mask = t.mask ∧ (t.put j).1.led = t.led ∧ (t.put j).1.plain = t.plain ∧ (t.put j).1.fill = hs.length + 1 := by
  obtain ⟨p, hp⟩ : ∃ p, p = SetTable.below t.place j := ⟨_, rfl⟩
  have cut := (below_cut T.ris j).1
  rw [← hp] at cut
  have lh : p ≤ hs.length := by rw [← T.sz]; exact cut
  have lp : p ≤ t.place.toList.length := by rw [Array.length_toList]; exact cut
  have pl : (t.put j).1.place.toList = t.place.toList.take p ++ j :: t.place.toList.drop p := by rw [hp]; exact put_place t j
  have n0 : (t.put j).1.place.size = hs.length + 1 := by
    have e := congrArg List.length pl
    rw [len_ins _ lp, Array.length_toList, Array.length_toList, T.sz] at e
    exact e
  have keep : ∀ x, x ∈ t.place.toList → x ∈ (t.put j).1.place.toList := fun x hx => by rw [pl]; exact mem_ins.mpr (.inr hx)
  obtain ⟨k0, e0, a0⟩ := he
  refine ⟨p, hp.symm, lh, ⟨T.mg, put_dm T.dm j, ris_insert T.ris fun e => hj (List.mem_of_getElem? (by rw [Array.getElem?_toList]; exact e)), by rw [n0, len_ins _ lh], fun x hx => ?_, fun i j' h' h1 h2 => ?_⟩, rfl, rfl, rfl, ?_⟩
  · rw [pl] at hx
    rcases mem_ins.mp hx with rfl | hx
    · rw [← e0]; exact way_in _ _ _
    · exact T.bd x hx
  · rw [tins_get hs lh] at h1
    rw [pl, tins_get _ lp] at h2
    have lift : Ends1 t.mask (· ∈ t.place.toList) h' j' → Ends1 (t.put j).1.mask (· ∈ (t.put j).1.place.toList) h' j' := fun ⟨k, e, a⟩ => ⟨k, e, fun i hi => keep _ (a i hi)⟩
    by_cases c : i < p
    · rw [if_pos c] at h1 h2
      exact lift (T.at_ i j' h' h1 h2)
    · by_cases d : i = p
      · rw [if_neg c, if_pos d] at h1 h2
        cases h1; cases h2
        exact lift ⟨k0, e0, a0⟩
      · rw [if_neg c, if_neg d] at h1 h2
        exact lift (T.at_ (i - 1) j' h' h1 h2)
  · show (t.put j).1.place.size + (t.put j).1.dummies.size = _
    rw [n0, put_dm T.dm j]; rfl
/-! ### a table laid anew -/
/-- the first free slot on the way of h -/
theorem free_at {m : Nat} (hm : MG m) (owner : Array (Option Nat)) (h : Int) {j : Nat} (hj : j ≤ m) (fr : oAt owner j = none) :
    ∃ j', SetTable.layClean.free m owner (SetTable.turns m) (SetTable.bits h % (m + 1)) (SetTable.bits h) = some j' ∧ j' ≤ m ∧ oAt owner j' = none ∧ Ends1 m (fun x => oAt owner x ≠ none) h j' := by
  obtain ⟨n, hn, e⟩ := hm.full h hj
  have ew : (nth m (runAt m (SetTable.bits h % (m + 1)) (SetTable.bits h)) (off m (SetTable.bits h % (m + 1)) (SetTable.bits h) n)).j = j := by
    rw [nth_off, itL_run]; exact e
  obtain ⟨K, a1, a2, a3⟩ := st_least (p := fun k => oAt owner (way m h k) = none) _ (show oAt owner (way m h (off m (SetTable.bits h % (m + 1)) (SetTable.bits h) n)) = none by
    show oAt owner (nth m _ _).j = none
    rw [ew]; exact fr)
  refine ⟨way m h K, free_spec m owner _ n _ _ K (by unfold SetTable.turns; omega) a1 (fun k hk => ?_) (by rw [show oAt owner (nth m (runAt m (SetTable.bits h % (m + 1)) (SetTable.bits h)) K).j = none from a2]; rfl), way_in _ _ _, a2, K, rfl, fun i hi => a3 i hi⟩
  have z := a3 k hk
  cases q : oAt owner (nth m (runAt m (SetTable.bits h % (m + 1)) (SetTable.bits h)) k).j with
  | none => exact absurd q z
  | some _ => rfl
/-- who sits where, the hashes in ds laid -/
structure Sit (m : Nat) (ds : List Int) (owner : Array (Option Nat)) : Prop where
  sz : owner.size = m + 1
  at_ : ∀ j k, j ≤ m → oAt owner j = some k → ∃ h, ds[k]? = some h ∧ Ends1 m (fun x => oAt owner x ≠ none) h j
  all : ∀ k, k < ds.length → ∃ j, j ≤ m ∧ oAt owner j = some k
  few : ∃ js : List Nat, js.length = ds.length ∧ ∀ j, j ≤ m → oAt owner j ≠ none → j ∈ js
theorem Sit.one {m : Nat} (hm : MG m) {ds : List Int} {owner : Array (Option Nat)} (S : Sit m ds owner) (room : ds.length ≤ m) (h : Int) :
    ∃ owner', stepF m (some (owner, ds.length)) h = some (owner', (ds ++ [h]).length) ∧ Sit m (ds ++ [h]) owner' := by
  obtain ⟨js, l1, l2⟩ := S.few
  obtain ⟨j0, hj0, n0⟩ := st_missing js (m + 1) (by omega)
  have f0 : oAt owner j0 = none := Classical.byContradiction fun z => n0 (l2 j0 (by omega) z)
  obtain ⟨j, e, jm, fj, en⟩ := free_at hm owner h (Nat.le_of_lt_succ hj0) f0
  have js' : j < owner.size := by rw [S.sz]; omega
  have self := oAt_set_self (some ds.length) js'
  have other : ∀ i, i ≠ j → oAt (owner.setIfInBounds j (some ds.length)) i = oAt owner i := fun i hi => oAt_set_ne _ hi
  have grow : ∀ {h' : Int} {i : Nat}, Ends1 m (fun x => oAt owner x ≠ none) h' i → Ends1 m (fun x => oAt (owner.setIfInBounds j (some ds.length)) x ≠ none) h' i := fun {h' i} ⟨k, e, a⟩ => by
    refine ⟨k, e, fun x hx => ?_⟩
    by_cases c : way m h' x = j
    · show oAt _ (way m h' x) ≠ none
      rw [c, self]; exact fun z => nomatch z
    · show oAt _ (way m h' x) ≠ none
      rw [other _ c]; exact a x hx
  refine ⟨owner.setIfInBounds j (some ds.length), by rw [stepF_some e, List.length_append]; rfl, by rw [Array.size_setIfInBounds]; exact S.sz, fun i k hi ei => ?_, fun k hk => ?_, j :: js, by simp [l1], fun i hi ei => ?_⟩
  · by_cases c : i = j
    · subst c
      rw [self] at ei
      cases ei
      exact ⟨h, by rw [List.getElem?_append_right (Nat.le_refl _)]; simp, grow en⟩
    · rw [other i c] at ei
      obtain ⟨h', g1, g2⟩ := S.at_ i k hi ei
      exact ⟨h', by rw [List.getElem?_append_left (List.getElem?_eq_some_iff.mp g1).1]; exact g1, grow g2⟩
  · rw [List.length_append] at hk
    by_cases c : k < ds.length
    · obtain ⟨i, hi, ei⟩ := S.all k c
      exact ⟨i, hi, by rw [other i (fun z => by rw [z, fj] at ei; cases ei)]; exact ei⟩
    · have : k = ds.length := by simp at hk; omega
      exact ⟨j, jm, by rw [this]; exact self⟩
  · by_cases c : i = j
    · rw [c]; exact List.mem_cons_self
    · rw [other i c] at ei
      exact List.mem_cons_of_mem _ (l2 i hi ei)
theorem Sit.rest {m : Nat} (hm : MG m) : ∀ (more ds : List Int) (owner : Array (Option Nat)), Sit m ds owner → ds.length + more.length ≤ m + 1 → ∃ owner', more.foldl (stepF m) (some (owner, ds.length)) = some (owner', (ds ++ more).length) ∧ Sit m (ds ++ more) owner'
  | [], ds, owner, S, _ => ⟨owner, by rw [List.append_nil]; rfl, by rw [List.append_nil]; exact S⟩
  | h :: more, ds, owner, S, hl => by
    simp only [List.length_cons] at hl
    obtain ⟨o1, e1, S1⟩ := S.one hm (by omega) h
    obtain ⟨o2, e2, S2⟩ := Sit.rest hm more (ds ++ [h]) o1 S1 (by simp; omega)
    rw [List.append_assoc] at e2 S2
    exact ⟨o2, by rw [List.foldl_cons, e1]; exact e2, S2⟩
theorem Sit.lay {m : Nat} (hm : MG m) {hs : Array Int} (hn : hs.size ≤ m) : ∃ owner, SetTable.layClean m hs = some owner ∧ Sit m hs.toList owner := by
  have S0 : Sit m [] (Array.replicate (m + 1) none) := ⟨by simp, fun j k hj e => (by rw [oAt_init hj] at e; cases e), fun k hk => absurd hk (Nat.not_lt_zero k), [], rfl, fun j hj e => absurd (oAt_init hj) e⟩
  obtain ⟨owner, e, S⟩ := Sit.rest hm hs.toList [] _ S0 (by simp; omega)
  rw [List.nil_append] at S
  refine ⟨owner, ?_, S⟩
  rw [layClean_eq]
  have e' : hs.toList.foldl (stepF m) (some (Array.replicate (m + 1) none, 0)) = some (owner, ([] ++ hs.toList).length) := e
  rw [e']; rfl
theorem lay_tab (t : SetTable) {hs : Array Int} {wanted m : Nat} (hw : SetTable.sizeAbove wanted - 1 = m) (hm : MG m) (hn : hs.size ≤ m) :
    ∃ t' order, t.relaid hs wanted = some (t', order) ∧ order.toList.Perm (List.range hs.size) ∧ Tab t' (order.toList.map fun i => hs.getD i 0) ∧ t'.mask = m ∧ t'.led = t.led ∧ t'.plain = t.plain := by
  obtain ⟨owner, e, S⟩ := Sit.lay hm hn
  obtain ⟨q, hq⟩ : ∃ q, q = liveOf m owner := ⟨_, rfl⟩
  have mem : ∀ j k, (j, k) ∈ q ↔ j ≤ m ∧ oAt owner j = some k := fun j k => by rw [hq]; exact mem_live S.sz
  have ris : Ris (q.map (·.1)) ∧ ∀ x ∈ q.map (·.1), x ∈ List.range (m + 1) := by
    rw [hq]
    exact ris_live (fun j => owner.getD j none) (List.range (m + 1)) (by unfold Ris; exact List.pairwise_lt_range)
  have hsl : hs.toList.length = hs.size := rfl
  have len : q.length = hs.size := by
    obtain ⟨js, l1, l2⟩ := S.few
    have a1 : (q.map (·.1)).length ≤ js.length := nat_nodup_len _ _ (ris.1.imp fun h => Nat.ne_of_lt h) fun x hx => by
      obtain ⟨⟨y, k⟩, hy, rfl⟩ := List.mem_map.mp hx
      obtain ⟨b1, b2⟩ := (mem y k).mp hy
      exact l2 y b1 (by rw [b2]; exact fun z => nomatch z)
    have a2 : (List.range hs.size).length ≤ (q.map (·.2)).length := nat_nodup_len _ _ List.nodup_range fun k hk => by
      obtain ⟨j, b1, b2⟩ := S.all k (List.mem_range.mp hk)
      exact List.mem_map.mpr ⟨(j, k), (mem j k).mpr ⟨b1, b2⟩, rfl⟩
    rw [List.length_map] at a1
    rw [List.length_map, List.length_range] at a2
    omega
  refine ⟨tabOf t m owner, (q.map (·.2)).toArray, by rw [relaid_eq, hw, e, hq]; rfl, perm_range hs.size _ (by simp [len]) fun k hk => ?_, ⟨hm, rfl, ?_, ?_, fun x hx => ?_, fun i j h h1 h2 => ?_⟩, rfl, rfl, rfl⟩
  · obtain ⟨j, b1, b2⟩ := S.all k hk
    exact List.mem_map.mpr ⟨(j, k), (mem j k).mpr ⟨b1, b2⟩, rfl⟩
  · show Ris ((liveOf m owner).map (·.1))
    rw [← hq]; exact ris.1
  · show ((liveOf m owner).map (·.1)).toArray.size = _
    rw [← hq]; simp
  · have hx' : x ∈ (liveOf m owner).map (·.1) := hx
    rw [← hq] at hx'
    exact Nat.le_of_lt_succ (List.mem_range.mp (ris.2 x hx'))
  · have h2' : ((liveOf m owner).map (·.1))[i]? = some j := h2
    rw [← hq, List.getElem?_map] at h2'
    have h1' : ((q.map (·.2)).map fun i => hs.getD i 0)[i]? = some h := h1
    rw [List.getElem?_map, List.getElem?_map] at h1'
    cases z : q[i]? with
    | none => rw [z] at h2'; cases h2'
    | some y =>
      obtain ⟨y1, k⟩ := y
      rw [z] at h1' h2'
      simp only [Option.map_some, Option.some.injEq] at h1' h2'
      subst h2'
      obtain ⟨b1, b2⟩ := (mem y1 k).mp (List.mem_of_getElem? z)
      obtain ⟨h0, g1, K, g2, g3⟩ := S.at_ y1 k b1 b2
      have : h0 = h := by
        rw [← h1', Array.getD_eq_getD_getElem?, ← Array.getElem?_toList, g1]; rfl
      subst this
      refine ⟨K, g2, fun x hx => ?_⟩
      show way m h0 x ∈ (liveOf m owner).map (·.1)
      rw [← hq]
      cases o : oAt owner (way m h0 x) with
      | none => exact absurd o (g3 x hx)
      | some k2 => exact List.mem_map.mpr ⟨(way m h0 x, k2), (mem _ _).mpr ⟨way_in _ _ _, o⟩, rfl⟩
end Lf

set_option maxHeartbeats 4000000
/-! Lf, part AC: sets of tuples of ints, up to 9799 of them. -/
namespace Lf
open PySem PySem.Spec PyProof.Rows L2
section
variable {P : Program} {w : World} {A : Around} {E : Value → Shared → Prop} {s : Shared}
/-- a set of tuples of ints stands at a; Ls: its tuples in the order of their slots -/
structure SetG (P : Program) (w : World) (h : Heap) (a : Addr) (Ls : List (Addr × List Int)) (es : Array (Int × Value)) (ep : Nat) (t : SetTable) : Prop where
  ob : ∃ o, h.get? a = some o ∧ o.ExactSet ∧ o.data = .set es ep t
  rows : es.toList = rowsOf P w Ls
  tab : Tab t (Ls.map fun p => thash P w p.2)
  nd : (Ls.map (·.2)).Nodup
  tup : ∀ p ∈ Ls, IsT P w h p.2 p.1
  plain : t.plain = true
  led : w.params.followText "set-order" = true ∨ t.led = true
  room : Ls.length * 5 < t.mask * 3
  few : Ls.length < 9800
variable {a : Addr} {Ls : List (Addr × List Int)} {es : Array (Int × Value)} {ep : Nat} {t : SetTable}
theorem SetG.esz {h : Heap} (S : SetG P w h a Ls es ep t) : es.size = Ls.length := by
  have e := congrArg List.length S.rows
  rw [Array.length_toList] at e
  rw [e]; unfold rowsOf; exact List.length_map _
theorem SetG.psz {h : Heap} (S : SetG P w h a Ls es ep t) : t.place.size = Ls.length := by rw [S.tab.sz, List.length_map]
theorem SetG.fits {h : Heap} (S : SetG P w h a Ls es ep t) : t.fits es.size = true := by
  have e1 := S.psz
  have e2 := S.esz
  have e3 := S.room
  unfold SetTable.fits SetTable.fill
  rw [S.tab.dm, Bool.and_eq_true, beq_iff_eq, decide_eq_true_eq]
  exact ⟨by rw [e1, e2], by simp only [Array.size_empty]; omega⟩
theorem SetG.row {h : Heap} (S : SetG P w h a Ls es ep t) {i : Nat} {p : Addr × List Int} (e : Ls[i]? = some p) : es[i]? = some (thash P w p.2, Value.ref p.1) := by
  rw [← Array.getElem?_toList, S.rows]
  unfold rowsOf
  rw [List.getElem?_map, e]; rfl
theorem nth_clean (m : Nat) : ∀ (n : Nat) (p : SetTable.Probe), p.dummy = none → (nth m p n).dummy = none
  | 0, _, h => h
  | n + 1, p, h => nth_clean m n (adv m p) (by unfold adv; split <;> exact h)
/-- the search, from the c-th step on; K: the first gap -/
theorem SetG.look (S : SetG P w s.heap a Ls es ep t) {x : Addr} {k : List Int} (hx : IsT P w s.heap k x) (hu : A.units < cLine) {K : Nat} (K1 : K < 10 * SetTable.turns t.mask) (K2 : way t.mask (thash P w k) K ∉ t.place.toList) (K3 : ∀ i, i < K → way t.mask (thash P w k) i ∈ t.place.toList)
    {Q : SetFound → Shared → Prop} (there : k ∈ Ls.map (·.2) → Q (.there none) s) (gap : k ∉ Ls.map (·.2) → Q (.free (way t.mask (thash P w k) K) false) s) :
    ∀ (f c : Nat) (stand : Option SetTable.Probe), stand.getD (t.probeStart (thash P w k)) = nth t.mask (t.probeStart (thash P w k)) c → c ≤ K → K - c < f →
      (∀ (i : Nat) (p : Addr × List Int), Ls[i]? = some p → p.2 = k → ∃ c', c ≤ c' ∧ c' < K ∧ t.place.toList[i]? = some (way t.mask (thash P w k) c')) →
      wpAny (model P w) A (setSearchFrom a (.ref x) (thash P w k) true f stand) Q E s
  | 0, c, stand, _, _, hf, _ => absurd hf (Nat.not_lt_zero _)
  | f + 1, c, stand, hst, hc, hf, still => by
    obtain ⟨o, ho, hex, hd⟩ := S.ob
    obtain ⟨h, eh⟩ : ∃ h, h = thash P w k := ⟨_, rfl⟩
    have odd := S.tab.mg.odd
    rw [setSearchFrom_succ]
    refine wpAny_bind (wpAny_setState_of ho hd S.fits ?_)
    dsimp only
    refine wp_if_neg (by unfold SetTable.gaveWay; rw [odd]; decide) ?_
    try refine wpAny_bind (wpAny_pure ?_)
    have seq : ∀ q, nth t.mask (nth t.mask (t.probeStart (thash P w k)) c) q = nth t.mask (t.probeStart (thash P w k)) (c + q) := fun q => (nth_add t.mask c _ q).symm
    have wy : ∀ q, (nth t.mask (t.probeStart (thash P w k)) q).j = way t.mask (thash P w k) q := fun q => rfl
    have told := go_spec t S.tab.ris S.tab.dm (fun i => (es[i]?.map (·.1)).getD 0) (thash P w k) (10 * SetTable.turns t.mask) (K - c) (nth t.mask (t.probeStart (thash P w k)) c) (nth_clean _ _ _ rfl) (by omega)
      (fun q hq => by rw [seq, wy]; exact K3 _ (by omega)) (by rw [seq, wy, show c + (K - c) = K by omega]; exact K2)
    have hash : ∀ (i : Nat) (p : Addr × List Int), Ls[i]? = some p → (es[i]?.map (·.1)).getD 0 = thash P w p.2 := fun i p hp => by rw [S.row hp]; rfl
    rcases told with ⟨q, i, hq, hi, hh, no, pr⟩ | ⟨no, pr⟩
    · rw [seq, wy] at hi
      rw [seq, seq, wy] at pr
      have pr' : t.probe (fun i => (es[i]?.map (·.1)).getD 0) (thash P w k) (stand.getD (t.probeStart (thash P w k))) = some (.candidate (way t.mask (thash P w k) (c + q)) i (nth t.mask (t.probeStart (thash P w k)) (c + (q + 1)))) := by rw [hst]; exact pr
      rw [pr']
      dsimp only
      have il : i < Ls.length := by
        have z := (List.getElem?_eq_some_iff.mp hi).1
        rw [Array.length_toList, S.psz] at z
        exact z
      obtain ⟨p, hp⟩ : ∃ p, Ls[i]? = some p := ⟨_, List.getElem?_eq_getElem il⟩
      have pm : p ∈ Ls := List.mem_of_getElem? hp
      have live : t.slot (way t.mask (thash P w k) (c + q)) = .live i := slot_live S.tab.ris hi
      have go : wpAny (model P w) A (searchRest a (.ref x) (thash P w k) true f es t (way t.mask (thash P w k) (c + q)) i (nth t.mask (t.probeStart (thash P w k)) (c + (q + 1)))) Q E s := by
        unfold searchRest
        rw [S.row hp]
        dsimp only
        refine wpAny_bind (wpAny_holding (wpAny_eqBool_tuple hu (S.tup p pm) hx ?_))
        refine wpAny_bind (wpAny_setState_of ho hd S.fits ?_)
        dsimp only
        by_cases same : p.2 = k
        · refine wp_if_pos (by simp [same]) (wpAny_pure (there ?_))
          exact List.mem_map.mpr ⟨p, pm, same⟩
        · refine wp_if_neg (by simp [same]) ?_
          try refine wpAny_bind (wpAny_pure ?_)
          rw [sameMem]
          dsimp only
          simp only [if_true, live, S.row hp]
          refine wpAny_bind (wpAny_isSame_ref_self (wpAny_bind (wpAny_pure ?_)))
          simp only [if_true]
          refine wp_if_neg (by simp [same]) ?_
          refine S.look hx hu K1 K2 K3 there gap f (c + (q + 1)) _ rfl (by omega) (by omega) fun i0 p0 h0 k0 => ?_
          obtain ⟨c', b1, b2, b3⟩ := still i0 p0 h0 k0
          refine ⟨c', ?_, b2, b3⟩
          have far : c + q < c' := by
            refine Classical.byContradiction fun z => ?_
            by_cases z2 : c' = c + q
            · rw [z2] at b3
              have e := slot_live S.tab.ris b3
              rw [live] at e
              injection e with e
              rw [← e, hp] at h0
              cases h0
              exact same k0
            · refine no (c' - c) i0 (by omega) (by rw [seq, wy, show c + (c' - c) = c' by omega]; exact b3) ?_
              show (es[i0]?.map (·.1)).getD 0 = _
              rw [hash i0 p0 h0, k0]
          omega
      by_cases tl : t.led = true
      · refine wp_if_neg (by simp [tl]) ?_
        try refine wpAny_bind (wpAny_pure ?_)
        exact go
      · refine wp_if_pos (by simp [tl]) (wpAny_bind (seen_tup hx (fun y hy => ?_) ?_))
        · obtain ⟨e, he, rfl⟩ := List.mem_map.mp hy
          have he2 : e ∈ es.toList := by
            have z : e ∈ es ∧ e.1 = thash P w k := by simpa using he
            simpa using z.1
          rw [S.rows] at he2
          obtain ⟨r, hr, rfl⟩ := List.mem_map.mp he2
          exact ⟨r.2, r.1, rfl, S.tup r hr⟩
        · refine wp_if_neg (by decide) ?_
          try refine wpAny_bind (wpAny_pure ?_)
          exact go
    · rw [seq, wy, show c + (K - c) = K by omega] at pr
      have pr' : t.probe (fun i => (es[i]?.map (·.1)).getD 0) (thash P w k) (stand.getD (t.probeStart (thash P w k))) = some (.empty (way t.mask (thash P w k) K) none) := by rw [hst]; exact pr
      rw [pr']
      dsimp only
      refine wpAny_pure (gap fun hm => ?_)
      obtain ⟨p0, hp0, k0⟩ := List.mem_map.mp hm
      obtain ⟨i0, hi0, e0⟩ := List.getElem_of_mem hp0
      have h0 : Ls[i0]? = some p0 := by rw [List.getElem?_eq_getElem hi0, e0]
      obtain ⟨c', b1, b2, b3⟩ := still i0 p0 h0 k0
      refine no (c' - c) i0 (by omega) (by rw [seq, wy, show c + (c' - c) = c' by omega]; exact b3) ?_
      show (es[i0]?.map (·.1)).getD 0 = _
      rw [hash i0 p0 h0, k0]
/-- the search that adding makes -/
theorem SetG.seek (S : SetG P w s.heap a Ls es ep t) {x : Addr} {k : List Int} (hx : IsT P w s.heap k x) (hu : A.units < cLine) {Q : SetFound → Shared → Prop} (there : k ∈ Ls.map (·.2) → Q (.there none) s)
    (gap : ∀ j, k ∉ Ls.map (·.2) → j ∉ t.place.toList → Ends1 t.mask (· ∈ t.place.toList) (thash P w k) j → Q (.free j false) s) : wpAny (model P w) A (setSearch a (.ref x) (thash P w k) true) Q E s := by
  have room := S.room
  obtain ⟨K, K1, K2, K3⟩ := S.tab.gap (by rw [List.length_map]; omega) (thash P w k)
  rw [List.length_map] at K1
  have big : K < 100000 := by
    have := S.few
    omega
  have K1 : K < 10 * SetTable.turns t.mask := by
    unfold SetTable.turns
    omega
  unfold setSearch
  refine S.look hx hu K1 K2 K3 there (fun z => gap _ z K2 ⟨K, rfl, K3⟩) 100000 0 none rfl (Nat.zero_le _) (by omega) fun i p hp hk => ?_
  have il : i < t.place.toList.length := by
    rw [Array.length_toList, S.psz]
    exact (List.getElem?_eq_some_iff.mp hp).1
  have hj := List.getElem?_eq_getElem il
  obtain ⟨c, c1, c2⟩ := S.tab.ahead K2 (show (Ls.map fun p => thash P w p.2)[i]? = some (thash P w k) by rw [List.getElem?_map, hp, ← hk]; rfl) hj
  exact ⟨c, Nat.zero_le _, c1, by rw [hj, c2]⟩
/-- laid anew -/
theorem relayG {o : Obj} (ho : s.heap.get? a = some o) (hex : o.ExactSet) (hd : o.data = .set es ep t) (rows : es.toList = rowsOf P w Ls) (psz : t.place.size = es.size) (dm : t.dummies = #[]) (full : es.size ≤ t.mask)
    (nd : (Ls.map (·.2)).Nodup) (tup : ∀ p ∈ Ls, IsT P w s.heap p.2 p.1) (pl : t.plain = true) (ld : w.params.followText "set-order" = true ∨ t.led = true) (few : Ls.length < 9800) {wanted m : Nat}
    (hw : SetTable.sizeAbove wanted - 1 = m) (hm : MG m) (hw2 : SetTable.sizeAbove wanted ≤ 32768) (room : Ls.length * 5 < m * 3) {Q : Unit → Shared → Prop}
    (fin : ∀ h' L' es' ep' t', Heap.SameBut a s.heap h' → SetG P w h' a L' es' ep' t' → L'.Perm Ls → Q () { s with heap := h' }) : wpAny (model P w) A (setRelay a wanted) Q E s := by
  have esz : es.size = Ls.length := by
    have e := congrArg List.length rows
    rw [Array.length_toList] at e
    rw [e]; unfold rowsOf; exact List.length_map _
  have fits : t.fits es.size = true := by
    unfold SetTable.fits SetTable.fill
    rw [dm, Bool.and_eq_true, beq_iff_eq, decide_eq_true_eq]
    exact ⟨psz, by simp only [Array.size_empty]; omega⟩
  obtain ⟨t', order, e, pm, T, em, el, ep'⟩ := lay_tab t (hs := es.map (·.1)) hw hm (by rw [Array.size_map]; omega)
  rw [Array.size_map, esz] at pm
  obtain ⟨L2, r1, r2, r3⟩ := order_rows Ls es order rows pm
  rw [← r3] at T
  have sz2 : (order.filterMap (es[·]?)).size = es.size := by
    have z := congrArg List.length r1
    unfold rowsOf at z
    rw [Array.length_toList, List.length_map, r2.length_eq] at z
    rw [z, esz]
  rw [setRelay_eq]
  refine wpAny_bind (wpAny_setState_of ho hd fits ?_)
  dsimp only
  refine wp_if_neg (by rw [sizeLine_eq]; omega) ?_
  try refine wpAny_bind (wpAny_pure ?_)
  rw [e]
  dsimp only
  refine wpAny_bind (wp_if_neg (by rw [sz2]; simp) ?_)
  try refine wpAny_bind (wpAny_pure ?_)
  refine wpAny_pure ?_
  dsimp only
  refine wpAny_storeSet_of ho hd ?_ (by rw [sz2, esz, sizeLine_eq]; omega)
  have sb : Heap.SameBut a s.heap (s.heap.update a (Obj.putSet (order.filterMap (es[·]?)) t')) := Heap.SameBut.update ..
  exact fin _ L2 _ (ep + 1) t' sb ⟨⟨_, store_at ho hd, ⟨hex.1, hex.2.1, hex.2.2⟩, rfl⟩, r1, T, (r2.map (·.2)).nodup_iff.mpr nd, fun p hp => isT_same (tup p (r2.mem_iff.mp hp)) ho hd sb, by rw [ep']; exact pl, by rw [el]; exact ld, by rw [r2.length_eq, em]; exact room, by rw [r2.length_eq]; exact few⟩ r2
theorem grow5 : SetTable.sizeAbove (SetTable.grown 5) = 32 := by decide +kernel
theorem grow19 : SetTable.sizeAbove (SetTable.grown 19) = 128 := by decide +kernel
theorem grow77 : SetTable.sizeAbove (SetTable.grown 77) = 512 := by decide +kernel
theorem grow307 : SetTable.sizeAbove (SetTable.grown 307) = 2048 := by decide +kernel
theorem grow1229 : SetTable.sizeAbove (SetTable.grown 1229) = 8192 := by decide +kernel
theorem grow4915 : SetTable.sizeAbove (SetTable.grown 4915) = 32768 := by decide +kernel
/-- how the table grows -/
theorem MG.next {m n : Nat} (hm : MG m) (h1 : n * 5 < m * 3) (h2 : (n + 1) * 5 ≥ m * 3) (few : n + 1 < 9800) : ∃ m', SetTable.sizeAbove (SetTable.grown (n + 1)) - 1 = m' ∧ MG m' ∧ SetTable.sizeAbove (SetTable.grown (n + 1)) ≤ 32768 ∧ (n + 1) * 5 < m' * 3 ∧ n + 1 ≤ m := by
  rcases hm with rfl | rfl | rfl | rfl | rfl | rfl | rfl
  · have : n = 4 := by omega
    subst this
    exact ⟨31, by rw [grow5], .inr (.inl rfl), by rw [grow5]; decide, by decide, by decide⟩
  · have : n = 18 := by omega
    subst this
    exact ⟨127, by rw [grow19], .inr (.inr (.inl rfl)), by rw [grow19]; decide, by decide, by decide⟩
  · have : n = 76 := by omega
    subst this
    exact ⟨511, by rw [grow77], .inr (.inr (.inr (.inl rfl))), by rw [grow77]; decide, by decide, by decide⟩
  · have : n = 306 := by omega
    subst this
    exact ⟨2047, by rw [grow307], .inr (.inr (.inr (.inr (.inl rfl)))), by rw [grow307]; decide, by decide, by decide⟩
  · have : n = 1228 := by omega
    subst this
    exact ⟨8191, by rw [grow1229], .inr (.inr (.inr (.inr (.inr (.inl rfl))))), by rw [grow1229]; decide, by decide, by decide⟩
  · have : n = 4914 := by omega
    subst this
    exact ⟨32767, by rw [grow4915], .inr (.inr (.inr (.inr (.inr (.inr rfl))))), by rw [grow4915]; decide, by decide, by decide⟩
  · omega
/-- a tuple is added -/
theorem SetG.add (S : SetG P w s.heap a Ls es ep t) {x : Addr} {k : List Int} (hx : IsT P w s.heap k x) (hu : A.units < cLine) (few : Ls.length + 1 < 9800) {Q : Bool → Shared → Prop}
    (fin : ∀ b h' L' es' ep' t', Heap.SameBut a s.heap h' → SetG P w h' a L' es' ep' t' → (k ∈ Ls.map (·.2) → L' = Ls) → (k ∉ Ls.map (·.2) → L'.Perm ((x, k) :: Ls)) → Q b { s with heap := h' }) :
    wpAny (model P w) A (setAddHashed a (.ref x) (thash P w k)) Q E s := by
  obtain ⟨o, ho, hex, hd⟩ := S.ob
  have esz := S.esz
  have room := S.room
  unfold setAddHashed
  refine wpAny_holding ?_
  rw [show (100000 : Nat) = 99999 + 1 from rfl, setAddHashedIn_succ]
  refine wpAny_bind (wpAny_setState_of ho hd S.fits ?_)
  dsimp only
  refine wp_if_neg (by simp [byScan, Value.scannable]) ?_
  try refine wpAny_bind (wpAny_pure ?_)
  refine wpAny_bind (S.seek hx hu (fun hm => ?_) fun j nm nj en => ?_)
  · dsimp only
    exact wpAny_pure (fin false s.heap Ls es ep t (Heap.SameBut.refl a s.heap) S (fun _ => rfl) fun z => absurd hm z)
  · dsimp only
    refine wpAny_bind (wpAny_setState_of ho hd S.fits ?_)
    dsimp only
    obtain ⟨p, q1, q2, T1, q4, q5, q6, q7⟩ := S.tab.more nj en
    have pl1 : (t.put j).1.plain = true := by rw [q6]; exact S.plain
    obtain ⟨t1, p1⟩ : ∃ z, z = t.put j := ⟨_, rfl⟩
    generalize hput : t.put j = pt at q1 T1 q4 q5 q6 q7 pl1 ⊢
    obtain ⟨t2, p2⟩ := pt
    dsimp only at q1 T1 q4 q5 q6 q7 pl1 ⊢
    subst q1
    first
      | (refine wpAny_bind (wp_if_pos pl1 (hashBy_tup hx ?_)))
      | refine wp_if_pos pl1 (wpAny_bind (hashBy_tup hx ?_))
    simp only [if_true]
    obtain ⟨L1, hL1⟩ : ∃ L1, L1 = Ls.take p2 ++ (x, k) :: Ls.drop p2 := ⟨_, rfl⟩
    have pm : L1.Perm ((x, k) :: Ls) := by rw [hL1]; exact put_perm Ls p2 (x, k)
    have len : L1.length = Ls.length + 1 := pm.length_eq
    obtain ⟨es1, hes1⟩ : ∃ es1, es1 = SetTable.insertAt es p2 (thash P w k, Value.ref x) := ⟨_, rfl⟩
    have rows1 : es1.toList = rowsOf P w L1 := by rw [hes1, hL1, SetTable.toList_insertAt, rows_put, S.rows]
    have hsh : L1.map (fun p => thash P w p.2) = (Ls.map fun p => thash P w p.2).take p2 ++ thash P w k :: (Ls.map fun p => thash P w p.2).drop p2 := by
      rw [hL1, List.map_append, List.map_cons, List.map_take, List.map_drop]
    rw [← hsh] at T1
    have nd1 : (L1.map (·.2)).Nodup := (pm.map (·.2)).nodup_iff.mpr (List.nodup_cons.mpr ⟨nm, S.nd⟩)
    have es1z : es1.size = Ls.length + 1 := by
      have z := congrArg List.length rows1
      unfold rowsOf at z
      rw [Array.length_toList, List.length_map, len] at z
      exact z
    rw [← hes1]
    refine wpAny_bind (wpAny_storeSet_of ho hd ?_ (by rw [es1z, sizeLine_eq]; omega))
    have sb : Heap.SameBut a s.heap (s.heap.update a (Obj.putSet es1 t2)) := Heap.SameBut.update ..
    have ho1 := store_at (es' := es1) (t' := t2) ho hd
    generalize s.heap.update a (Obj.putSet es1 t2) = h1 at sb ho1 ⊢
    have tup1 : ∀ p ∈ L1, IsT P w h1 p.2 p.1 := fun p hp => by
      rcases List.mem_cons.mp (pm.mem_iff.mp hp) with z | z
      · rw [z]; exact isT_same hx ho hd sb
      · exact isT_same (S.tup p z) ho hd sb
    have led1 : w.params.followText "set-order" = true ∨ t2.led = true := by rw [q5]; exact S.led
    have full : t2.tooFull = decide ((Ls.length + 1) * 5 ≥ t2.mask * 3) := by
      unfold SetTable.tooFull; rw [q7, List.length_map]
    by_cases hf : (Ls.length + 1) * 5 ≥ t2.mask * 3
    · have hf' : t2.tooFull = true := by rw [full]; exact decide_eq_true hf
      rw [q4] at hf
      obtain ⟨m', g1, g2, g3, g4, g5⟩ := S.tab.mg.next room hf few
      have go : wpAny (model P w) A (setRelay a (SetTable.grown (es.size + 1))) (fun _ s' => wpAny (model P w) A (pure true) Q E s') E { s with heap := h1 } := by
        rw [esz]
        refine relayG (s := { s with heap := h1 }) ho1 ⟨hex.1, hex.2.1, hex.2.2⟩ rfl rows1 (by rw [T1.sz, List.length_map, len, es1z]) T1.dm (by rw [es1z, q4]; exact g5) nd1 tup1 pl1 led1 (by omega) g1 g2 g3 (by rw [len]; exact g4) fun h2 L2 es2 ep2 t3 sb2 S2 pm2 => ?_
        exact wpAny_pure (fin true h2 L2 es2 ep2 t3 (sb.trans sb2) S2 (fun z => absurd z nm) fun _ => pm2.trans pm)
      first
        | exact wpAny_bind (wp_if_pos (by simp [hf']) go)
        | exact wp_if_pos (by simp [hf']) (wpAny_bind go)
    · have hf' : t2.tooFull = false := by rw [full]; exact decide_eq_false hf
      have fin1 : Q true { s with heap := h1 } := fin true h1 L1 es1 (ep + 1) t2 sb ⟨⟨_, ho1, ⟨hex.1, hex.2.1, hex.2.2⟩, rfl⟩, rows1, T1, nd1, tup1, pl1, led1, by rw [len]; omega, by omega⟩ (fun z => absurd z nm) fun _ => pm
      first
        | exact wp_if_neg (by simp [hf']) (wpAny_pure fin1)
        | (refine wpAny_bind (wp_if_neg (by simp [hf']) (wpAny_pure ?_)); exact wpAny_pure fin1)
end
end Lf

set_option maxHeartbeats 4000000
namespace Lf
open PySem PySem.Spec PyProof.Rows L2
/-! ### a plain set of any size, walked and gathered -/
section
variable {p0 : Program} {w0 : World} {r0 : Around} {X0 : Value → Shared → Prop} {u0 : Shared} {c0 : Addr} {rows : Array (Int × Value)} {e0 : Nat} {tab : SetTable}
/-- iter(set) where nothing is drawn -/
theorem plain_iter {K : Value → Shared → Prop} (at0 : SetAt u0.heap c0 rows e0 tab) (fit : tab.fits rows.size = true) (pln : tab.plain = true) (up : Ris tab.place.toList) (how : w0.params.followText "set-order" = true ∨ tab.led = true)
    (then_ : ∀ u1 it, SetIt p0 w0 u0 c0 rows u1 it → K (.ref it) u1) : wpAny (model p0 w0) r0 (pyIter (.ref c0)) K X0 u0 := by
  obtain ⟨ob, e1, e2, e3⟩ := at0
  have back : SetAt u0.heap c0 rows e0 tab := ⟨ob, e1, e2, e3⟩
  have isSet : u0.TypeIs (.ref c0) "set" := ⟨ob, e1, e2⟩
  have there := Heap.lt_size e1
  have apart : c0 ≠ u0.heap.objs.size := fun z => Nat.lt_irrefl _ (z ▸ there)
  have nodraw : (!tab.plain && decide (rows.size > 1)) = false := by rw [pln]; rfl
  have kept : ∀ (new : Obj) (b : Addr) (o : Obj), u0.heap.get? b = some o → (u0.heap.push new).get? b = some o := fun new b o q => Heap.get?_push_of_some _ q
  have prints : ∀ b ∈ [u0.heap.objs.size, c0], b = c0 ∨ u0.heap.objs.size ≤ b := fun b hb => by
    simp only [List.mem_cons, List.not_mem_nil, or_false] at hb
    rcases hb with rfl | rfl
    · exact .inr (Nat.le_refl _)
    · exact .inl rfl
  refine wpAny_pyIter_slot isSet PySem.F.slot_set_iter (wpAny_call_entry PySem.F.slot_set_iter isSet entry_s_iter ?_ (PySem.F.args_set_iter_1 _))
  unfold Builtin.«frozenset.__iter__»
  refine wpAny_bind (m := Builtin.Frozenset.slot0 "__iter__" _) (wpAny_of_eq (a := c0) (by rfl) ?_)
  unfold Builtin.Frozenset.sizeOf
  refine wpAny_bind (wpAny_bind (wpAny_setEntries_of e1 e3 fit (wpAny_pure ?_)))
  first | refine wpAny_bind (setDrawn_at back fit ?_) | refine wpAny_bind (wpAny_bind (setDrawn_at back fit ?_))
  rw [nodraw, Bool.and_false]
  refine wp_if_neg (by simp) ?_
  first | refine wpAny_bind (wpAny_pure ?_) | refine wpAny_pure ?_
  refine wpAny_bind (wpAny_setEpoch_of e1 e3 fit (wpAny_bind (wpAny_newObj_type (wpAny_pure ⟨_, rfl, "set_iterator", _, ⟨_, Heap.get?_push_size _ rfl, rfl⟩, slot_si_next.lookup, ?_⟩))))
  have stands : ∀ new : Obj, SetAt (u0.heap.push new) c0 rows e0 tab := fun new => back.at fun o q => kept new _ o q
  by_cases txt : w0.params.followText "set-order" = true
  · refine then_ _ _ (SetIt.of (fun r1 q => walks_text (P := p0) (ep := e0) q apart fit txt) (by rw [List.length_map, Array.length_toList]) (kept _) rfl rfl rfl (Nat.le_refl _) prints ((pick_perm (w0.params.setOrder c0 e0) rows).map _) (fun j v q => ?_) ?_)
    · rw [List.getElem?_map, Array.getElem?_toList]; exact q
    · exact ⟨⟨_, Heap.get?_push_size _ rfl, rfl, rfl⟩, stands _⟩
  · have led : tab.led = true := how.resolve_left txt
    have ntxt : w0.params.followText "set-order" = false := by simpa using txt
    refine then_ _ _ (SetIt.of (fun r1 q => walks_led (P := p0) (ep := e0) q apart fit up ntxt nodraw led) (by rw [List.length_map, Array.length_toList]) (kept _) rfl rfl rfl (Nat.le_refl _) prints (List.Perm.refl (rows.toList.map (·.2))) (fun j v q => ?_) ?_)
    · rw [List.getElem?_map, Array.getElem?_toList]; exact q
    · exact ⟨⟨_, Heap.get?_push_size _ rfl, rfl, rfl⟩, stands _⟩
/-- the members of a plain set in a new list -/
theorem plain_collect {K : List Value → Shared → Prop} (calm : r0.handled = none) (at0 : SetAt u0.heap c0 rows e0 tab) (fit : tab.fits rows.size = true) (pln : tab.plain = true) (few : rows.size ≤ sizeLine) (up : Ris tab.place.toList) (how : w0.params.followText "set-order" = true ∨ tab.led = true)
    (then_ : ∀ u1 got, (∀ b o, u0.heap.get? b = some o → u1.heap.get? b = some o) → u0.heap.objs.size ≤ u1.heap.objs.size → u1.gens = u0.gens → u1.os = u0.os → got.Perm (rows.toList.map (·.2)) → K got u1) :
    wpAny (model p0 w0) r0 (collect (.ref c0)) K X0 u0 := by
  have there : c0 < u0.heap.objs.size := let ⟨_, e1, _⟩ := at0; Heap.lt_size e1
  obtain ⟨box, hbox⟩ : ∃ box, box = u0.heap.objs.size := ⟨_, rfl⟩
  have off : box ≠ c0 := fun z => Nat.lt_irrefl _ ((z.symm.trans hbox) ▸ there)
  obtain ⟨blank, hblank⟩ : ∃ o : Obj, o = { cls := .type "list", data := .seq ([] : List Value).toArray } := ⟨_, rfl⟩
  obtain ⟨h1, hh1⟩ : ∃ h1, h1 = u0.heap.push blank := ⟨_, rfl⟩
  have k1 : ∀ b o, u0.heap.get? b = some o → h1.get? b = some o := fun b o e => hh1 ▸ Heap.get?_push_of_some blank e
  have atBox : h1.get? box = some blank := by rw [hh1, hbox]; exact Heap.get?_push_size _ (by rw [hblank]; rfl)
  have z1 : h1.objs.size = box + 1 := by rw [hh1, size_push', hbox]
  have at1 : SetAt h1 c0 rows e0 tab := at0.at fun o e => k1 _ o e
  have isSet1 : ({ u0 with heap := h1 } : Shared).TypeIs (.ref c0) "set" := let ⟨o, e1, e2, _⟩ := at1; ⟨o, e1, e2⟩
  unfold collect
  refine wpAny_bind (wpAny_runValue (codeAny_builtin PySem.F.entry_proto_collect ?_))
  rw [Around.under_plainId PySem.F.plain_proto_collect _]
  show wpAny _ r0.in1 (newList [] >>= fun l => again (.builtin "list.__iadd__" ⟨[l, .ref c0], []⟩)) _ _ u0
  refine wpAny_bind (wpAny_newObj_type (wpAny_pure ⟨plainId_quiet PySem.F.plain_list_iadd _, codeAny_builtin PySem.F.entry_list_iadd ?_⟩))
  rw [Around.under_plainId PySem.F.plain_list_iadd _]
  have shape : ({ u0 with heap := u0.heap.push { cls := .type "list", data := .seq ([] : List Value).toArray } } : Shared) = { u0 with heap := h1 } := by rw [hh1, hblank]
  show wpAny _ r0.in1 (Builtin.List.listExtendWith (.ref u0.heap.objs.size) (.ref c0) (.ref u0.heap.objs.size)) _ _ _
  rw [← hbox]
  unfold Builtin.List.listExtendWith
  have other : Builtin.List.listSameRef (.ref box) (.ref c0) = false := by simp [Builtin.List.listSameRef, off]
  have noL : (Value.type "set" == Value.type "list") = false := by decide
  have noT : (Value.type "set" == Value.type "tuple") = false := by decide
  have goal : ∀ {α : Type} {t : Sem α} {K2 : α → Shared → Prop} {X2 : Value → Shared → Prop}, wpAny (model p0 w0) r0.in1 t K2 X2 { u0 with heap := h1 } → wpAny (model p0 w0) r0.in1 t K2 X2 { u0 with heap := u0.heap.push { cls := .type "list", data := .seq ([] : List Value).toArray } } := fun q => shape ▸ q
  refine goal ?_
  refine wpAny_bind (wpAny_typeOf isSet1 ?_)
  simp only [other, noL, noT, Bool.or_false, Bool.false_eq_true, if_false]
  refine wpAny_bind (plain_iter at1 fit pln up how fun u2 it walk => ?_)
  obtain ⟨fp, St, got, Pv, k2, g2, o2, _, itHigh, prints, pm, W, hPv, start⟩ := walk
  have itHigh' : box + 1 ≤ it := by rw [← z1]; exact itHigh
  have boxOff : box ∉ fp := fun hm => by
    rcases prints _ hm with z | z
    · exact off z
    · have : box + 1 ≤ box := by rw [← z1]; exact z
      omega
  have isSet2 : u2.TypeIs (.ref c0) "set" := let ⟨o, e1, e2, _⟩ := at1; ⟨o, k2 _ o e1, e2⟩
  have atBox2 : u2.heap.get? box = some blank := k2 _ _ atBox
  refine wpAny_bind (wpAny_holding ?_)
  unfold Builtin.List.listLengthHint
  refine wpAny_bind (wpAny_specialOf isSet2 PySem.F.slot_set_len.lookup ?_)
  (generalize hid : ("set.__len__" : String) = id0; (fail_if_success (clear hid id0)); wp_delta; rw [show splitId id0 = some ("set", "__len__") from by subst hid; decide +kernel]; subst hid)
  refine wpAny_bind (wpAny_isInstance (b := true) isSet2 sub_set_self ?_)
  show wpAny _ r0.in1 (typeOf (.ref c0) >>= _) _ _ _
  refine wpAny_bind (wpAny_typeOf isSet2 (wpAny_pure ?_))
  show wpAny _ r0.in1 (rule "list.extend.makes-room" >>= fun _ => Builtin.List.listTouch (.ref box) >>= fun _ => again (.builtin "list.extend.loop" ⟨[.ref box, .ref it, .ref box], []⟩)) _ _ _
  subst hblank
  refine wpAny_bind (wpAny_rule (wpAny_bind ?_))
  have up1 := Heap.get?_update_self (Obj.mapSeq (·.push Value.none)) atBox2 rfl
  have up2 := Heap.get?_update_self (Obj.mapSeq (·.pop)) up1 rfl
  refine show wpAny _ r0.in1 (updateSeq box (·.push .none) >>= fun _ => updateSeq box (·.pop)) _ _ _ from wpAny_bind (wpAny_updateSeq atBox2 rfl (wpAny_updateSeq up1 rfl ?_))
  have rest : ∀ b u, b ≠ box → u2.heap.get? b = some u → ((u2.heap.update box (Obj.mapSeq (·.push Value.none))).update box (Obj.mapSeq (·.pop))).get? b = some u := fun b u nb e => by
    rw [Heap.get?_update_other _ _ (Ne.symm nb), Heap.get?_update_other _ _ (Ne.symm nb)]; exact e
  have WW := W r0.in1 calm
  have few2 : got.length ≤ sizeLine := by rw [pm.length_eq, List.length_map, Array.length_toList]; exact few
  have start2 := WW.frame 0 _ ((u2.heap.update box (Obj.mapSeq (·.push Value.none))).update box (Obj.mapSeq (·.pop))) start fun b hb u e => rest b u (fun z => boxOff (z ▸ hb)) e
  refine wpAny_pure ⟨plainId_quiet PySem.F.plain_extend_loop _, codeAny_extend_loopS WW.toS few2 _ boxOff _ got.length 0 _ _ _ rfl (Nat.zero_le _) start2 up2 (ItemsOf.nil Pv) fun u3 acc cc hm atBox3 all => ?_⟩
  refine show wpAny _ r0 (load box >>= _) _ _ u3 from wpAny_bind (wpAny_load atBox3 (wpAny_pure ?_))
  show K acc.toList u3
  rw [items_out all hPv]
  have old : ∀ b o, u0.heap.get? b = some o → u3.heap.get? b = some o := fun b o e => by
    have lt : b < box := by rw [hbox]; exact Heap.lt_size e
    refine hm.heap b o (fun z => ?_) (rest b o (Nat.ne_of_lt lt) (k2 b o (k1 b o e)))
    rcases List.mem_cons.mp z with z | z
    · exact Nat.lt_irrefl _ (z ▸ lt)
    · have z' : b = it := List.mem_singleton.mp z
      rw [z'] at lt
      exact Nat.lt_irrefl _ (Nat.lt_trans lt (Nat.lt_of_succ_le itHigh'))
  exact then_ u3 got old (by rw [← hbox]; exact Nat.le_of_lt (Heap.lt_size atBox3)) (hm.gens.trans g2) (hm.os.trans o2) pm
end
end Lf

set_option maxHeartbeats 4000000
/-! Lf, part AD: set(list of tuples) and sorted(set(..)), up to 4899 tuples. -/
namespace Lf
open PySem PySem.Spec PyProof.Rows L2
section
variable {P : Program} {w : World} {A : Around} {E : Value → Shared → Prop} {s : Shared}
theorem SetG.hold {h h' : Heap} {a : Addr} {Ls : List (Addr × List Int)} {es : Array (Int × Value)} {ep : Nat} {t : SetTable} (S : SetG P w h a Ls es ep t) (ha : ∀ o, h.get? a = some o → h'.get? a = some o) (ht : ∀ p ∈ Ls, IsT P w h' p.2 p.1) : SetG P w h' a Ls es ep t := by
  obtain ⟨o, ho, r⟩ := S.ob
  exact { S with ob := ⟨o, ha o ho, r⟩, tup := ht }
theorem setG_new {h : Heap} {a : Addr} (ho : h.get? a = some { cls := .type "set", dict := none, data := .set #[] 0 (.fresh 0 0 (!w.params.followText "set-order")) }) : SetG P w h a [] #[] 0 (.fresh 0 0 (!w.params.followText "set-order")) := by
  refine ⟨⟨_, ho, ⟨rfl, rfl, rfl⟩, rfl⟩, rfl, ⟨.inl rfl, rfl, List.Pairwise.nil, rfl, (fun x hx => nomatch hx), (fun i j h hi => by simp at hi)⟩, List.nodup_nil, (fun p hp => nomatch hp), rfl, ?_, show 0 * 5 < 7 * 3 by decide, show 0 < 9800 by decide⟩
  show _ ∨ (!w.params.followText "set-order") = true
  cases w.params.followText "set-order"
  · exact .inr rfl
  · exact .inl rfl
/-- the loop that fills a new set from what is walked -/
theorem fillG {I : Addr} {fp wr : List Addr} {G : Array GenState → Array GenState → Prop} {n : Nat} {Pv : Nat → Value → Prop} {St : Nat → Shared → Prop} {R : Result → Shared → Prop} (Wk : WalksS P w A.in1 I fp wr G n Pv St) (z : Addr) (out : z ∉ fp)
    (ks : List (Addr × List Int)) (hn : n = ks.length) (few : ks.length < 9800) (val : ∀ i v, Pv i v → ∃ p, ks[i]? = some p ∧ v = .ref p.1) (h0 : Heap) (tup : ∀ p ∈ ks, IsT P w h0 p.2 p.1) (z0 : h0.get? z = none) (w0 : ∀ b ∈ wr, h0.get? b = none) (hu : A.in1.units < cLine) :
    ∀ (left i : Nat) (s : Shared), n - i = left → i ≤ n → St i s → (∀ b o, h0.get? b = some o → s.heap.get? b = some o) → (∃ L es ep t, SetG P w s.heap z L es ep t ∧ Got ks i L) →
      (∀ s' L es ep t, Moved (z :: wr) G s s' → SetG P w s'.heap z L es ep t → Got ks n L → (∀ b o, h0.get? b = some o → s'.heap.get? b = some o) → R (.ok (.ret .none)) s') →
      codeAny (model P w) A (.builtin "set.update.loop" ⟨[.ref z, .ref I], []⟩) R s := by
  have zw : z ∉ wr := fun h => out (Wk.sub _ h)
  have wide : ∀ b ∈ wr, b ∈ z :: wr := fun b hb => List.mem_cons_of_mem _ hb
  have old : ∀ {s s' : Shared}, Moved wr G s s' → (∀ b o, h0.get? b = some o → s.heap.get? b = some o) → ∀ b o, h0.get? b = some o → s'.heap.get? b = some o := fun hm k b o e =>
    hm.heap b o (fun hb => by rw [w0 b hb] at e; cases e) (k b o e)
  intro left
  induction left with
  | zero =>
    intro i s hl hi st k ⟨L, es, ep, t, S, g⟩ fin
    have : i = n := by omega
    subst this
    refine codeAny_builtin F.entry_set_update_loop ?_
    rw [Around.under_plainId F.plain_set_update_loop _]
    show wpAny _ A.in1 (pyNext (.ref I) >>= _) _ _ s
    refine wpAny_bind (Wk.done s _ _ st fun s' hm => ?_)
    show wpAny _ A.in1 (ret Value.none) _ _ s'
    have k' := old hm k
    exact wpAny_pure (fin s' L es ep t (hm.mono wide) (S.hold (fun o e => hm.heap z o zw e) fun p hp => isT_keep (tup p (List.mem_of_mem_take (g.sub p hp))) k') g k')
  | succ left ih =>
    intro i s hl hi st k ⟨L, es, ep, t, S, g⟩ fin
    have lt : i < n := by omega
    refine codeAny_builtin F.entry_set_update_loop ?_
    rw [Around.under_plainId F.plain_set_update_loop _]
    show wpAny _ A.in1 (pyNext (.ref I) >>= _) _ _ s
    refine wpAny_bind (Wk.item i s _ _ lt st fun v s1 pv st1 hm => ?_)
    obtain ⟨p, hp, rfl⟩ := val i v pv
    have k1 := old hm k
    have S1 : SetG P w s1.heap z L es ep t := S.hold (fun o e => hm.heap z o zw e) fun q hq => isT_keep (tup q (List.mem_of_mem_take (g.sub q hq))) k1
    have isP : IsT P w s1.heap p.2 p.1 := isT_keep (tup p (List.mem_of_getElem? hp)) k1
    show wpAny _ A.in1 (holding [Value.ref p.1] (setAdd z (.ref p.1)) >>= _) _ _ s1
    refine wpAny_bind (wpAny_holding ?_)
    unfold setAdd
    refine wpAny_holding (wpAny_bind (wpAny_pyHash_tuple hu isP ?_))
    refine SetG.add (s := { s1 with toks := s1.toks + (p.2.length + 1) }) S1 isP hu (by have := g.len; omega) fun b h2 L2 es2 ep2 t2 sb S2 c1 c2 => ?_
    have g2 : Got ks (i + 1) L2 := by
      by_cases c : p.2 ∈ L.map (·.2)
      · rw [c1 c]; exact g.same hp c
      · exact g.more hp (c2 c)
    have k2 : ∀ b o, h0.get? b = some o → h2.get? b = some o := fun b o e => (sb.2 b (fun q => by rw [q, z0] at e; cases e)).trans (k1 b o e)
    refine wpAny_pure ⟨plainId_quiet F.plain_set_update_loop _, ih (i + 1) _ (by omega) lt (Wk.frame _ s1 _ _ st1 (Nat.le_add_right _ _) fun b hb o e => ?_) k2 ⟨L2, es2, ep2, t2, S2, g2⟩ fun s3 L3 es3 ep3 t3 m3 S3 g3 k3 => ?_⟩
    · exact (sb.2 b fun q => out (q ▸ hb)).trans e
    · exact fin s3 L3 es3 ep3 t3 (Moved.trans Wk.gtrans ((hm.mono wide).then_heap (Nat.le_add_right _ _) fun b o hb e => (sb.2 b fun q => hb (q ▸ List.mem_cons_self)).trans e) m3) S3 g3 k3
abbrev setObj0 (w : World) : Obj := { cls := .type "set", dict := none, data := .set #[] 0 (.fresh 0 0 (!w.params.followText "set-order")) }
set_option maxHeartbeats 8000000 in
/-- set(xs) -/
theorem call_setG {l : Addr} {items : Array Value} (ks : List (Addr × List Int)) {Q : Value → Shared → Prop} (quiet : A.handled = none) (hl : s.heap.IsList l items) (hit : items.toList = ks.map fun p => Value.ref p.1) (tup : ∀ p ∈ ks, IsT P w s.heap p.2 p.1) (few : ks.length < 9800) (hu : A.units + 3 < cLine)
    (fin : ∀ (h' : Heap) (tk : Nat) L es ep t, SetG P w h' s.heap.objs.size L es ep t → Got ks ks.length L → (∀ b o, s.heap.get? b = some o → h'.get? b = some o) → Q (.ref s.heap.objs.size) { s with heap := h', toks := tk }) :
    wpAny (model P w) A (call (.type "set") [.ref l]) Q E s := by
  have size : items.size = ks.length := by
    have e := congrArg List.length hit
    rw [Array.length_toList, List.length_map] at e
    exact e
  have gone : ∀ b, s.heap.objs.size ≤ b → s.heap.get? b = none := fun b hb => by
    cases q : s.heap.get? b with
    | none => rfl
    | some o => exact absurd (Heap.lt_size q) (Nat.not_lt.mpr hb)
  obtain ⟨c, tl, hmro⟩ := F.called_set.mro
  have hmade := F.called_set.made
  have hsub := F.called_set.sub
  refine wpAny_call (codeAny_of_tree ?_)
  show wpAny _ _ (callAny (.type "set") _) _ _ _
  refine wpAny_pure ⟨Code.quiet_builtin _ (by decide +kernel), codeAny_builtin F.entry_type_call ?_⟩
  rw [Around.under_plain (weight_type_call_type "set" [.ref l] []) rfl]
  have hnt := F.called_set.notType
  have hcc := F.called_set.canCreate
  have htc := F.typeCall_set_1 (.ref l)
  repeat (any_goals (first | assumption | wp_step))
  refine codeAny_mono (code_set_led1 (.ref l) (E := E) (Q₁ := fun obj s₁ => obj = .ref s.heap.objs.size ∧ s₁ = { s with heap := s.heap.push { cls := .type "set", dict := none, data := .set #[] 0 (.fresh 0 0 (!w.params.followText "set-order")) } }) ⟨rfl, rfl⟩) fun r s₁ hr => ?_
  cases r with
  | error e => exact hr
  | ok fl =>
    cases fl with
    | ret obj =>
      obtain ⟨rfl, rfl⟩ := hr
      have at0 : (s.heap.push (setObj0 w)).get? s.heap.objs.size = some (setObj0 w) := Heap.get?_push_size _ rfl
      have ty0 : Shared.TypeIs { s with heap := s.heap.push (setObj0 w) } (.ref s.heap.objs.size) "set" := ⟨_, at0, rfl⟩
      have ilk := F.called_set.init.lookup
      have ibd := F.called_set.init.bind (.ref s.heap.objs.size)
      repeat (any_goals (first | assumption | wp_step))
      refine codeAny_mono (codeAny_call_builtin (R := wants (fun r s₂ => r = .none ∧ ∃ h' tk L es ep t, s₂ = { s with heap := h', toks := tk } ∧ SetG P w h' s.heap.objs.size L es ep t ∧ Got ks ks.length L ∧
          (∀ b o, s.heap.get? b = some o → h'.get? b = some o)) E) F.called_set.init.plain F.entry_set_init (check_set_init_1 ty0 ?_)) fun r₂ s₂ hr₂ => ?_
      · have l1 : (s.heap.push (setObj0 w)).IsList l items := hl.push _
        obtain ⟨ol, hol, hcl, nl, hdl⟩ := hl
        obtain ⟨ocls, odict, odata, oslots⟩ := ol
        simp only at hcl hdl
        subst hcl; subst hdl
        have hol' : (s.heap.push (setObj0 w)).get? l = some { cls := .type "list", dict := odict, data := .seq items nl, slots := oslots } := Heap.get?_push_of_some _ hol
        have hsls := F.sub_list_set
        have hslf := F.sub_list_frozenset
        have hne : (Value.type "list" == Value.type "dict") = false := by decide
        unfold Builtin.«set.__init__» noKeywords Builtin.Frozenset.updateFrom
        generalize hPI : pyIter = PI
        wp_walk
        subst hPI
        refine wpAny_pyIter_list l1 ?_
        refine wpAny_bind (wpAny_runValue ?_)
        have lts : l < s.heap.objs.size := Heap.lt_size hol
        have q3 : A.in1.in1.in1.handled = none := by simp [quiet]
        have nI : l ≠ (s.heap.push (setObj0 w)).objs.size := by rw [Heap.size_push]; exact Nat.ne_of_lt (Nat.lt_succ_of_lt lts)
        have nS : s.heap.objs.size ∉ [(s.heap.push (setObj0 w)).objs.size, l] := by
          rw [Heap.size_push]
          simp only [List.mem_cons, List.not_mem_nil, or_false, not_or]
          exact ⟨Nat.ne_of_lt (Nat.lt_succ_self _), Nat.ne_of_gt lts⟩
        have val : ∀ (i : Nat) (v : Value), items[i]? = some v → ∃ p, ks[i]? = some p ∧ v = .ref p.1 := fun i v hv => by
          rw [← Array.getElem?_toList, hit, List.getElem?_map] at hv
          cases hq : ks[i]? with
          | none => rw [hq] at hv; cases hv
          | some p => rw [hq] at hv; exact ⟨p, rfl, (Option.some.inj hv).symm⟩
        refine fillG ((Walks.list q3 _ l nI items).toS) s.heap.objs.size nS ks size few val s.heap tup (gone _ (Nat.le_refl _)) (fun b hb => gone b (by rw [List.mem_singleton.mp hb, Heap.size_push]; exact Nat.le_succ _)) hu (items.size - 0) 0 _ (by omega) (Nat.zero_le _)
          ⟨⟨_, Heap.get?_push_size _ rfl, rfl, rfl⟩, (l1.push _)⟩ (fun b o e => Heap.get?_push_of_some _ (Heap.get?_push_of_some _ e)) ⟨[], #[], 0, _, setG_new (Heap.get?_push_of_some _ at0), Got.zero ks⟩ fun s' L es ep t hm S' g' k' => ?_
        obtain ⟨h', gens', drawn', tk', os'⟩ := s'
        have eg : gens' = s.gens := hm.gens
        have ed : drawn' = s.drawn := hm.drawn
        have eo : os' = s.os := hm.os
        subst eg; subst ed; subst eo
        show wpAny _ _ _ _ _ _
        refine wpAny_pure ?_
        show wpAny _ _ (ret Value.none) _ _ _
        rw [size] at g'
        exact wpAny_pure ⟨rfl, h', tk', L, es, ep, t, rfl, S', g', k'⟩
      · cases r₂ with
        | error e => exact hr₂
        | ok fl₂ =>
          cases fl₂ with
          | ret r =>
            obtain ⟨rfl, h', tk, L, es, ep, t, rfl, S', g', k'⟩ := hr₂
            repeat (any_goals (first | assumption | wp_step))
            exact fin _ _ _ _ _ _ S' g' k'
          | _ => exact hr₂.elim
    | _ => exact hr.elim
theorem sorted_setG {a : Addr} {L : List (Addr × List Int)} {es : Array (Int × Value)} {ep : Nat} {t : SetTable} {Q : Value → Shared → Prop} (R : SetG P w s.heap a L es ep t) (hh : A.handled = none) (hu : A.units + 100 < cLine)
    (h2 : ∀ p ∈ L, p.2.length = 2)
    (hQ : ∀ (s' : Shared) (p : Addr) (out : List Value) (c : Nat) (L' : List (Addr × List Int)), (∀ b o, s.heap.get? b = some o → s'.heap.get? b = some o) → s'.gens = s.gens → s'.os = s.os → s.heap.objs.size ≤ p →
      s'.heap.get? p = some (seqObj "list" out.toArray c) → out = L'.map (fun q => Value.ref q.1) → L'.Perm L → (L'.map fun q => keyC q.2).Pairwise (fun a b => leC a b = true) → Q (.ref p) s') :
    wpAny (model P w) A (call (.builtin "sorted") [.ref a]) Q E s := by
  have few := R.few
  obtain ⟨o, ho, hex, hd⟩ := R.ob
  refine Calls.call_function_entry kind_sorted plain_sorted entry_sorted (args_sorted1 (.ref a)) (wpAny_bind (m := checkCount "sorted" 1 1 _) (wpAny_pure ?_))
  refine wpAny_bind ?_
  refine plain_collect (r0 := A.in1) hh ⟨o, ho, hex.1, hd⟩ R.fits R.plain (by rw [R.esz, sizeLine_eq]; omega) R.tab.ris R.led fun s1 vs k1 z1 g1 o1 pm => ?_
  have erows : es.toList.map (·.2) = L.map fun q => Value.ref q.1 := by
    rw [R.rows, rowsOf, List.map_map]; rfl
  rw [erows] at pm
  -- the values in the order in which they came
  have ord : ∀ {vs : List Value} {M : List (Addr × List Int)}, vs.Perm (M.map fun q => Value.ref q.1) → ∃ M' : List (Addr × List Int), vs = M'.map (fun q => Value.ref q.1) ∧ M'.Perm M := by
    intro vs
    induction vs with
    | nil =>
      intro M p
      have : M = [] := by simpa using (List.Perm.eq_nil p.symm)
      exact ⟨[], rfl, by rw [this]⟩
    | cons v vs ih =>
      intro M p
      obtain ⟨q, hq, e⟩ := List.mem_map.mp (p.mem_iff.mp List.mem_cons_self)
      obtain ⟨l1, l2, rfl⟩ := List.append_of_mem hq
      have p2 : vs.Perm ((l1 ++ l2).map fun q => Value.ref q.1) := by
        have p3 : (v :: vs).Perm (v :: ((l1 ++ l2).map fun q => Value.ref q.1)) := by
          refine p.trans ?_
          rw [List.map_append, List.map_cons, e, List.map_append]
          exact List.perm_middle
        exact p3.cons_inv
      obtain ⟨M', e1, e2⟩ := ih p2
      exact ⟨q :: M', by rw [e1, ← e]; rfl, (e2.cons q).trans List.perm_middle.symm⟩
  obtain ⟨L1, rfl, pL1⟩ := ord pm
  have l64 : L1.length < 9800 := by rw [pL1.length_eq]; exact few
  refine wpAny_bind (wpAny_newList ?_ (by simp only [List.length_map]; rw [sizeLine_eq]; omega))
  have atL : (s1.heap.push (seqObj "list" (L1.map fun q => Value.ref q.1).toArray 0)).get? s1.heap.objs.size = some (seqObj "list" (L1.map fun q => Value.ref q.1).toArray 0) := Heap.get?_push_size _ rfl
  let enc : Addr × List Int → PyData := fun q => .tuple (q.2.map .int)
  have rd : ∀ q ∈ L1, ∃ as, Reads (s1.heap.push (seqObj "list" (L1.map fun q => Value.ref q.1).toArray 0)) (.ref q.1) (enc q) as ∧ s1.heap.objs.size ∉ as := fun q hq => by
    obtain ⟨b, xs, eb, ⟨ob, hob, hcl, n, hdt⟩, hxs⟩ := tupInts_of (P := P) (w := w) (isT_keep (R.tup q (pL1.mem_iff.mp hq)) fun b u e => Heap.get?_push_of_some (seqObj "list" (L1.map fun q => Value.ref q.1).toArray 0) (k1 b u e))
    cases eb
    have ra : ∀ {vs : List Value} {ns : List Int}, IntsAre vs ns → ReadsAll (s1.heap.push (seqObj "list" (L1.map fun q => Value.ref q.1).toArray 0)) vs (ns.map PyData.int) [] := by
      intro vs ns h
      induction h with
      | nil => exact .nil
      | cons i tk _ ih => exact .cons (as := []) (.int i tk) ih
    exact ⟨[], .tuple hob hcl hdt (ra hxs), by simp⟩
  have eR : PySem.W.EachIs (fun (v : Value) (q : Addr × List Int) => v = Value.ref q.1) (L1.map fun q => Value.ref q.1) L1 := by
    clear rd l64 pL1 pm atL
    induction L1 with
    | nil => exact .nil
    | cons q r ih => exact .cons rfl ih
  have eD : PySem.W.EachIs (fun v (q : Addr × List Int) => ∃ as, Reads (s1.heap.push (seqObj "list" (L1.map fun q => Value.ref q.1).toArray 0)) v (enc q) as ∧ s1.heap.objs.size ∉ as) (L1.map fun q => Value.ref q.1) L1 := by
    have gen : ∀ {h : Heap} {n : Addr} {M : List (Addr × List Int)}, (∀ q ∈ M, ∃ as, Reads h (.ref q.1) (enc q) as ∧ n ∉ as) → PySem.W.EachIs (fun v (q : Addr × List Int) => ∃ as, Reads h v (enc q) as ∧ n ∉ as) (M.map fun q => Value.ref q.1) M := by
      intro h n M
      induction M with
      | nil => intro _; exact .nil
      | cons q r ih => intro hm; exact .cons (hm q List.mem_cons_self) (ih fun u hu => hm u (List.mem_cons_of_mem _ hu))
    exact gen rd
  have two : ∀ q ∈ L1, ∃ x y, q.2 = [x, y] := fun q hq => by
    have := h2 q (pL1.mem_iff.mp hq)
    match hk : q.2, this with
    | [x, y], _ => exact ⟨x, y, rfl⟩
  have al : PySem.W.AllAlike (L1.map enc) := fun d hd d' hd' => by
    obtain ⟨q, hq, rfl⟩ := List.mem_map.mp hd
    obtain ⟨q', hq', rfl⟩ := List.mem_map.mp hd'
    exact PySem.W.alike_ints q.2 q'.2
  have so : PySem.W.Sortable (L1.map enc) := .inl fun d hd => by
    obtain ⟨q, hq, rfl⟩ := List.mem_map.mp hd
    obtain ⟨x, y, e⟩ := two q hq
    exact ⟨.int x, [.int y], by show PyData.tuple (q.2.map .int) = _; rw [e]; rfl⟩
  have dep : ∀ q : Addr × List Int, (enc q).depth ≤ 1 := fun q => by
    show PyData.depth (.tuple (q.2.map .int)) ≤ 1
    simp only [PyData.depth, PySem.W.depth_ints]
    omega
  refine wpAny_bind (wpAny_holding ?_)
  refine PySem.W.list_sort_data (s := { s1 with heap := s1.heap.push (seqObj "list" (L1.map fun q => Value.ref q.1).toArray 0) }) (enc := enc) atL eR eD al so (by rw [sizeLine_eq]; omega) (fun q _ => ?_) fun out ho he => ?_
  · have := dep q
    show A.units + 1 + 1 + _ < cLine
    omega
  · obtain ⟨c, hc⟩ := PyProof.Rows.sortedHeap_at (vs := L1.map fun q => Value.ref q.1) (out := out.toArray) atL
    have eo : out = (L1.mergeSort (PySem.W.dataLe false enc)).map fun q => Value.ref q.1 := by
      generalize L1.mergeSort (PySem.W.dataLe false enc) = M at he
      clear ho hc
      induction he with
      | nil => rfl
      | cons h1 _ ih => rw [List.map_cons, h1, ih]
    have pS := List.mergeSort_perm L1 (PySem.W.dataLe false enc)
    refine wpAny_pure ⟨_, rfl, hQ _ s1.heap.objs.size out c (L1.mergeSort (PySem.W.dataLe false enc)) (fun b u e => ?_) g1 o1 z1 hc eo (pS.trans pL1) ?_⟩
    · have e2 := k1 b u e
      have lt := Heap.lt_size e2
      refine (PyProof.Rows.sortedHeap_old (Nat.ne_of_lt lt) (by rw [size_push']; exact Nat.lt_succ_of_lt lt)).trans ?_
      exact Heap.get?_push_of_some _ e2
    · refine pw_keys (fun q hq => h2 q (pL1.mem_iff.mp (pS.mem_iff.mp hq))) (PySem.W.sort_pairwise (PySem.W.sortLe_total _ _ _) L1)
end
/-- the set at a, as the tracked heap tells it -/
structure SetG0 (P : Program) (w : World) (h : Heap) (a : Addr) (L : List (Addr × List Int)) : Prop where
  ex : ∃ (es : Array (Int × Value)) (ep : Nat) (t : SetTable), (∃ o, h.get? a = some o ∧ o.ExactSet ∧ o.data = .set es ep t) ∧ es.toList = rowsOf P w L ∧ Tab t (L.map fun p => thash P w p.2) ∧ (L.map (·.2)).Nodup ∧ t.plain = true ∧
    (w.params.followText "set-order" = true ∨ t.led = true) ∧ L.length * 5 < t.mask * 3 ∧ L.length < 9800
def SetGO (P : Program) (w : World) (a : Addr) (L : List (Addr × List Int)) : HO := .ext fun h => SetG0 P w h a L
theorem SetG.zero {P : Program} {w : World} {h : Heap} {a : Addr} {L : List (Addr × List Int)} {es : Array (Int × Value)} {ep : Nat} {t : SetTable} (S : SetG P w h a L es ep t) : SetG0 P w h a L :=
  ⟨es, ep, t, S.ob, S.rows, S.tab, S.nd, S.plain, S.led, S.room, S.few⟩
theorem SetG0.full {P : Program} {w : World} {h : Heap} {a : Addr} {L : List (Addr × List Int)} (S : SetG0 P w h a L) (ht : ∀ p ∈ L, IsT P w h p.2 p.1) : ∃ es ep t, SetG P w h a L es ep t := by
  obtain ⟨es, ep, t, a1, a2, a3, a4, a5, a6, a7, a8⟩ := S.ex
  exact ⟨es, ep, t, a1, a2, a3, a4, ht, a5, a6, a7, a8⟩
theorem setGO_ok {P : Program} {w : World} {H : Hp} {h : Heap} {a : Addr} {L : List (Addr × List Int)} (S : SetG0 P w h a L) : ObjOk P w H h a (SetGO P w a L) := by
  have ⟨es, ep, t, ⟨o, ho, r⟩, q⟩ := S.ex
  refine ⟨S, ⟨o, ho⟩, fun h1 h2 p k => ?_⟩
  have ⟨es', ep', t', ⟨o', ho', r'⟩, q'⟩ := SetG0.ex p
  exact ⟨es', ep', t', ⟨o', k o' ho', r'⟩, q'⟩
def rSetOfG (K : PySem.W.Frag) (P : Program) (w : World) : List V → Hp → VK → Prop := fun xs H Q => ∃ (l : Addr) (ks : List (Addr × List Int)), xs = [V.ref l] ∧ SqL K H l (ks.map fun p => V.ref p.1) ∧ (∀ p ∈ ks, SqT K H p.1 (p.2.map V.int)) ∧ ks.length < 9800 ∧
  ∀ a L, H a = none → (∀ p ∈ L, p ∈ ks) → (∀ p ∈ ks, p.2 ∈ L.map (·.2)) → Q (.ref a) (upd H a (SetGO P w a L))
theorem cr_setOfG {X : Cx} (hc : X.calm = true) (hu : X.A.units + 64 < cLine) : CallR X (.type "set") (rSetOfG X.K X.prog X.w) := by
  intro pins s σ H xs us Q I r h
  obtain ⟨l, ks, rfl, hl, hk, few, q⟩ := h
  rw [Vals.ref1 r]
  obtain ⟨its, rv, pl, hz⟩ := I.list hl
  refine call_setG (P := X.prog) (w := X.w) ks (I.ok.hd hc) pl.isList (by simpa using refs_of_vals rv) (fun p hp => I.isT (hk p hp)) few (by omega) fun h' tk L es ep t S g k => ?_
  exact ⟨.ref s.heap.objs.size, upd H s.heap.objs.size (SetGO X.prog X.w s.heap.objs.size L), I.laid (t' := tk) k (Nat.le_refl _) (setGO_ok S.zero), rfl, q _ L (I.hok.fresh (Nat.le_refl _)) (fun p hp => List.mem_of_mem_take (g.sub p hp)) fun p hp => g.all p (by rw [List.take_length]; exact hp)⟩
def rSsG (K : PySem.W.Frag) (P : Program) (w : World) : List V → Hp → VK → Prop := fun vs H Q => ∃ (a : Addr) (L : List (Addr × List Int)), vs = [V.ref a] ∧ H a = some (SetGO P w a L) ∧ (∀ p ∈ L, SqT K H p.1 (p.2.map V.int)) ∧ (∀ p ∈ L, p.2.length = 2) ∧
  ∀ (L' : List (Addr × List Int)) (p : Addr), L'.Perm L → (L'.map fun q => keyC q.2).Nodup → (L'.map fun q => keyC q.2).Pairwise (fun a b => leC a b = true) → H p = none → Q (.ref p) (upd H p (.lst (L'.map fun q => V.ref q.1)))
theorem cr_ssG {X : Cx} (hc : X.calm = true) (hu : X.A.units + 100 < cLine) : CallR X (.builtin "sorted") (rSsG X.K X.prog X.w) := by
  intro pins s σ H vs us Q I r h
  obtain ⟨a, L, rfl, ha, hk, h2, q⟩ := h
  have R0 : SetG0 X.prog X.w s.heap a L := (I.hok a _ ha).1
  obtain ⟨es, ep, t, R⟩ := R0.full fun p hp => I.isT (hk p hp)
  have nd0 := R.nd
  have few := R.few
  rw [Vals.ref1 r]
  refine sorted_setG R (I.ok.hd hc) hu h2 fun s' p out c L' k g o hp hg ho pm pw => ?_
  have hn : H p = none := I.hok.fresh hp
  have hv : Vals (L'.map fun q => V.ref q.1) out := by rw [ho]; exact vals_of_refs L'
  have hlen : (L'.map fun q => V.ref q.1).length ≤ sizeLine := by rw [List.length_map, pm.length_eq, sizeLine_eq]; omega
  have ndk : (L'.map fun q => keyC q.2).Nodup := by
    have n1 : (L'.map (·.2)).Nodup := ((pm.map (·.2)).nodup_iff).mpr nd0
    have e : (L'.map fun q => keyC q.2) = (L'.map (·.2)).map keyC := by rw [List.map_map]; rfl
    rw [e]
    refine List.pairwise_map.mpr (List.Pairwise.imp_of_mem (fun {x y} hx hy hne e => hne ?_) n1)
    obtain ⟨p1, m1, rfl⟩ := List.mem_map.mp hx
    obtain ⟨p2, m2, rfl⟩ := List.mem_map.mp hy
    exact keyC_inj (h2 p1 (pm.mem_iff.mp m1)) (h2 p2 (pm.mem_iff.mp m2)) e
  have J : Inv X pins σ (upd H p (.lst (L'.map fun q => V.ref q.1))) { s with heap := s'.heap, gens := s'.gens, drawn := s'.drawn, toks := s'.toks } :=
    I.call (ch := []) (Un.laid k hp hn) (I.hok.laid k hp (show ObjOk X.prog X.w _ _ _ (.lst _) from ⟨hlen, out, c, hv, hg⟩)) (by rw [g]; exact I.bare) (fun _ z => nomatch z)
  have e : s' = { s with heap := s'.heap, gens := s'.gens, drawn := s'.drawn, toks := s'.toks } := by
    obtain ⟨x1, x2, x3, x4, x5⟩ := s'
    obtain ⟨y1, y2, y3, y4, y5⟩ := s
    simp only at o g
    subst o
    rfl
  rw [e]
  exact ⟨.ref p, _, J, rfl, q L' p pm ndk pw hn⟩
section
variable {X : Cx} {e a b : Expr} {pos : Pos}
def nSsetG (f : OF) : NF := fun ρ L => match f ρ L with
  | none => none
  | some (h, L1) => match cont ρ L1 h with
    | some (.lst ws) => (match cellsW ws with
      | some cs => if cs.length < 9800 then some (.lst ((canon cs).map cW), L1) else none
      | none => none)
    | _ => none
theorem in_ssetG {f : OF} {p p2 pos2 : Pos} (hc : X.calm = true) (hu : X.A.units + 100 < cLine) (hg : Gl X "sorted") (hm : X.mg "sorted" = none) (hg2 : Gl X "set") (hm2 : X.mg "set" = none) (ha : IO X a f)
    (he : starEach [.Call (.Name "set" p2) [a] [] pos2] X.env = (false, eval (.Call (.Name "set" p2) [a] [] pos2) X.env) :: starEach [] X.env := by rfl)
    (he2 : starEach [a] X.env = (false, eval a X.env) :: starEach [] X.env := by rfl) (hpl : (backTo pos (starEach [] X.env)).any (·.1) = false := by rfl) (hpl2 : (backTo pos2 (starEach [] X.env)).any (·.1) = false := by rfl) :
    IN X (.Call (.Name "sorted" p) [.Call (.Name "set" p2) [a] [] pos2] [] pos) (nSsetG f) := by
  refine ⟨fun {Zx Z F φ L ρ σ H m L'} hs ss h Q q => PE.wp (pe_callB (cr_ssG hc hu) hg hm (by decide +kernel) (pa_cons (pe_callTy (cr_setOfG hc (by omega)) hg2 hm2 (by decide +kernel) (pa_cons wpE pa_nil he2) (he := he2) (hpl := hpl2)) pa_nil he) (he := he) (hpl := hpl)) ?_⟩
  unfold nSsetG at h
  split at h
  · cases h
  rename_i hd L1 e1
  split at h
  · rename_i ws e2
    split at h
    · rename_i cs e3
      split at h
      · rename_i hz
        simp only [Option.some.injEq, Prod.mk.injEq] at h
        obtain ⟨rfl, rfl⟩ := h
        refine ha.run hs ss e1 _ fun F1 φ1 H1 v s1 p1 hs1 r1 => ?_
        obtain ⟨a, vs, rfl, g1, g2⟩ := (cont_ok hs1 (ss.mono s1 p1) r1 e2).seq hs1.sub
        rw [cellsW_eq e3] at g2
        obtain ⟨as, t1, t2, t3⟩ := g2.cells
        subst t1 t2
        have ksEq : (as.map fun p => ((p.1, [p.2.1, p.2.2]) : Addr × List Int)).map (fun p => V.ref p.1) = as.map fun p => V.ref p.1 := by rw [List.map_map]; rfl
        refine ⟨a, as.map fun p => (p.1, [p.2.1, p.2.2]), rfl, by rw [ksEq]; exact g1, fun p hp => ?_, by rw [List.length_map]; rw [List.length_map] at hz; exact hz, fun st LL hst sub1 sub2 => ?_⟩
        · obtain ⟨u, hu', rfl⟩ := List.mem_map.mp hp
          exact (t3 u hu').sq hs1.sub
        · -- the set stands at st, untracked by us
          have back : ∀ p ∈ LL, ∃ u ∈ as, p = (u.1, [u.2.1, u.2.2]) := fun p hp => by
            obtain ⟨u, h1, h2⟩ := List.mem_map.mp (sub1 p hp)
            exact ⟨u, h1, h2.symm⟩
          have hs2 : Hs X.K X.mg Z F1 φ1 L1 (upd H1 st (SetGO X.prog X.w st LL)) := (hs1.fresh (o := SetGO X.prog X.w st LL) hst (by intro _ z; unfold SetGO at z; cases z)).weak (Sub.new (hs1.free hst).2.1)
          refine ⟨st, LL, rfl, upd_same, fun p hp => ?_, fun p hp => ?_, fun L' p pm nd pw hp => ?_⟩
          · obtain ⟨u, h1, rfl⟩ := back p hp
            exact (t3 u h1).sq hs2.sub
          · obtain ⟨u, h1, rfl⟩ := back p hp
            rfl
          · have hmem : ∀ x, x ∈ (L'.map fun q => keyC q.2) ↔ x ∈ as.map Prod.snd := fun x => by
              constructor
              · intro hx
                obtain ⟨q, hq, rfl⟩ := List.mem_map.mp hx
                obtain ⟨u, h1, rfl⟩ := back q (pm.mem_iff.mp hq)
                exact List.mem_map.mpr ⟨u, h1, rfl⟩
              · intro hx
                obtain ⟨u, hu', rfl⟩ := List.mem_map.mp hx
                have m1 := sub2 (u.1, [u.2.1, u.2.2]) (List.mem_map.mpr ⟨u, hu', rfl⟩)
                obtain ⟨q, hq, e⟩ := List.mem_map.mp m1
                refine List.mem_map.mpr ⟨q, pm.mem_iff.mpr hq, ?_⟩
                rw [e]; rfl
            have ec : canon (as.map Prod.snd) = L'.map fun q => keyC q.2 := by
              rw [canon_of nd hmem]
              exact sorted_uniq (sortC_perm _) (sortC_pw _) pw
            have rr : Rs X.K F1 φ1 ((L'.map fun q => keyC q.2).map cW) (L'.map fun q => V.ref q.1) := by
              have := Rs.of_cells (K := X.K) (F := F1) (φ := φ1) (as := L'.map fun q => (q.1, keyC q.2)) fun p hp => by
                obtain ⟨q, hq, rfl⟩ := List.mem_map.mp hp
                obtain ⟨u, h1, rfl⟩ := back q (pm.mem_iff.mp hq)
                exact t3 u h1
              have ea : (L'.map fun q => ((q.1, keyC q.2) : Addr × Cell)).map Prod.snd = L'.map fun q => keyC q.2 := by rw [List.map_map]; rfl
              have eb : (L'.map fun q => ((q.1, keyC q.2) : Addr × Cell)).map (fun p => V.ref p.1) = L'.map fun q => V.ref q.1 := by rw [List.map_map]; rfl
              rw [ea, eb] at this
              exact this
            refine q F1 φ1 _ p (.lst (L'.map fun q => V.ref q.1)) s1 p1 (hs2.free hp).2.1 (hs2.fresh hp) ?_
            show Rs _ _ _ ((canon (as.map Prod.snd)).map cW) _
            rw [ec]
            exact rr
      · cases h
    · cases h
  · cases h
end
@[simp] theorem e_nSsetG (f : OF) (ρ : Ro) (L : Lg) : nSsetG f ρ L = (match f ρ L with
  | none => none
  | some (h, L1) => match cont ρ L1 h with
    | some (.lst ws) => (match cellsW ws with
      | some cs => if cs.length < 9800 then some (.lst ((canon cs).map cW), L1) else none
      | none => none)
    | _ => none) := id rfl
end Lf

set_option maxHeartbeats 4000000
/-! Lf, part AE: [.. for k, v in d.items() ..], the keys of d tuples. -/
namespace Lf
open PySem PySem.Spec PyProof.Rows L2
def ItiT (d : Addr) (o : Obj) (kvs : List (List Key × V)) : It :=
  ⟨fun i H => H d = some (.frz o (.dT kvs)) ∧ i < kvs.length, fun i H x H' => ∃ (T : Addr) (k : List Key) (v : V) (q : Addr), kvs[i]? = some (k, v) ∧ x = .ref T ∧ H T = none ∧ H q = some (.tup (k.map kV)) ∧ H' = upd H T (.tup [.ref q, v]), fun i H => H d = some (.frz o (.dT kvs)) ∧ kvs.length ≤ i⟩
theorem frzTv {X : Cx} {pins : List (Addr × Obj)} {σ : L2.St} {H : Hp} {s : Shared} {d : Addr} {o : Obj} {kvs : List (List Key × V)} (I : Inv X pins σ H s) (h : H d = some (.frz o (.dT kvs))) :
    (d == sysModules) = false ∧ s.heap.get? d = some o ∧ o.ExactDict ∧ ∃ (es : Array DictEntry) (ep : Nat), o.data = .dict es ep ∧ es.size = kvs.length ∧
      ∀ (i : Nat) (k : List Key) (v : V), kvs[i]? = some (k, v) → ∃ (en : DictEntry) (q : Addr), es[i]? = some en ∧ en.key = .ref q ∧ H q = some (.tup (k.map kV)) ∧ RelV v en.val := by
  obtain ⟨hd, z, hs, xs, pr, o', es, ep, ho, hx, hdt, he, _⟩ := I.hok d _ h
  rw [hd] at ho
  cases ho
  refine ⟨hs, hd, hx, es, ep, hdt, ?_, fun i k v e => ?_⟩
  · rw [size_of_entries he]; exact (Paired.length pr).symm
  · obtain ⟨b, hb, _, e2, e3⟩ := paired_get pr e
    have q := entry_at he i
    rw [hb] at q
    exact ⟨_, b.2.1, q, rfl, e2, e3⟩
section
variable {P : Program} {w : World} {K : PySem.W.Frag} {d : Addr} {o : Obj} {es : Array DictEntry} {ep : Nat}
theorem turn_itemsT {kvs : List (List Key × V)} {elts : List Expr} {kk : Nat} {tp : Pos} (it : Addr) (hod : o.data = .dict es ep) :
    Turn P w K (.Tuple elts kk tp) (ItiT d o kvs) [it] it (fun i h => ∃ ok ov, IsItemIter h it d i kvs.length ep ok ov) where
  mem := by simp
  obj := fun i h st b hb => by
    obtain rfl : b = it := by simpa using hb
    obtain ⟨ok, ov, e⟩ := st
    exact ⟨_, e, fun v z => nomatch z⟩
  keep := fun i h h' ⟨ok, ov, e⟩ k => ⟨ok, ov, k it (by simp) _ e⟩
  item := by
    intro X hP hw hK hc i pins s σ H E I hf st hg
    subst hP hw hK
    obtain ⟨hd, hi⟩ := hg
    obtain ⟨hs, hgd, hx, es', ep', hdt, hsz, ent⟩ := frzTv I hd
    obtain ⟨rfl, rfl⟩ := dict_ep hod hdt
    obtain ⟨⟨k, v⟩, hkv⟩ : ∃ p, kvs[i]? = some p := ⟨_, List.getElem?_eq_getElem hi⟩
    obtain ⟨en, q, hen, hkey, hq, hval⟩ := ent i k v hkv
    obtain ⟨ok, ov, he⟩ := st
    rw [← hsz] at he
    have lt : it < s.heap.objs.size := Heap.lt_size he
    have ie : i < es'.size := by rw [hsz]; exact hi
    have een : es'[i] = en := by
      rw [Array.getElem?_eq_getElem ie] at hen
      exact Option.some.inj hen
    refine DT.nextI he ⟨o, hgd, hx, hdt⟩ ie fun h' ho hT hz hk => ?_
    rw [een] at ho hT
    refine ⟨_, rfl, wpAny_letOwnedTupleGo_items (s := { s with heap := h' }) ho fun h'' he' sb => ?_⟩
    have hT2 : h''.get? s.heap.objs.size = some { cls := .type "tuple", data := .seq #[en.key, en.val] } := (sb.2 _ (Nat.ne_of_gt lt)).trans hT
    have new : ObjOk X.prog X.w (upd H s.heap.objs.size (.tup [.ref q, v])) h'' s.heap.objs.size (.tup [.ref q, v]) :=
      ⟨by show 2 ≤ sizeLine; decide, [en.key, en.val], .cons hkey (.cons hval .nil), ⟨_, hT2, rfl, _, rfl⟩⟩
    have I1 : Inv X pins σ (upd H s.heap.objs.size (.tup [.ref q, v])) { s with heap := h'' } :=
      I.turnedNew (t' := s.toks) (ch := [it]) (fun b ob hb e => (sb.2 b (by simpa using hb)).trans (hk b ob (by simpa using hb) e)) hf (Nat.le_refl _) new
    refine ⟨.ref s.heap.objs.size, _, I1, rfl, ⟨_, k, v, q, hkv, rfl, I.hok.fresh (Nat.le_refl _), hq, rfl⟩, ⟨en.key, en.val, ?_⟩, fun b hb => ?_⟩
    · rw [← hsz]; exact he'
    · obtain rfl : b = it := by simpa using hb
      rw [upd_ne (Nat.ne_of_lt lt)]
      exact (hf b (by simp)).1
  done := by
    intro X hP hw hK hc i pins s σ H E I hf st hg
    subst hP hw hK
    obtain ⟨hd, hi⟩ := hg
    obtain ⟨f0, f1, f2, f3, f4, f5⟩ := hf it (by simp)
    obtain ⟨hs, hgd, hx, es', ep', hdt, hsz, ent⟩ := frzTv I hd
    obtain ⟨rfl, rfl⟩ := dict_ep hod hdt
    obtain ⟨ok, ov, he⟩ := st
    rw [← hsz] at he
    exact DT.endI (I.ok.hd hc) he ⟨o, hgd, hx, hdt⟩ (by rw [hsz]; exact hi) fun h' eb => ⟨rfl, I.turned (t' := s.toks) (fun b ob hb e => eb b ob hb e) f0 f1 f3 f4 f5⟩
  self := fun A i s Q E ⟨_, _, e⟩ h => PySem.W.kcp_self e h
end
def iItemsT (td : TE) : TI := fun σ H R => td σ H fun x H1 => ∃ d o kvs, x = .ref d ∧ H1 d = some (.frz o (.dT kvs)) ∧ R (ItiT d o kvs) H1
section
variable {X : Cx} {tg e : Expr} {td : TE} {apos cpos pos : Pos}
theorem pi_itemsT {elts : List Expr} {kk : Nat} {tpos : Pos} (he : PE X e td) (hbase : attributeBase e "items" X.env (eval e X.env) = eval e X.env := by rfl) (hline : (apos.endLine == cpos.line) = true := by rfl) :
    PI X (.Tuple elts kk tpos) (.Call (.Attribute e "items" apos) [] [] cpos) (iItemsT td) := by
  refine ⟨fun pins s σ H R I h => ?_⟩
  refine wpAny_Call_method (T := "dict") (id := "dict.items") hbase rfl hline F.plainAttrs_dict F.slot_dict_items F.type_dict_items (thn (he.run pins s σ H _ I h) fun u s1 ⟨x, H1, I1, rx, d, o, kvs, ex, hd, q⟩ => ?_)
  subst ex
  obtain rfl : u = Value.ref d := rx
  obtain ⟨hs, hgd, hx, es, ep, hdt, hsz, ent⟩ := frzTv I1 hd
  have raw : DT.Raw s1.heap d es ep := ⟨o, hgd, hx, hdt⟩
  refine ⟨raw.typeIs, ?_, ?_⟩
  · intro b e0
    cases e0
    exact ⟨o, hgd, hx.2.1⟩
  have I2 : Inv X pins σ H1 { s1 with heap := s1.heap.push { cls := .type "dict_items", data := .fields #[.ref d] } } := I1.kept (t' := s1.toks) fun b ob q => Heap.get?_push_of_some _ q
  have fin : wpAny (model X.prog X.w) X.A (pyIter (.ref s1.heap.objs.size)) (PIE X pins σ (.Tuple elts kk tpos) R) X.xe { s1 with heap := s1.heap.push { cls := .type "dict_items", data := .fields #[.ref d] } } := by
    refine DT.iterI (d := d) (es := es) (ep := ep) ⟨_, Heap.get?_push_size _ rfl, rfl, rfl⟩ (raw.push _) (pi_one (tk := s1.toks) I2 _ (turn_itemsT _ hdt) ⟨.none, .none, ?_⟩ q)
    rw [← hsz]
    exact Heap.get?_push_size _ rfl
  show wpAny _ _ (callWith cpos (.builtin "dict.items") [.ref d] [] []) _ X.xe s1
  exact method_meetsIn F.slot_dict_items F.entry_dict_items rfl (PySem.evalArgs_none ⟨rfl, raw.typeIs, F.args_dict_items_1 _, _, DT.meetsItems (es := es) (ep := ep) hs, raw, fin⟩)
/-- the pairs of a dict -/
def itemsW : W → Option (List W)
  | .dT kvs => some (kvs.map fun kv => .tup [.tup (kv.1.map keyW), kv.2])
  | _ => none
def sItems (i : Nat) : AF := fun ρ L => match ρ[i]? with
  | some (.va w) => (match itemsW w with
    | some ks => some (ks, L)
    | none => none)
  | _ => none
theorem itok_itemsT {K : PySem.W.Frag} {mg : Str → Option Value} {F : Hp} {φ : List Addr} {d : Addr} {od : Obj} {kvs : List (List Key × W)} {vs : List (List Key × V)} (h : F d = some (.frz od (.dT vs))) (e : kvs.map Prod.fst = vs.map Prod.fst) (r : Rs K F φ (kvs.map Prod.snd) (vs.map Prod.snd)) : ItOk K mg F φ (ItiT d od vs) (kvs.map fun kv => .tup [.tup (kv.1.map keyW), kv.2]) := by
  intro Z F1 φ1 L1 H1 i s p hs
  have hd := hs.sub _ _ (s _ _ h)
  have hl := keys_len e
  refine ⟨fun x hx => ?_, fun hi => ⟨hd, by rw [← hl]; simpa using hi⟩⟩
  have hi : i < kvs.length := by have := (List.getElem?_eq_some_iff.mp hx).1; simpa using this
  refine ⟨⟨hd, by rw [← hl]; exact hi⟩, fun u H2 y => ?_⟩
  obtain ⟨T, k, v, q, hk, rfl, hT, hq, rfl⟩ := y
  obtain ⟨F2, s2, f2, hs2⟩ := hs.takeT hq
  obtain ⟨hs3, s3⟩ := hs2.fresh_frozen (o := .tup [.ref q, v]) hT
  obtain ⟨kv, hkv⟩ : ∃ kv, kvs[i]? = some kv := ⟨_, List.getElem?_eq_getElem hi⟩
  have e1 : kv.1 = k := by
    have z : (kvs.map Prod.fst)[i]? = some k := by rw [e, List.getElem?_map, hk]; rfl
    rw [List.getElem?_map, hkv] at z
    simpa using z
  have rv : R K F φ kv.2 v := by
    obtain ⟨v', g1, g2⟩ := r.get (i := i) (w := kv.2) (by rw [List.getElem?_map, hkv]; rfl)
    rw [List.getElem?_map, hk] at g1
    cases g1
    exact g2
  rw [List.getElem?_map, hkv] at hx
  simp only [Option.map_some, Option.some.injEq] at hx
  subst hx e1
  refine ⟨_, s2.trans s3, hs3, .tup (show TupAt K _ T [.ref q, v] from upd_same) (.cons (.tup (s3 _ _ f2) (Rs.keys _)) (.cons (rv.mono (s.trans (s2.trans s3)) p) .nil))⟩
theorem lcI_run {i : Nat} {g : GF} {tt : TF} {te : EF} {ix vs : List Nat} (hix : ∀ i ∈ ix, i ∈ vs) (gW : TG) (tW : TT) (eW : TE)
    (hg : ∀ {Zx Z F : Hp} {φ : List Addr} {L : Lg} {ρ ρ' : Ro} {σ : L2.St} {H : Hp} {w : W} {v : V}, Hs X.K X.mg Z F φ L H → Ss X.K Zx Z F φ ρ σ → R X.K F φ w v → g w ρ = some ρ' →
      ∀ Q : L2.St → Hp → Prop, (∀ σ', Ss X.K Zx Z F φ ρ' σ' → (∀ vs, (∀ i ∈ ix, i ∈ vs) → wipe σ' vs = wipe σ vs) → Q σ' H) → gW v σ H Q)
    (ht : ∀ {Zx Z F : Hp} {φ : List Addr} {L : Lg} {ρ : Ro} {σ : L2.St} {H : Hp} {w : Bool} {L' : Lg}, Hs X.K X.mg Z F φ L H → Ss X.K Zx Z F φ ρ σ → tt ρ L = some (w, L') →
      ∀ Q : Bool → Hp → Prop, (∀ (F' : Hp) (φ' : List Addr) (H' : Hp), Sub F F' → φ <+: φ' → Hs X.K X.mg Z F' φ' L' H' → Q w H') → tW σ H Q)
    (he : ∀ {Zx Z F : Hp} {φ : List Addr} {L : Lg} {ρ : Ro} {σ : L2.St} {H : Hp} {w : W} {L' : Lg}, Hs X.K X.mg Z F φ L H → Ss X.K Zx Z F φ ρ σ → te ρ L = some (w, L') →
      ∀ Q : VK, (∀ (F' : Hp) (φ' : List Addr) (H' : Hp) (v : V), Sub F F' → φ <+: φ' → Hs X.K X.mg Z F' φ' L' H' → R X.K F' φ' w v → Q v H') → eW σ H Q)
    {Zx Z F : Hp} {φ : List Addr} {L : Lg} {ρ : Ro} {σ : L2.St} {H : Hp} {m : M} {L' : Lg} (hs : Hs X.K X.mg Z F φ L H) (ss : Ss X.K Zx Z F φ ρ σ) (h : cLc (sItems i) g tt te vs ρ L = some (m, L'))
    (Q : VK) (q : ∀ (F' : Hp) (φ' : List Addr) (H' : Hp) (p : Addr) (o : HO), Sub F F' → φ <+: φ' → Z p = none → Hs X.K X.mg (upd Z p o) F' φ' L' H' → MOk X.K F' φ' m o → Q (.ref p) H') :
    tLc (iItemsT (tVar i)) gW tW eW vs σ H Q ∨ tLockE (tLc (iItemsT (tVar i)) gW tW eW vs) σ H Q := by
  unfold cLc at h
  split at h
  · cases h
  rename_i ks L1 e1
  split at h
  · cases h
  rename_i ws L2 e2
  split at h
  · rename_i hz
    simp only [Option.some.injEq, Prod.mk.injEq] at h
    obtain ⟨rfl, rfl⟩ := h
    unfold sItems at e1
    split at e1
    · rename_i w ew
      split at e1
      · rename_i ks' ek
        simp only [Option.some.injEq, Prod.mk.injEq] at e1
        obtain ⟨rfl, rfl⟩ := e1
        obtain ⟨v, hv1, hv2⟩ := ss.va i w ew
        have hdict : ∃ a u, v = .ref a ∧ isD u = true ∧ DAt F a u ∧ ∃ kvs vs, w = .dT kvs ∧ u = .dT vs ∧ kvs.map Prod.fst = vs.map Prod.fst ∧ Rs X.K F φ (kvs.map Prod.snd) (vs.map Prod.snd) := by
          cases hv2 <;> first | (cases ek; done) | skip
          rename_i h1 h2 h3
          exact ⟨_, _, rfl, rfl, h1, _, _, rfl, rfl, h2, h3⟩
        obtain ⟨a, u, rfl, hu, hda, hw⟩ := hdict
        have core : ∀ (od : Obj) (F1 H1 : Hp) (Q1 : VK), F1 a = some (.frz od u) → Hs X.K X.mg Z F1 φ L H1 → Ss X.K Zx Z F1 φ ρ σ → Lk F F1 →
            (∀ (F' : Hp) (φ' : List Addr) (H' : Hp) (p : Addr) (o : HO), Sub F1 F' → φ <+: φ' → Z p = none → Hs X.K X.mg (upd Z p o) F' φ' L2 H' → MOk X.K F' φ' (.lst ws) o → Q1 (.ref p) H') → tLc (iItemsT (tVar i)) gW tW eW vs σ H1 Q1 := by
          intro od F1 H1 Q1 hF1 hs1 ss1 lk q1
          have hH1 := hs1.sub _ _ hF1
          obtain ⟨kvs, vs', rfl, rfl, hk, hr⟩ := hw
          simp only [itemsW, Option.some.injEq] at ek
          subst ek
          exact ⟨.ref a, hv1, a, od, vs', rfl, hH1, fun D hD => lc_w hix gW tW eW hg ht he hs1 ss1 (itok_itemsT hF1 hk (hr.lk lk)) e2 hz Q1 q1 hD⟩
        rcases hda with hda | ⟨od, hda⟩
        · refine .inr ⟨a, u, hs.sub _ _ hda, ?_, fun od => ?_⟩
          · cases u <;> first | (cases hu; done) | exact True.intro
          · have l := Lk.lock (od := od) hda hu
            refine core od _ _ _ upd_same (hs.relock hda l) (ss.relock l) l fun F' φ' H' p o s p' z hs' m' => ?_
            have b1 : F' a = some (.frz od u) := s _ _ upd_same
            have b2 : Sub F (upd F' a u) := fun b o' eb => by
              by_cases qb : b = a
              · subst qb; rw [hda] at eb; cases eb; exact upd_same
              · rw [upd_ne qb]; exact s b o' (by rw [upd_ne qb]; exact eb)
            have l' := Lk.unlock b1 hu
            exact ⟨hs'.sub _ _ b1, q _ φ' _ p o b2 p' z (hs'.relock b1 l') (m'.lk l')⟩
        · exact .inl (core od F H Q hda hs ss (fun _ => .inl rfl) q)
      · cases e1
    · cases e1
  · cases h
theorem in_lcI {elt : Expr} {elts : List Expr} {kk : Nat} {tp apos cpos : Pos} {ifs : List Expr} {scope : Scope} {own : List (Str × Nat)} {g : GF} {tt : TF} {te : EF} {ix : List Nat} {x : Str} {px : Pos} (i : Nat) (hc : X.calm = true) (hN : X.N.Nodup) (ok : BlkOk X.N X.env.scope scope own) (hix : ∀ i ∈ ix, i ∈ own.map (·.2))
    (hg : ∀ (s : Shared) (H : Hp) (C : Addr) (cl : List (Str × Addr)) (fp : List Addr), IG (X.blk s H scope (compEnvC scope cl C X.env) fp) (.Tuple elts kk tp) ix g) (ht : ∀ (s : Shared) (H : Hp) (C : Addr) (cl : List (Str × Addr)) (fp : List Addr), ITs (X.blk s H scope (compEnvC scope cl C X.env) fp) ifs tt)
    (he : ∀ (s : Shared) (H : Hp) (C : Addr) (cl : List (Str × Addr)) (fp : List Addr), IE (X.blk s H scope (compEnvC scope cl C X.env) fp) elt te) (hNi : X.N[i]? = some x := by rfl) (hv : Vis X.env.scope x := by first | exact Or.inl rfl | exact Or.inr (Or.inl rfl) | exact Or.inr (Or.inr rfl)) (hd : (x == ("__debug__" : Str)) = false := by decide)
    (hcd : (x == ("__classdict__" : Str)) = false := by decide) (hbase : attributeBase (.Name x px) "items" X.env (eval (.Name x px) X.env) = eval (.Name x px) X.env := by rfl) (hline : (apos.endLine == cpos.line) = true := by rfl) (hs' : ∀ y, foldedSetIterable (.Call (.Attribute (.Name x px) "items" apos) [] [] cpos) X.env y = pure y := by intro _; rfl) :
    IN X (.ListComp elt [⟨.Tuple elts kk tp, .Call (.Attribute (.Name x px) "items" apos) [] [] cpos, ifs, 0⟩] scope pos) (cLc (sItems i) g tt te (own.map (·.2))) := by
  refine ⟨fun {Zx Z F φ L ρ σ H m L'} hs ss h Q q => ?_⟩
  let gW : TG := fun v σ H Q => ∀ (s : Shared) (H0 : Hp) (C : Addr) (cl : List (Str × Addr)) (fp : List Addr), WpG (X.blk s H0 scope (compEnvC scope cl C X.env) fp) (.Tuple elts kk tp) v σ H Q
  let tW : TT := fun σ H Q => ∀ (s : Shared) (H0 : Hp) (C : Addr) (cl : List (Str × Addr)) (fp : List Addr), WpTs (X.blk s H0 scope (compEnvC scope cl C X.env) fp) ifs σ H Q
  let eW : TE := fun σ H Q => ∀ (s : Shared) (H0 : Hp) (C : Addr) (cl : List (Str × Addr)) (fp : List Addr), Wp (X.blk s H0 scope (compEnvC scope cl C X.env) fp) elt σ H Q
  have base := pe_lc (pos := pos) hc hN (pi_itemsT (elts := elts) (kk := kk) (tpos := tp) (pe_var (pos := px) hNi hv hd hcd) hbase hline) ok (g := gW) (tt := tW) (te := eW) (fun s H C cl fp => ⟨fun pins s' σ H v u Q I r h => h s _ C cl fp pins s' u I r⟩) (fun s H C cl fp => ⟨fun pins s' σ H Q I h => h s _ C cl fp pins s' I⟩) (fun s H C cl fp => ⟨fun pins s' σ H Q I h => h s _ C cl fp pins s' I⟩) hs'
  rcases lcI_run (i := i) hix gW tW eW (fun h1 h2 h3 h4 Q q s H0 C cl fp => (hg s H0 C cl fp).run h1 h2 h3 h4 Q q)
    (fun h1 h2 h3 Q q s H0 C cl fp => let ⟨t, k1, k2⟩ := (ht s H0 C cl fp).run h1 h2 h3 Q q; PTs.wp k1 k2) (fun h1 h2 h3 Q q s H0 C cl fp => (he s H0 C cl fp).run h1 h2 h3 Q q) hs ss h Q q with r | r
  · exact PE.wp base r
  · exact PE.wp (pe_lock base) r
end
@[simp] theorem e_sItems (i : Nat) (ρ : Ro) (L : Lg) : sItems i ρ L = (match ρ[i]? with
  | some (.va w) => (match itemsW w with
    | some ks => some (ks, L)
    | none => none)
  | _ => none) := id rfl
end Lf

set_option maxHeartbeats 4000000
/-! Lf: min(list) of things that can be compared, the first of the least. -/
namespace Lf
open PySem PySem.Spec PyProof.Rows PySem.W L2
/-- the first of the least, by a key -/
def bestF {α : Type} (f : α → PyData) (t : α) (ts : List α) : α := ts.foldl (fun a y => if PySem.W.dataLt (f y) (f a) then y else a) t
theorem bestF_mem {α : Type} (f : α → PyData) : ∀ (ts : List α) (t : α), bestF f t ts ∈ t :: ts
  | [], t => List.mem_cons_self
  | y :: ts, t => by
    unfold bestF
    rw [List.foldl_cons]
    have := bestF_mem f ts (if PySem.W.dataLt (f y) (f t) then y else t)
    unfold bestF at this
    rcases List.mem_cons.mp this with h | h
    · rw [h]
      split
      · exact List.mem_cons_of_mem _ List.mem_cons_self
      · exact List.mem_cons_self
    · exact List.mem_cons_of_mem _ (List.mem_cons_of_mem _ h)
theorem bestF_map {α β : Type} (g : α → β) (f : β → PyData) : ∀ (ts : List α) (t : α), bestF f (g t) (ts.map g) = g (bestF (fun a => f (g a)) t ts)
  | [], t => rfl
  | y :: ts, t => by
    unfold bestF
    rw [List.map_cons, List.foldl_cons, List.foldl_cons]
    have := bestF_map g f ts (if PySem.W.dataLt (f (g y)) (f (g t)) then y else t)
    unfold bestF at this
    rw [← this]
    congr 1
    split <;> rfl
def rMnD (K : PySem.W.Frag) : List V → Hp → VK → Prop := fun vs H Q => ∃ (a : Addr) (t : V × PyData) (ts : List (V × PyData)), vs = [V.ref a] ∧ SqL K H a ((t :: ts).map Prod.fst) ∧ (∀ b ∈ t :: ts, Dp K H b.1 b.2) ∧ sortOk ((t :: ts).map Prod.snd) = true ∧
  Q (bestF Prod.snd t ts).1 H
theorem dpAll_of {K : PySem.W.Frag} {H : Hp} : ∀ {bs : List (V × PyData)}, (∀ b ∈ bs, Dp K H b.1 b.2) → DpAll K H (bs.map Prod.fst) (bs.map Prod.snd)
  | [], _ => .nil
  | b :: bs, h => .cons (h b List.mem_cons_self) (dpAll_of fun c hc => h c (List.mem_cons_of_mem _ hc))
theorem vals_at {vs : List V} {us : List Value} (h : Vals vs us) : ∀ (i : Nat) (u : Value) (v : V), us[i]? = some u → vs[i]? = some v → RelV v u := by
  induction h with
  | nil => intro i u v h1; cases h1
  | cons r _ ih =>
    intro i u v h1 h2
    cases i with
    | zero => cases h1; cases h2; exact r
    | succ i => exact ih i u v h1 h2
theorem depth_le : ∀ {ds : List PyData} {n : Nat}, (∀ d ∈ ds, d.depth ≤ n) → PyData.depthAll ds ≤ n
  | [], _, _ => Nat.zero_le _
  | d :: ds, n, h => by
    show max d.depth (PyData.depthAll ds) ≤ n
    have h1 := h d List.mem_cons_self
    have h2 := depth_le fun e he => h e (List.mem_cons_of_mem _ he)
    omega
theorem cr_mnD {X : Cx} (hc : X.calm = true) (hu : X.A.units + 100 < cLine) : CallR X (.builtin "min") (rMnD X.K) := by
  intro pins s σ H vs us Q I r h
  obtain ⟨a, t, ts, rfl, hl, hd, ok, q⟩ := h
  obtain ⟨al, so, dp⟩ := sortOk_parts ok
  obtain ⟨its, rv, pl, hz⟩ := I.list hl
  obtain ⟨as, hr⟩ := Dp.readsAll I _ _ its (dpAll_of hd) rv
  rw [Vals.ref1 r]
  have hh := I.ok.hd hc
  have hn : its.length = ts.length + 1 := by
    have := rv.length
    simpa using this.symm
  have alk : AlikeAll ((t :: ts).map Prod.snd) := ⟨fun x hx y hy => al x hx y hy, fun x hx => by
    rcases so with h | h
    · obtain ⟨y, r, e⟩ := h x hx
      rw [e]; intro z; cases z
    · exact (h x hx).1⟩
  have dep : PyData.depthAll ((t :: ts).map Prod.snd) ≤ 64 := depth_le dp
  refine call_min_walkH (iter_listW (A := X.A.in1) hh pl.isList fun s₂ e W st hfp hw hk => ?_)
  refine ⟨_, _, _, _, _, _, _, s.heap, _, rfl, W, st, hfp, by simp [hn], hw, hk, cmpIn_lt (A := X.A.in1) (vs := its.toArray) hr alk (by show X.A.units + 1 + _ < _; omega), fun v s' hP m => ?_⟩
  obtain ⟨h', tk, rfl, hk'⟩ := moved_old e rfl m
  have e1 : its.toArray.size - 1 = ts.length := by simp [hn]
  rw [e1] at hP
  have key : (fun i j => PySem.W.dataLt (((t :: ts).map Prod.snd).getD i .none) (((t :: ts).map Prod.snd).getD j .none)) = fun i j => PySem.W.dataLt (((t :: ts).getD i (.non, .none)).2) (((t :: ts).getD j (.non, .none)).2) := by
    funext i j
    have g : ∀ i, ((t :: ts).map Prod.snd).getD i PyData.none = ((t :: ts).getD i (V.non, PyData.none)).2 := fun i => by
      rw [List.getD_eq_getElem?_getD, List.getD_eq_getElem?_getD, List.getElem?_map]
      cases (t :: ts)[i]? <;> rfl
    rw [g, g]
  rw [key] at hP
  obtain ⟨k1, k2⟩ := argBest_fold (fun (y a : V × PyData) => PySem.W.dataLt y.2 a.2) (V.non, PyData.none) t ts ts.length (Nat.le_refl _)
  rw [List.take_length] at k2
  generalize argBest (fun i j => PySem.W.dataLt (((t :: ts).getD i (V.non, PyData.none)).2) (((t :: ts).getD j (V.non, PyData.none)).2)) ts.length = i at hP k1 k2
  have hi : (t :: ts)[i]? = some (bestF Prod.snd t ts) := by
    have lt : i < (t :: ts).length := by simp; omega
    rw [List.getD_eq_getElem?_getD, List.getElem?_eq_getElem lt] at k2
    rw [List.getElem?_eq_getElem lt]
    exact congrArg some k2
  have hv : ((t :: ts).map Prod.fst)[i]? = some (bestF Prod.snd t ts).1 := by rw [List.getElem?_map, hi]; rfl
  have hu2 : its[i]? = some v := by rw [Array.getElem?_toList.symm] at hP; simpa using hP
  exact ⟨_, H, I.kept hk', vals_at rv i v _ hu2 hv, q⟩
def minW : W → Option W
  | .lst (x :: xs) => (match toDs (x :: xs) with
    | some ds => if sortOk ds = true then some (bestF encW x xs) else none
    | none => none)
  | _ => none
section
variable {X : Cx} {e a b : Expr} {pos : Pos}
theorem ie_minD {f : OF} {p : Pos} (hcm : X.calm = true) (hu : X.A.units + 100 < cLine) (hg : Gl X "min") (hm : X.mg "min" = none) (ha : IO X a f) (he : starEach [a] X.env = (false, eval a X.env) :: starEach [] X.env := by rfl) (hpl : (backTo pos (starEach [] X.env)).any (·.1) = false := by rfl) : IE X (.Call (.Name "min" p) [a] [] pos) (cC minW f) := by
  refine ie_bltC (cr_mnD hcm hu) (fun {Z F φ L H w0 w v0} hs c h Q q => ?_) hg hm (by decide +kernel) ha (he := he)
  unfold minW at h
  split at h
  · rename_i x xs
    split at h
    · rename_i ds e4
      split at h
      · rename_i ok
        cases h
        obtain ⟨a, vs, rfl, g1, g2⟩ := c.seq hs.sub
        obtain ⟨k1, k2⟩ := toDs_enc e4
        obtain ⟨us, t1, t2, t3⟩ := g2.zipped
        cases us with
        | nil => cases t1
        | cons u us =>
          rw [List.map_cons] at t1
          obtain ⟨t1a, t1b⟩ := List.cons.inj t1
          subst t2 t1a t1b
          have em : ((u :: us).map fun t => (t.2, encW t.1)).map Prod.snd = (u :: us).map fun t => encW t.1 := by rw [List.map_map]; rfl
          refine ⟨a, (u.2, encW u.1), us.map fun t => (t.2, encW t.1), rfl, ?_, fun b hb => ?_, ?_, ?_⟩
          · rw [← List.map_cons (f := fun t : W × V => (t.2, encW t.1)), List.map_map]; exact g1
          · rw [← List.map_cons (f := fun t : W × V => (t.2, encW t.1))] at hb
            obtain ⟨t, ht, rfl⟩ := List.mem_map.mp hb
            refine (t3 t ht).dp hs.sub (k2 t.1 ?_)
            rw [← List.map_cons (f := Prod.fst)]
            exact List.mem_map.mpr ⟨t, ht, rfl⟩
          · rw [← List.map_cons (f := fun t : W × V => (t.2, encW t.1)), em]
            rw [k1] at ok
            rw [← List.map_cons (f := Prod.fst), List.map_map] at ok
            exact ok
          · rw [bestF_map (fun t : W × V => (t.2, encW t.1)) Prod.snd us u]
            refine flat hs ?_ q
            rw [bestF_map Prod.fst encW us u]
            exact t3 _ (bestF_mem _ us u)
      · cases h
    · cases h
  · cases h
end
end Lf

set_option maxHeartbeats 4000000
/-! Lf: dicts whose keys are tuples of pairs of ints, numbered things. -/
namespace Lf
open PySem PySem.Spec PyProof.Rows L2
/-! ### keys -/
theorem hash_pair (w w' : World) (c : Int × Int) : (encC c).hash w = (encC c).hash w' := by
  unfold encC
  simp only [NestedKey.hash, NestedKey.hashes]
theorem hashes_any (w w' : World) : ∀ cs : List (Int × Int), NestedKey.hashes w (cs.map encC) = NestedKey.hashes w' (cs.map encC)
  | [] => rfl
  | c :: cs => by
    rw [List.map_cons]
    simp only [NestedKey.hashes]
    rw [hash_pair w w' c, hashes_any w w' cs]
theorem hash_any (w w' : World) (cs : List (Int × Int)) : (encK cs).hash w = (encK cs).hash w' := by
  unfold encK
  simp only [NestedKey.hash]
  rw [hashes_any w w' cs]
theorem encC_inj {a b : Int × Int} (h : encC a = encC b) : a = b := by
  unfold encC at h
  simp only [NestedKey.tup.injEq, List.cons.injEq, NestedKey.num.injEq, and_true] at h
  exact Prod.ext h.1 h.2
theorem encK_inj {a b : List (Int × Int)} (h : encK a = encK b) : a = b := by
  unfold encK at h
  simp only [NestedKey.tup.injEq] at h
  exact (List.map_inj_right (fun _ _ => encC_inj)).mp h
theorem encK_depth (cs : List (Int × Int)) : (encK cs).depth ≤ 8 := by
  have : ∀ cs : List (Int × Int), NestedKey.depthAll (cs.map encC) ≤ 1 := fun cs => by
    induction cs with
    | nil => exact Nat.zero_le _
    | cons c cs ih =>
      rw [List.map_cons]
      simp only [NestedKey.depthAll]
      have : (encC c).depth ≤ 1 := by unfold encC; simp [NestedKey.depth, NestedKey.depthAll]
      omega
  unfold encK
  simp only [NestedKey.depth]
  have := this cs
  omega
theorem ents_any {P P' : Program} {w w' : World} {α : Type} (f : α → List (Int × Int)) : ∀ {xs : List (NestedKey × Addr × Value)} {ks : List α}, xs.map (·.1) = ks.map (fun p => encK (f p)) → xs.map (entryOfKey (nestedKind P w)) = xs.map (entryOfKey (nestedKind P' w'))
  | [], _, _ => rfl
  | q :: xs, [], h => by cases h
  | q :: xs, k :: ks, h => by
    simp only [List.map_cons, List.cons.injEq] at h
    rw [List.map_cons, List.map_cons, ents_any f h.2]
    congr 1
    show DictEntry.mk (q.1.hash w) (.ref q.2.1) q.2.2 = DictEntry.mk (q.1.hash w') (.ref q.2.1) q.2.2
    rw [h.1, hash_any w w']
section
variable {K : PySem.W.Frag} {F H : Hp} {φ : List Addr} {P : Program} {w : World} {h : Heap}
theorem tup_at {b : Addr} {vs : List V} (ok : HOk P w H h) (e : H b = some (.tup vs)) : ∃ its o n, Vals vs its ∧ h.get? b = some o ∧ o.cls = .type "tuple" ∧ o.data = .seq its.toArray n := by
  obtain ⟨_, its, r, o, h1, h2, n, h3⟩ := (show ObjOk P w H h b (.tup vs) from ok b _ e)
  exact ⟨its, o, n, r, h1, h2, h3⟩
theorem pair_is (s : Sub F H) (ok : HOk P w H h) {c : Int × Int} {v : V} {u : Value} (r : R K F φ (pairW c) v) (rv : RelV v u) : NestedIs h (encC c) u := by
  unfold pairW at r
  cases r with
  | tup e q =>
    cases q with
    | cons r1 q =>
      cases q with
      | cons r2 q =>
        cases q
        cases r1; cases r2
        obtain ⟨its, o, n, rr, h1, h2, h3⟩ := tup_at ok (s _ _ e)
        cases (show u = Value.ref _ from rv)
        cases rr with
        | cons ra rr =>
          cases rr with
          | cons rb rr =>
            cases rr
            obtain ⟨t1, rfl⟩ := ra
            obtain ⟨t2, rfl⟩ := rb
            exact .tup h1 h2 h3 (.cons (.int _ _) (.cons (.int _ _) .nil))
theorem pairs_are (s : Sub F H) (ok : HOk P w H h) : ∀ {cs : List (Int × Int)} {vs : List V} {us : List Value}, Rs K F φ (cs.map pairW) vs → Vals vs us → NestedAll h (cs.map encC) us
  | [], _, _, q, rv => by cases q; cases rv; exact .nil
  | c :: cs, _, _, q, rv => by
    cases q with
    | cons r q =>
      cases rv with
      | cons r1 rv => exact .cons (pair_is s ok r r1) (pairs_are s ok q rv)
theorem key_is (s : Sub F H) (ok : HOk P w H h) {cs : List (Int × Int)} {b : Addr} (r : R K F φ (keyNW cs) (.ref b)) : (nestedKind P w).is h (encK cs) b := by
  unfold keyNW at r
  refine ⟨?_, encK_depth cs⟩
  cases r with
  | tup e q =>
    obtain ⟨its, o, n, rr, h1, h2, h3⟩ := tup_at ok (s _ _ e)
    exact .tup h1 h2 h3 (by simpa using pairs_are s ok q rr)
theorem keys_are (s : Sub F H) (ok : HOk P w H h) {α : Type} (f : α → List (Int × Int)) : ∀ {ks : List α} {xs : List (NestedKey × Addr × Value)}, xs.map (·.1) = ks.map (fun p => encK (f p)) → Rs K F φ (ks.map fun p => keyNW (f p)) (xs.map fun q => V.ref q.2.1) → ∀ x ∈ xs, (nestedKind P w).is h x.1 x.2.1
  | _, [], _, _, x, hx => by cases hx
  | [], q :: xs, e, _, _, _ => by cases e
  | k :: ks, q :: xs, e, r, x, hx => by
    simp only [List.map_cons, List.cons.injEq] at e
    rw [List.map_cons, List.map_cons] at r
    cases r with
    | cons r1 r =>
      rcases List.mem_cons.mp hx with rfl | hx
      · rw [e.1]; exact key_is s ok r1
      · exact keys_are s ok f e.2 r x hx
end
/-- what the machine sees of such a dict and a key -/
def NdOk (X : Cx) (σ : L2.St) (H : Hp) (a b : Addr) (xs : List (NestedKey × Addr × Value)) (k : NestedKey) : Prop :=
  ∀ pins s, Inv X pins σ H s → (nestedKind X.prog X.w).is s.heap k b ∧ s.heap.DictOfH (nestedKind X.prog X.w) a xs ∧ (a == sysModules) = false ∧ xs.length ≤ sizeLine
theorem dno_ok {P : Program} {w : World} {H : Hp} {h : Heap} {a : Addr} {xs : List (NestedKey × Addr × Value)} (hd : (a == sysModules) = false) (hz : xs.length ≤ sizeLine) (x : h.DictOfH (nestedKind P w) a xs) : ObjOk P w H h a (DNo P w a xs) := by
  obtain ⟨o, es, ep, h1, h2, h3, h4, _, h5⟩ := x
  refine ⟨⟨hz, hd, o, es, ep, h1, h2, h3, h4, h5⟩, ⟨o, h1⟩, fun g1 g2 ⟨z, y, o, es, ep, e1, e2, e3, e4, e5⟩ hk => ⟨z, y, o, es, ep, hk o e1, e2, e3, e4, e5⟩⟩
section
variable {X : Cx} {o i e value : Expr} {pos pos' : Pos} {td ty tv : TE}
theorem pc_ndin (hu : X.A.units + 9 < cLine) (hi : PE X i ty) (ho : PE X o td) : PC X .In i o (fun σ H Q => ty σ H fun y H1 => td σ H1 fun x H2 => ∃ a b xs k, x = .ref a ∧ y = .ref b ∧ NdOk X σ H2 a b xs k ∧ Q (.bl (atKey xs k).isSome) H2) := by
  refine ⟨fun pins s σ H Q I h => ?_⟩
  refine thn (hi.run pins s σ H _ I h) fun iv s1 ⟨y, H1, I1, ry, q1⟩ => thn (ho.run pins s1 σ H1 _ I1 q1) fun u s2 ⟨x, H2, I2, rx, a, b, xs, k, ex, ey, ok, q2⟩ => ?_
  subst ex ey
  obtain rfl : u = Value.ref a := rx
  obtain rfl : iv = Value.ref b := ry
  obtain ⟨n1, n2, n3, n4⟩ := ok pins s2 I2
  refine wpAny_in_heap (A := X.A) (by show X.A.units + 1 + 8 < _; omega) n1 n3 n2 ⟨.bl _, H2, I2.tok _, rfl, q2⟩
theorem pe_ndget (hu : X.A.units + 9 < cLine) (ho : PE X o td) (hi : PE X i ty) (hs : NoSl i) : PE X (.Subscript o i pos) (fun σ H Q => td σ H fun x H1 => ty σ H1 fun y H2 => ∃ a b xs k p v, x = .ref a ∧ y = .ref b ∧ NdOk X σ H2 a b xs k ∧ atKey xs k = some p ∧ RelV v p.2 ∧ Q v H2) := by
  refine ⟨fun pins s σ H Q I h => ?_⟩
  refine subD_of PySem.F.slot_dict_getitem.lookup hs (thn (ho.run pins s σ H _ I h) fun u s1 ⟨x, H1, I1, rx, q1⟩ => thn (hi.run pins s1 σ H1 _ I1 q1) fun iv s2 ⟨y, H2, I2, ry, a, b, xs, k, p, v, ex, ey, ok, hp, rv, q2⟩ => ?_)
  subst ex ey
  obtain rfl : u = Value.ref a := rx
  obtain rfl : iv = Value.ref b := ry
  obtain ⟨n1, n2, n3, n4⟩ := ok pins s2 I2
  exact ⟨n2.typeIs, wpAny_getItem_heap (A := X.A) (by show X.A.units + 1 + 8 < _; omega) n1 n2 hp ⟨v, H2, I2.tok _, rv, q2⟩⟩
theorem ps_ndput (hu : X.A.units + 9 < cLine) (ho : PE X o td) (hi : PE X i ty) (hv : PE X value tv) (hs : swapsWith value (some (.Subscript o i pos')) pos.line X.env = pure false) :
    PS X (.Assign [.Subscript o i pos'] value pos) (fun D σ H => tv σ H fun v H1 => td σ H1 fun x H2 => ty σ H2 fun y H3 => ∃ a b xs k, x = .ref a ∧ y = .ref b ∧ NdOk X σ H3 a b xs k ∧ atKey xs k = none ∧ xs.length < sizeLine ∧ Mut (H3 a) ∧
      ∀ u, RelV v u → D.nx σ (upd H3 a (DNo X.prog X.w a (xs ++ [(k, b, u)])))) := by
  refine ⟨fun pins s σ H D I h => ?_⟩
  refine wpAny_Assign_Subscript (thn (hv.run pins s σ H _ I h) fun r s1 ⟨v, H1, I1, rv, q1⟩ => thn (ho.run pins s1 σ H1 _ I1 q1) fun u s2 ⟨x, H2, I2, rx, q2⟩ => thn (hi.run pins s2 σ H2 _ I2 q2) fun iv s3 ⟨y, H3, I3, ry, a, b, xs, k, ex, ey, ok, hn, hz, mu, q3⟩ => ?_) hs
  subst ex ey
  obtain rfl : u = Value.ref a := rx
  obtain rfl : iv = Value.ref b := ry
  obtain ⟨n1, n2, n3, n4⟩ := ok pins s3 I3
  refine wpAny_setItem_heap (A := X.A) (hsz := n4) (by show X.A.units + 1 + 8 < _; omega) n1 n2 fun h' dd hsb => ?_
  rw [storedH_new hn] at dd
  have he : ∃ q, h'.get? a = some q := let ⟨q, _, _, hq, _⟩ := dd; ⟨q, hq⟩
  exact ⟨σ, _, d_write I3 mu hsb he (dno_ok n3 (by simp; omega) dd), q3 r rv⟩
theorem subdict_ends {prog : Program} {w : World} {A : Around} {E : Value → Shared → Prop} {s : Shared} {K : Type} [DecidableEq K] {knd : HeapKind prog w K} {env : Env} {keys : List (Option Expr)} {values : List Expr} {pos : Pos} {Q : Value → Shared → Prop} (hu : knd.room A)
    (hall : keys.all (·.isSome) = true) (hl : keys.length = values.length) (h0 : keys ≠ []) (h15 : keys.length ≤ 15)
    (h : wpAny (model prog w) A (evalPairs (pairTrees keys values env pos)) (fun vs s₁ => ∃ ps, CarriesH knd s₁.heap vs ps ∧ s₁.heap.DictOfH knd s.heap.objs.size [] ∧
      ∀ h' tk, h'.DictOfH knd s.heap.objs.size (storedAllH [] ps) → Heap.SameBut s.heap.objs.size s₁.heap h' → Q (.ref s.heap.objs.size) { s₁ with heap := h', toks := tk }) E
      { s with heap := s.heap.push { cls := .type "dict", data := .dict #[] } }) :
    wpAny (model prog w) A (eval (.Dict keys values pos) env) Q E s := by
  have hn := pairTrees_length keys values env pos hall hl
  have hne : pairTrees keys values env pos ≠ [] := fun z => by
    rw [z] at hn
    exact h0 (List.length_eq_zero_iff.mp hn.symm)
  rw [arm_eval_Dict, zip_pairTrees keys values env pos hall hl, dictDisplay_pairs _ hne (by omega)]
  exact wpAny_bind (wpAny_standAt (wpAny_bind (wpAny_subDictH (knd := knd) (Q := fun d s' => wpAny (model prog w) A (pure (Value.ref d)) Q E s') hu (by omega)
    (wpAny_mono h (fun vs s₁ h₁ => by obtain ⟨ps, hc, hm, hq⟩ := h₁; exact ⟨ps, hc, hm, fun h' tk a b => wpAny_pure (hq h' tk a b)⟩) fun _ _ e => e))))
theorem pe_nddisp (hu : X.A.units + 9 < cLine) (hk : PE X i ty) (hv : PE X e tv) : PE X (.Dict [some i] [e] pos) (fun σ H Q => ∀ p, H p = none → (p == sysModules) = false → ty σ (upd H p (DNo X.prog X.w p [])) fun y H1 => tv σ H1 fun v H2 => ∃ b k, y = .ref b ∧ H2 p = some (DNo X.prog X.w p []) ∧
    (∀ pins s, Inv X pins σ H2 s → (nestedKind X.prog X.w).is s.heap k b) ∧ ∀ u, RelV v u → Q (.ref p) (upd H2 p (DNo X.prog X.w p [(k, b, u)]))) := by
  refine ⟨fun pins s σ H Q I q => ?_⟩
  have hn := I.hok.fresh (Nat.le_refl s.heap.objs.size)
  have hm : (s.heap.objs.size == sysModules) = false := beq_eq_false_iff_ne.mpr (Ne.symm (Nat.ne_of_lt I.big))
  have d0 : (s.heap.push { cls := .type "dict", data := .dict #[] }).DictOfH (nestedKind X.prog X.w) s.heap.objs.size [] := Heap.DictOfH.new s.heap
  have I1 := I.laid (a := s.heap.objs.size) (o := DNo X.prog X.w s.heap.objs.size []) (h' := s.heap.push { cls := .type "dict", data := .dict #[] }) (t' := s.toks) (fun _ _ q => Heap.get?_push_of_some _ q) (Nat.le_refl _) (dno_ok hm (Nat.zero_le _) d0)
  refine subdict_ends (knd := nestedKind X.prog X.w) (by show X.A.units + 8 < _; omega) rfl rfl (by simp) (by simp) ?_
  refine pairTrees_cons_walk (thn (hk.run pins _ σ _ _ I1 (q _ hn hm)) fun kv s2 ⟨y, H1, I2, ry, q1⟩ => thn (hv.run pins s2 σ H1 _ I2 q1) fun vv s3 ⟨v, H2, I3, rv, b, k, ey, e, is, q2⟩ => ?_)
  subst ey
  obtain rfl : kv = Value.ref b := ry
  refine pairTrees_nil_walk ?_
  obtain ⟨⟨_, _, o, es, ep, h1, h2, h3, h4, h5⟩, _, _⟩ := (show ObjOk X.prog X.w H2 s3.heap s.heap.objs.size (DNo X.prog X.w s.heap.objs.size []) from I3.hok _ _ e)
  refine ⟨[(k, b, vv)], ⟨rfl, rfl, is pins s3 I3, trivial⟩, ⟨o, es, ep, h1, h2, h3, h4, (fun _ z => nomatch z), h5⟩, fun h' tk dd hsb => ⟨.ref s.heap.objs.size, _, ?_, rfl, q2 vv rv⟩⟩
  have he : ∃ q, h'.get? s.heap.objs.size = some q := let ⟨q, _, _, hq, _⟩ := dd; ⟨q, hq⟩
  exact d_write I3 (by rw [e]; exact True.intro) hsb he (dno_ok hm (by simp [sizeLine_eq]) dd)
end

/-! ### the judgements -/
section
variable {K : PySem.W.Frag} {mg : Str → Option Value} {Zx Z F : Hp} {φ : List Addr} {ρ : Ro} {σ : L2.St}
theorem Ss.aside {p : Addr} {o : HO} (h : Ss K Zx Z F φ ρ σ) (hz : Z p = none) : Ss K Zx (upd Z p o) F φ ρ σ :=
  ⟨h.len, h.va, fun i m e => let ⟨a, o', h1, h2, h3, h4⟩ := h.ow i m e; ⟨a, o', h1, by rw [upd_ne (ne_of_none h2 hz)]; exact h2, h3, h4⟩, h.sep, fun a u e => by
    have := h.out a u e
    rw [upd_ne (ne_of_none this hz)]; exact this⟩
def asCells : W → Option (List (Int × Int))
  | .tup ws => cellsW ws
  | _ => none
theorem asCells_eq {w : W} {cs : List (Int × Int)} (h : asCells w = some cs) : w = keyNW cs := by
  cases w <;> first | cases h | skip
  have := cellsW_eq h
  subst this
  rfl
theorem key_ref {cs : List (Int × Int)} {v : V} (r : R K F φ (keyNW cs) v) : ∃ b, v = .ref b := by
  unfold keyNW at r
  cases r with
  | tup _ _ => exact ⟨_, rfl⟩
def findN (kvs : List (List (Int × Int) × W)) (cs : List (Int × Int)) : Option W := (kvs.find? fun p => decide (p.1 = cs)).map (·.2)
theorem findN_rel : ∀ {kvs : List (List (Int × Int) × W)} {xs : List (NestedKey × Addr × Value)} {vs : List V}, xs.map (·.1) = kvs.map (fun p => encK p.1) → Rs K F φ (kvs.map Prod.snd) vs → Vals vs (xs.map (·.2.2)) → ∀ cs,
    (findN kvs cs = none ∧ atKey xs (encK cs) = none) ∨ ∃ w v q, findN kvs cs = some w ∧ atKey xs (encK cs) = some q ∧ R K F φ w v ∧ RelV v q.2
  | [], [], _, _, _, _, _ => .inl ⟨rfl, rfl⟩
  | [], _ :: _, _, e, _, _, _ => by cases e
  | _ :: _, [], _, e, _, _, _ => by cases e
  | p :: kvs, q :: xs, vs, e, r, rv, cs => by
    simp only [List.map_cons, List.cons.injEq] at e
    rw [List.map_cons] at r rv
    cases r with
    | cons r1 r =>
      cases rv with
      | cons v1 rv =>
        by_cases h : p.1 = cs
        · refine .inr ⟨p.2, _, q.2, ?_, ?_, r1, v1⟩
          · unfold findN; rw [List.find?_cons_of_pos (by simp [h])]; rfl
          · unfold atKey; rw [List.find?_cons_of_pos (by simp [e.1, h])]; rfl
        · have h' : q.1 ≠ encK cs := fun z => h (encK_inj (e.1.symm.trans z))
          have f1 : findN (p :: kvs) cs = findN kvs cs := by unfold findN; rw [List.find?_cons_of_neg (by simp [h])]
          have f2 : atKey (q :: xs) (encK cs) = atKey xs (encK cs) := by unfold atKey; rw [List.find?_cons_of_neg (by simp [h'])]
          rw [f1, f2]
          exact findN_rel e.2 r rv cs
end
/-- k in d, d such a dict at the slot i -/
def cNdIn (i : Nat) (fk : EF) : TF := fun ρ L => match fk ρ L with
  | none => none
  | some (k, L1) => match asCells k with
    | none => none
    | some cs => match ρ[i]? with
      | some (.va (.ob j)) => (match L1[j]? with
        | some (.nd kvs) => some ((findN kvs cs).isSome, L1)
        | _ => none)
      | _ => none
def cNdGet (i : Nat) (fk : EF) : EF := fun ρ L => match fk ρ L with
  | none => none
  | some (k, L1) => match asCells k with
    | none => none
    | some cs => match ρ[i]? with
      | some (.va (.ob j)) => (match L1[j]? with
        | some (.nd kvs) => (match findN kvs cs with
          | some w => some (w, L1)
          | none => none)
        | _ => none)
      | _ => none
def cNdPut (i : Nat) (fk fv : EF) : SF := fun ρ L => match fv ρ L with
  | none => none
  | some (w, L1) => match fk ρ L1 with
    | none => none
    | some (k, L2) => match asCells k with
      | none => none
      | some cs => match ρ[i]? with
        | some (.va (.ob j)) => (match L2[j]? with
          | some (.nd kvs) => if findN kvs cs = none ∧ kvs.length < 1000000 then some (.nx ρ (L2.set j (.nd (kvs ++ [(cs, w)])))) else none
          | _ => none)
        | _ => none
def cNd1 (fk fv : EF) : EF := fun ρ L => match fk ρ L with
  | none => none
  | some (k, L1) => match fv ρ L1 with
    | none => none
    | some (w, L2) => match asCells k with
      | some cs => some (.ob L2.length, L2 ++ [.nd [(cs, w)]])
      | none => none
section
variable {X : Cx} {a b c : Expr} {pos : Pos}
/-- what is known of such a dict -/
theorem nd_at {Z F H : Hp} {φ : List Addr} {L : Lg} {σ : L2.St} {d bk : Addr} {j : Nat} {kvs : List (List (Int × Int) × W)} {cs : List (Int × Int)} (hs : Hs X.K X.mg Z F φ L H) (hL : L[j]? = some (.nd kvs)) (hj : φ[j]? = some d) (rk : R X.K F φ (keyNW cs) (.ref bk)) :
    F d = none ∧ ∃ (xs : List (NestedKey × Addr × Value)) (vs : List V), Mut (H d) ∧ xs.map (·.1) = kvs.map (fun p => encK p.1) ∧ Rs X.K F φ (kvs.map fun p => keyNW p.1) (xs.map fun q => V.ref q.2.1) ∧ Rs X.K F φ (kvs.map Prod.snd) vs ∧ Vals vs (xs.map (·.2.2)) ∧
      NdOk X σ H d bk xs (encK cs) := by
  obtain ⟨n, P, w, xs, vs, h1, h2, h3, h4, h5⟩ := hs.objs j _ _ hL hj
  refine ⟨n, xs, vs, by rw [h1]; exact trivial, h2, h3, h4, h5, fun pins s I => ?_⟩
  obtain ⟨⟨z, hd, o, es, ep, e1, e2, e3, e4, e5⟩, _, _⟩ := (show ObjOk X.prog X.w H s.heap d (DNo P w d xs) from I.hok _ _ h1)
  exact ⟨key_is hs.sub I.hok rk, ⟨o, es, ep, e1, e2, e3, by rw [e4]; exact ents_any _ h2, keys_are hs.sub I.hok _ h2 h3, e5⟩, hd, z⟩
theorem Rs.snoc {K : PySem.W.Frag} {F : Hp} {φ : List Addr} {w : W} {v : V} : ∀ {ws : List W} {vs : List V}, Rs K F φ ws vs → R K F φ w v → Rs K F φ (ws ++ [w]) (vs ++ [v])
  | _, _, .nil, r => .cons r .nil
  | _, _, .cons q t, r => .cons q (Rs.snoc t r)
theorem vals_snoc {v : V} {u : Value} : ∀ {vs : List V} {us : List Value}, Vals vs us → RelV v u → Vals (vs ++ [v]) (us ++ [u])
  | _, _, .nil, r => .cons r .nil
  | _, _, .cons q t, r => .cons q (vals_snoc t r)
theorem it_ndin (i : Nat) {x : Str} {px : Pos} {fk : EF} (hu : X.A.units + 9 < cLine) (hk : IE X a fk) (hN : X.N[i]? = some x := by rfl) (hv : Vis X.env.scope x := by first | exact Or.inl rfl | exact Or.inr (Or.inl rfl) | exact Or.inr (Or.inr rfl)) (hd : (x == ("__debug__" : Str)) = false := by decide)
    (hcd : (x == ("__classdict__" : Str)) = false := by decide) (h1 : behindInMarks .In (.Name x px) = false := by rfl) : IT X (.Compare a [.In] [.Name x px] pos) (cNdIn i fk) := by
  refine ⟨fun {Zx Z F φ L ρ σ H w L'} hs ss h Q q => PT.wp (pt_cmp (pc_ndin hu wpE (pe_var hN hv hd hcd)) h1) ?_⟩
  unfold cNdIn at h
  split at h
  · cases h
  rename_i kw L1 e1
  split at h
  · cases h
  rename_i cs e2
  split at h
  · rename_i j e3
    split at h
    · rename_i kvs e4
      simp only [Option.some.injEq, Prod.mk.injEq] at h
      obtain ⟨rfl, rfl⟩ := h
      obtain ⟨v, h1, h2⟩ := ss.va i _ e3
      cases h2 with
      | ob hj =>
        refine hk.run hs ss e1 _ fun F1 φ1 H1 vk s1 p1 hs1 r1 => ?_
        have ew := asCells_eq e2
        subst ew
        obtain ⟨bk, rfl⟩ := key_ref r1
        obtain ⟨nF, xs, vs, mu, g1, g2, g3, g4, ok⟩ := nd_at (σ := σ) hs1 e4 (pre_get p1 hj) r1
        refine ⟨_, h1, _, bk, xs, encK cs, rfl, rfl, ok, _, rfl, ?_⟩
        rcases findN_rel g1 g3 g4 cs with ⟨f1, f2⟩ | ⟨w1, v1, q1, f1, f2, _, _⟩
        · rw [f2]; rw [f1] at q
          exact q F1 φ1 H1 s1 p1 hs1
        · rw [f2]; rw [f1] at q
          exact q F1 φ1 H1 s1 p1 hs1
    · cases h
  · cases h
theorem ie_ndget (i : Nat) {x : Str} {px : Pos} {fk : EF} (hu : X.A.units + 9 < cLine) (hk : IE X b fk) (hN : X.N[i]? = some x := by rfl) (hv : Vis X.env.scope x := by first | exact Or.inl rfl | exact Or.inr (Or.inl rfl) | exact Or.inr (Or.inr rfl)) (hd : (x == ("__debug__" : Str)) = false := by decide)
    (hcd : (x == ("__classdict__" : Str)) = false := by decide) (hs' : NoSl b := by intro _ _; rfl) : IE X (.Subscript (.Name x px) b pos) (cNdGet i fk) := by
  refine ⟨fun {Zx Z F φ L ρ σ H w L'} hs ss h Q q => PE.wp (pe_ndget hu (pe_var hN hv hd hcd) wpE hs') ?_⟩
  unfold cNdGet at h
  split at h
  · cases h
  rename_i kw L1 e1
  split at h
  · cases h
  rename_i cs e2
  split at h
  · rename_i j e3
    split at h
    · rename_i kvs e4
      split at h
      · rename_i w0 e5
        simp only [Option.some.injEq, Prod.mk.injEq] at h
        obtain ⟨rfl, rfl⟩ := h
        obtain ⟨v, h1, h2⟩ := ss.va i _ e3
        cases h2 with
        | ob hj =>
          refine ⟨_, h1, ?_⟩
          refine hk.run hs ss e1 _ fun F1 φ1 H1 vk s1 p1 hs1 r1 => ?_
          have ew := asCells_eq e2
          subst ew
          obtain ⟨bk, rfl⟩ := key_ref r1
          obtain ⟨nF, xs, vs, mu, g1, g2, g3, g4, ok⟩ := nd_at (σ := σ) hs1 e4 (pre_get p1 hj) r1
          rcases findN_rel g1 g3 g4 cs with ⟨f1, f2⟩ | ⟨w1, v1, q1, f1, f2, f3, f4⟩
          · rw [f1] at e5; cases e5
          · rw [f1] at e5; cases e5
            exact ⟨_, bk, xs, encK cs, q1, v1, rfl, rfl, ok, f2, f4, q F1 φ1 H1 v1 s1 p1 hs1 f3⟩
      · cases h
    · cases h
  · cases h
theorem is_ndput (i : Nat) {x : Str} {px pos' : Pos} {fk fv : EF} (hu : X.A.units + 9 < cLine) (hk : IE X b fk) (hv' : IE X c fv) (hN : X.N[i]? = some x := by rfl) (hv : Vis X.env.scope x := by first | exact Or.inl rfl | exact Or.inr (Or.inl rfl) | exact Or.inr (Or.inr rfl)) (hd : (x == ("__debug__" : Str)) = false := by decide)
    (hcd : (x == ("__classdict__" : Str)) = false := by decide) (hs' : swapsWith c (some (.Subscript (.Name x px) b pos')) pos.line X.env = pure false := by rfl) :
    IS X (.Assign [.Subscript (.Name x px) b pos'] c pos) (cNdPut i fk fv) := by
  refine ⟨fun {Zx Z F φ L ρ σ H o} hs ss h D q => PS.wp (ps_ndput hu (pe_var hN hv hd hcd) wpE wpE hs') ?_⟩
  unfold cNdPut at h
  split at h
  · cases h
  rename_i w L1 e0
  split at h
  · cases h
  rename_i kw L2 e1
  split at h
  · cases h
  rename_i cs e2
  split at h
  · rename_i j e3
    split at h
    · rename_i kvs e4
      split at h
      · rename_i e5
        simp only [Option.some.injEq] at h
        subst h
        obtain ⟨v, h1, h2⟩ := ss.va i _ e3
        cases h2 with
        | ob hj =>
          refine hv'.run hs ss e0 _ fun F1 φ1 H1 vw s1 p1 hs1 r1 => ?_
          refine ⟨_, h1, ?_⟩
          refine hk.run hs1 (ss.mono s1 p1) e1 _ fun F2 φ2 H2 vk s2 p2 hs2 r2 => ?_
          have ew := asCells_eq e2
          subst ew
          obtain ⟨bk, rfl⟩ := key_ref r2
          have hj2 := pre_get p2 (pre_get p1 hj)
          obtain ⟨nF, xs, vs, mu, g1, g2, g3, g4, ok⟩ := nd_at (σ := σ) hs2 e4 hj2 r2
          have hlen : xs.length = kvs.length := by simpa using congrArg List.length g1
          rcases findN_rel g1 g3 g4 cs with ⟨f1, f2⟩ | ⟨w1, v1, q1, f1, f2, f3, f4⟩
          · refine ⟨_, bk, xs, encK cs, rfl, rfl, ok, f2, by rw [sizeLine_eq]; omega, mu, fun u ru => ?_⟩
            refine q Z F2 φ2 σ _ (s1.trans s2) (List.IsPrefix.trans p1 p2) (hs2.setOb (List.getElem?_eq_some_iff.mp e4).1 hj2 nF (by intro _ z; cases z) ?_) (ss.mono (s1.trans s2) (List.IsPrefix.trans p1 p2))
            refine ⟨nF, X.prog, X.w, _, vs ++ [vw], upd_same, ?_, ?_, ?_, ?_⟩
            · rw [List.map_append, List.map_append, g1]; rfl
            · rw [List.map_append, List.map_append]; exact Rs.snoc g2 r2
            · rw [List.map_append]; exact Rs.snoc g3 (r1.mono s2 p2)
            · rw [List.map_append]; exact vals_snoc g4 ru
          · rw [e5.1] at f1; cases f1
      · cases h
    · cases h
  · cases h
theorem ie_nd1 {fk fv : EF} (hu : X.A.units + 9 < cLine) (hk : IE X a fk) (hv : IE X b fv) : IE X (.Dict [some a] [b] pos) (cNd1 fk fv) := by
  refine ⟨fun {Zx Z F φ L ρ σ H w L'} hs ss h Q q => PE.wp (pe_nddisp hu wpE wpE) fun p hp hm => ?_⟩
  unfold cNd1 at h
  split at h
  · cases h
  rename_i kw L1 e1
  split at h
  · cases h
  rename_i w1 L2 e2
  split at h
  · rename_i cs e3
    simp only [Option.some.injEq, Prod.mk.injEq] at h
    obtain ⟨rfl, rfl⟩ := h
    obtain ⟨f1, f2, f3⟩ := hs.free hp
    refine hk.run (hs.fresh (o := DNo X.prog X.w p []) hp (by intro _ z; cases z)) (ss.aside f2) e1 _ fun F1 φ1 H1 vk s1 p1 hs1 r1 => ?_
    have ew := asCells_eq e3
    subst ew
    obtain ⟨bk, rfl⟩ := key_ref r1
    refine hv.run hs1 ((ss.aside f2).mono s1 p1) e2 _ fun F2 φ2 H2 vv s2 p2 hs2 r2 => ?_
    have r1' := r1.mono s2 p2
    refine ⟨bk, encK cs, rfl, (hs2.ext p _ upd_same).1, fun pins s I => key_is hs2.sub I.hok r1', fun u ru => ?_⟩
    have hs3 := hs2.turn (o' := DNo X.prog X.w p [(encK cs, bk, u)]) (p := p) upd_same (by intro _ z; cases z)
    rw [upd_upd] at hs3
    refine q F2 (φ2 ++ [p]) _ _ (s1.trans s2) (List.IsPrefix.trans (List.IsPrefix.trans p1 p2) (List.prefix_append _ _)) (hs3.numbered f2 fun nF hH => ?_) (.ob ?_)
    · exact ⟨nF, X.prog, X.w, _, [vv], hH, rfl, .cons r1' .nil, .cons r2 .nil, .cons ru .nil⟩
    · rw [← hs2.len, List.getElem?_append_right (Nat.le_refl _)]
      simp
  · cases h
/-! ### xs.index(e), xs the list that a name holds -/
def idxD (d : PyData) : List PyData → Option Nat
  | [] => none
  | z :: ds => if PyData.eqv z d = true then some 0 else (idxD d ds).map (· + 1)
theorem idxD_spec {d : PyData} : ∀ {ds : List PyData} {j : Nat}, idxD d ds = some j → ∃ z, ds[j]? = some z ∧ PyData.eqv z d = true ∧ ∀ (m : Nat) (z' : PyData), m < j → ds[m]? = some z' → PyData.eqv z' d = false
  | [], _, h => by cases h
  | z :: ds, j, h => by
    unfold idxD at h
    by_cases q : PyData.eqv z d = true
    · rw [if_pos q] at h; cases h
      exact ⟨z, rfl, q, fun m _ hm => absurd hm (Nat.not_lt_zero _)⟩
    · rw [if_neg q] at h
      obtain ⟨j', e, rfl⟩ := Option.map_eq_some_iff.mp h
      obtain ⟨z1, h1, h2, h3⟩ := idxD_spec e
      refine ⟨z1, by simpa using h1, h2, fun m z' hm hz => ?_⟩
      cases m with
      | zero => simp at hz; subst hz; simpa using q
      | succ m => exact h3 m z' (by omega) (by simpa using hz)
def cIdx (i : Nat) (fk : EF) : EF := fun ρ L => match ρ[i]? with
  | some (.ow (.lst ws)) => (match fk ρ L with
    | none => none
    | some (k, L1) => match toDs ws, toD k with
      | some ds, some d => if SeqAt.shaped (.list ds) = true ∧ SeqAt.shaped d = true then (match idxD d ds with
        | some j => some (.int (j : Nat), L1)
        | none => none) else none
      | _, _ => none)
  | _ => none
theorem ie_idx (i : Nat) {x : Str} {px apos cpos : Pos} {fk : EF} (hu : X.A.units + 65 < cLine) (he : IE X b fk) (hN : X.N[i]? = some x := by rfl) (hv : Vis X.env.scope x := by first | exact Or.inl rfl | exact Or.inr (Or.inl rfl) | exact Or.inr (Or.inr rfl)) (hd : (x == ("__debug__" : Str)) = false := by decide)
    (hcd : (x == ("__classdict__" : Str)) = false := by decide) (hb : attributeBase (.Name x px) "index" X.env (eval (.Name x px) X.env) = eval (.Name x px) X.env := by rfl)
    (hfew : ((backTo cpos (starEach (b :: []) X.env)).all (fun x => !x.1) && (backToKw cpos (keywordEach [] X.env)).all (fun x => x.1.isSome)
      && decide ((b :: []).length + ([] : List Keyword).length + (if ([] : List Keyword).isEmpty then 0 else 1) < 30)) = true := by rfl)
    (hline : (apos.endLine == cpos.line) = true := by rfl) (hst : starEach (b :: []) X.env = (false, eval b X.env) :: starEach [] X.env := by rfl) (hplain : (backTo cpos (starEach [] X.env)).any (·.1) = false := by rfl) :
    IE X (.Call (.Attribute (.Name x px) "index" apos) [b] [] cpos) (cIdx i fk) := by
  refine ⟨fun {Zx Z F φ L ρ σ H w L'} hs ss h Q q => PE.wp (pe_bm PySem.F.plainAttrs_list PySem.F.slot_list_index PySem.F.type_list_index (mt_indexD hu) (pe_var hN hv hd hcd) (pa_cons wpE pa_nil hst) hb hfew hline hst hplain) ?_⟩
  unfold cIdx at h
  split at h
  · rename_i ws e0
    split at h
    · cases h
    rename_i k L1 e1
    split at h
    · rename_i ds d e2 e3
      split at h
      · rename_i sh
        split at h
        · rename_i j e4
          simp only [Option.some.injEq, Prod.mk.injEq] at h
          obtain ⟨rfl, rfl⟩ := h
          obtain ⟨a, o, h1, h2, _, h4⟩ := ss.ow i _ e0
          cases o <;> first | exact h4.elim | skip
          rename_i vs
          refine ⟨_, h1, .inl ⟨rfl, _, SqL.of (hs.ext a _ h2).1⟩, ?_⟩
          refine he.run hs ss e1 _ fun F1 φ1 H1 vk s1 p1 hs1 r1 => ?_
          have hc : Cont X.K F1 φ1 H1 (.lst ws) (.ref a) := .inr ⟨a, _, .lst ws, rfl, rfl, (hs1.ext a _ h2).1, MOk.mono (m := .lst ws) s1 p1 h4⟩
          obtain ⟨z, g1, g2, g3⟩ := idxD_spec e4
          exact ⟨a, vk, d, ds, j, z, rfl, rfl, dp_list hs1.sub hc e2, r1.dp hs1.sub e3, sh.1, sh.2, g1, g2, g3, q F1 φ1 H1 _ s1 p1 hs1 (.int _)⟩
        · cases h
      · cases h
    · cases h
  · cases h
end
/-! ### a slice of the script -/
def cSlS (i : Nat) (fl fh : Ro → Lg → Option (Option Int × Lg)) : EF := fun ρ L => match ρ[i]? with
  | some (.va (.scr ns)) => (match fl ρ L with
    | none => none
    | some (l, L2) => match fh ρ L2 with
      | none => none
      | some (u, L3) => some (.lst ((cutW ns l u).map W.int), L3))
  | _ => none
theorem ie_slS (i : Nat) {X : Cx} {pos : Pos} {x : Str} {px : Pos} {lo hi : Option Expr} {fl fh : Ro → Lg → Option (Option Int × Lg)} {p2 : Pos} (hl : IP X lo fl) (hh : IP X hi fh) (hN : X.N[i]? = some x := by rfl) (hv : Vis X.env.scope x := by first | exact Or.inl rfl | exact Or.inr (Or.inl rfl) | exact Or.inr (Or.inr rfl)) (hd : (x == ("__debug__" : Str)) = false := by decide)
    (hcd : (x == ("__classdict__" : Str)) = false := by decide) : IE X (.Subscript (.Name x px) (.Slice lo hi none p2) pos) (cSlS i fl fh) := by
  refine ⟨fun {Zx Z F φ L ρ σ H w L'} hs ss h Q q => PE.wp (pe_slice (SlR.or sl_list sl_str) (pe_var hN hv hd hcd) (wpOa lo) (wpOa hi)) ?_⟩
  unfold cSlS at h
  split at h
  · rename_i ns e1
    split at h
    · cases h
    rename_i l L2 e2
    split at h
    · cases h
    rename_i u L3 e3
    simp only [Option.some.injEq, Prod.mk.injEq] at h
    obtain ⟨rfl, rfl⟩ := h
    obtain ⟨v, h1, h2⟩ := ss.va i _ e1
    cases h2 with
    | scr hq =>
      refine ⟨_, h1, ?_⟩
      refine hl.run hs ss e2 _ fun F2 φ2 H2 s2 p2 hs2 => ?_
      refine hh.run hs2 (ss.mono s2 p2) e3 _ fun F3 φ3 H3 s3 p3 hs3 => ?_
      have s23 := s2.trans s3
      have p23 := List.IsPrefix.trans p2 p3
      refine .inl ⟨_, _, rfl, SqL.mono hs3.sub (SqL.mono s23 hq), fun p hp => ?_⟩
      have cm : (cutW ns l u).map W.int = cutW (ns.map W.int) l u := by unfold cutW; rw [List.map_take, List.map_drop, List.length_map]
      rw [cm] at q
      exact newL hs3 ((Rs.of_ints ns).cut l u) (fun F' H' v s' hs' r' => q F' φ3 H' v (s23.trans s') p23 hs' r') hp
  · cases h
@[simp] theorem e_cSlS (i : Nat) (fl fh : Ro → Lg → Option (Option Int × Lg)) (ρ : Ro) (L : Lg) : cSlS i fl fh ρ L = (match ρ[i]? with
  | some (.va (.scr ns)) => (match fl ρ L with
    | none => none
    | some (l, L2) => match fh ρ L2 with
      | none => none
      | some (u, L3) => some (.lst ((cutW ns l u).map W.int), L3))
  | _ => none) := id rfl
/-! ### a <= b < c -/
def cChain (fa fb fc : EF) : TF := fun ρ L => match fa ρ L with
  | some (.int i, L1) => (match fb ρ L1 with
    | some (.int j, L2) => if i ≤ j then (match fc ρ L2 with
      | some (.int k, L3) => some (decide (j < k), L3)
      | _ => none) else some (false, L2)
    | _ => none)
  | _ => none
theorem it_chain {X : Cx} {a b c : Expr} {pos : Pos} {fa fb fc : EF} (ha : IE X a fa) (hb : IE X b fb) (hc : IE X c fc) (hm : lastMarks [.LtE, .Lt] [b, c] = false := by with_unfolding_all rfl) : IT X (.Compare a [.LtE, .Lt] [b, c] pos) (cChain fa fb fc) := by
  refine ⟨fun {Zx Z F φ L ρ σ H w L'} hs ss h Q q => PT.wp (pt_chain op_le op_lt wpE wpE wpE hm) ?_⟩
  unfold cChain at h
  split at h
  · rename_i i L1 e1
    split at h
    · rename_i j L2 e2
      refine ha.run hs ss e1 _ fun F1 φ1 H1 v1 s1 p1 hs1 r1 => ?_
      refine hb.run hs1 (ss.mono s1 p1) e2 _ fun F2 φ2 H2 v2 s2 p2 hs2 r2 => ?_
      cases r1; cases r2
      refine ⟨i, j, rfl, rfl, decide (i ≤ j), rfl, ?_⟩
      split at h
      · rename_i hij
        split at h
        · rename_i k L3 e3
          simp only [Option.some.injEq, Prod.mk.injEq] at h
          obtain ⟨rfl, rfl⟩ := h
          rw [if_pos (decide_eq_true hij)]
          refine hc.run hs2 (ss.mono (s1.trans s2) (List.IsPrefix.trans p1 p2)) e3 _ fun F3 φ3 H3 v3 s3 p3 hs3 r3 => ?_
          cases r3
          exact ⟨j, k, rfl, rfl, _, rfl, q F3 φ3 H3 ((s1.trans s2).trans s3) (List.IsPrefix.trans (List.IsPrefix.trans p1 p2) p3) hs3⟩
        · cases h
      · rename_i hij
        simp only [Option.some.injEq, Prod.mk.injEq] at h
        obtain ⟨rfl, rfl⟩ := h
        rw [if_neg (by simpa using hij)]
        exact ⟨_, rfl, q F2 φ2 H2 (s1.trans s2) (List.IsPrefix.trans p1 p2) hs2⟩
    · cases h
  · cases h
@[simp] theorem e_cChain (fa fb fc : EF) (ρ : Ro) (L : Lg) : cChain fa fb fc ρ L = (match fa ρ L with
  | some (.int i, L1) => (match fb ρ L1 with
    | some (.int j, L2) => if i ≤ j then (match fc ρ L2 with
      | some (.int k, L3) => some (decide (j < k), L3)
      | _ => none) else some (false, L2)
    | _ => none)
  | _ => none) := id rfl
@[simp] theorem e_cNdIn (i : Nat) (fk : EF) (ρ : Ro) (L : Lg) : cNdIn i fk ρ L = (match fk ρ L with
  | none => none
  | some (k, L1) => match asCells k with
    | none => none
    | some cs => match ρ[i]? with
      | some (.va (.ob j)) => (match L1[j]? with
        | some (.nd kvs) => some ((findN kvs cs).isSome, L1)
        | _ => none)
      | _ => none) := id rfl
@[simp] theorem e_cNdGet (i : Nat) (fk : EF) (ρ : Ro) (L : Lg) : cNdGet i fk ρ L = (match fk ρ L with
  | none => none
  | some (k, L1) => match asCells k with
    | none => none
    | some cs => match ρ[i]? with
      | some (.va (.ob j)) => (match L1[j]? with
        | some (.nd kvs) => (match findN kvs cs with
          | some w => some (w, L1)
          | none => none)
        | _ => none)
      | _ => none) := id rfl
@[simp] theorem e_cNdPut (i : Nat) (fk fv : EF) (ρ : Ro) (L : Lg) : cNdPut i fk fv ρ L = (match fv ρ L with
  | none => none
  | some (w, L1) => match fk ρ L1 with
    | none => none
    | some (k, L2) => match asCells k with
      | none => none
      | some cs => match ρ[i]? with
        | some (.va (.ob j)) => (match L2[j]? with
          | some (.nd kvs) => if findN kvs cs = none ∧ kvs.length < 1000000 then some (.nx ρ (L2.set j (.nd (kvs ++ [(cs, w)])))) else none
          | _ => none)
        | _ => none) := id rfl
@[simp] theorem e_cNd1 (fk fv : EF) (ρ : Ro) (L : Lg) : cNd1 fk fv ρ L = (match fk ρ L with
  | none => none
  | some (k, L1) => match fv ρ L1 with
    | none => none
    | some (w, L2) => match asCells k with
      | some cs => some (.ob L2.length, L2 ++ [.nd [(cs, w)]])
      | none => none) := id rfl
@[simp] theorem e_cIdx (i : Nat) (fk : EF) (ρ : Ro) (L : Lg) : cIdx i fk ρ L = (match ρ[i]? with
  | some (.ow (.lst ws)) => (match fk ρ L with
    | none => none
    | some (k, L1) => match toDs ws, toD k with
      | some ds, some d => if SeqAt.shaped (.list ds) = true ∧ SeqAt.shaped d = true then (match idxD d ds with
        | some j => some (.int (j : Nat), L1)
        | none => none) else none
      | _, _ => none)
  | _ => none) := id rfl
theorem u9 {A : Around} {k : Nat} (r : Room k A) : A.units + 9 < cLine := by have := r.un; omega
theorem asCells_map (cs : List Cell) : asCells (.tup (cs.map cW)) = some cs := by
  show cellsW (cs.map cW) = some cs
  exact cellsW_map cs
end Lf

set_option maxHeartbeats 4000000
/-! Lf, part AH: stores into what an expression names, items of lists, attributes; dicts made from dicts; defs that call themselves. -/
namespace Lf
open PySem PySem.Spec PyProof.Rows L2
section
variable {X : Cx} {st : Stmt} {tg e a b c o : Expr} {es : List Expr} {pos : Pos}
/-! ### d[k] = v, d a box that an expression names -/
def cPutE (fo fk fv : EF) : SF := fun ρ L => match fv ρ L with
  | none => none
  | some (w, L1) => match fo ρ L1 with
    | some (.ob j, L2) => (match fk ρ L2 with
      | none => none
      | some (k, L3) => match L3[j]? with
        | some (.box (.lst _)) => none
        | some (.box m) => (match putM m k w with
          | some m' => some (.nx ρ (L3.set j (.box m')))
          | none => none)
        | _ => none)
    | _ => none
theorem is_putE {pos' : Pos} {fo fk fv : EF} (hu : X.A.units + 1 < cLine) (ho : IE X a fo) (hk : IE X b fk) (hv : IE X c fv) (hs' : swapsWith c (some (.Subscript a b pos')) pos.line X.env = pure false := by rfl) :
    IS X (.Assign [.Subscript a b pos'] c pos) (cPutE fo fk fv) := by
  refine ⟨fun {Zx Z F φ L ρ σ H o} hs ss h D q => PS.wp (ps_dput hu wpE wpE wpE hs') ?_⟩
  unfold cPutE at h
  split at h
  · cases h
  rename_i w L1 e1
  split at h
  · rename_i j L2 e2
    split at h
    · cases h
    rename_i k L3 e3
    split at h
    · cases h
    · rename_i m nl e4
      split at h
      · rename_i m' e5
        simp only [Option.some.injEq] at h
        subst h
        refine hv.run hs ss e1 _ fun F1 φ1 H1 vw s1 p1 hs1 r1 => ?_
        refine ho.run hs1 (ss.mono s1 p1) e2 _ fun F2 φ2 H2 vo s2 p2 hs2 r2 => ?_
        have s12 := s1.trans s2
        have p12 := List.IsPrefix.trans p1 p2
        refine hk.run hs2 (ss.mono s12 p12) e3 _ fun F3 φ3 H3 vk s3 p3 hs3 r3 => ?_
        cases r2 with
        | ob hj =>
          have hj3 := pre_get p3 hj
          obtain ⟨nF, o2, g1, g2⟩ := hs3.objs _ _ _ e4 hj3
          obtain ⟨o', k1, k2⟩ := putM_rel hs3.sub g1 g2 r3 (r1.mono (s2.trans s3) (List.IsPrefix.trans p2 p3)) (fun xs z => nl xs z) e5
          refine ⟨_, _, rfl, k1, ?_⟩
          refine q Z F3 φ3 σ _ (s12.trans s3) (List.IsPrefix.trans p12 p3) (hs3.setOb (List.getElem?_eq_some_iff.mp e4).1 hj3 nF k2.nt ?_) (ss.mono (s12.trans s3) (List.IsPrefix.trans p12 p3))
          exact ⟨nF, _, upd_same, k2⟩
      · cases h
    · cases h
  · cases h
@[simp] theorem e_cPutE (fo fk fv : EF) (ρ : Ro) (L : Lg) : cPutE fo fk fv ρ L = (match fv ρ L with
  | none => none
  | some (w, L1) => match fo ρ L1 with
    | some (.ob j, L2) => (match fk ρ L2 with
      | none => none
      | some (k, L3) => match L3[j]? with
        | some (.box (.lst _)) => none
        | some (.box m) => (match putM m k w with
          | some m' => some (.nx ρ (L3.set j (.box m')))
          | none => none)
        | _ => none)
    | _ => none) := id rfl
/-! ### del d[k], d a box that an expression names -/
def cDelE (fo fk : EF) : SF := fun ρ L => match fo ρ L with
  | some (.ob j, L1) => (match fk ρ L1 with
    | none => none
    | some (k, L2) => match L2[j]? with
      | some (.box (.dT kvs)) => (match asTKey k with
        | some k => if (kvs.any fun p => decide (p.1 = k)) = true then some (.nx ρ (L2.set j (.box (.dT (dropW kvs k))))) else none
        | none => none)
      | _ => none)
  | _ => none
theorem is_delE {tpos : Pos} {fo fk : EF} (hu : X.A.units + 1 < cLine) (ho : IE X a fo) (hk : IE X b fk) : IS X (.Delete [.Subscript a b tpos] pos) (cDelE fo fk) := by
  refine ⟨fun {Zx Z F φ L ρ σ H o} hs ss h D q => PS.wp (ps_delT hu wpE wpE) ?_⟩
  unfold cDelE at h
  split at h
  · rename_i j L1 e1
    split at h
    · cases h
    rename_i kw L2 e2
    split at h
    · rename_i kvs e3
      split at h
      · rename_i k e4
        split at h
        · rename_i hmem
          simp only [Option.some.injEq] at h
          subst h
          refine ho.run hs ss e1 _ fun F1 φ1 H1 vo s1 p1 hs1 r1 => ?_
          refine hk.run hs1 (ss.mono s1 p1) e2 _ fun F2 φ2 H2 vk s2 p2 hs2 r2 => ?_
          have s12 := s1.trans s2
          have p12 := List.IsPrefix.trans p1 p2
          cases r1 with
          | ob hj =>
            have hj2 := pre_get p2 hj
            obtain ⟨nF, o2, g1, g2⟩ := hs2.objs _ _ _ e3 hj2
            cases o2 <;> first | exact g2.elim | skip
            rename_i vs
            obtain ⟨g3, g4⟩ := g2
            obtain ⟨kb, rfl, hkb⟩ := asTKey_rel r2 e4
            obtain ⟨d1, d2⟩ := drop_rel k g3 g4
            refine ⟨_, kb, vs, k, rfl, rfl, g1, hs2.sub _ _ hkb, val_some (K := X.K) (F := F2) (φ := φ2) g3 hmem, ?_⟩
            refine q Z F2 φ2 σ _ s12 p12 (hs2.setOb (List.getElem?_eq_some_iff.mp e3).1 hj2 nF (by intro _ z; cases z) ?_) (ss.mono s12 p12)
            exact ⟨nF, _, upd_same, d1, d2⟩
        · cases h
      · cases h
    · cases h
  · cases h
@[simp] theorem e_cDelE (fo fk : EF) (ρ : Ro) (L : Lg) : cDelE fo fk ρ L = (match fo ρ L with
  | some (.ob j, L1) => (match fk ρ L1 with
    | none => none
    | some (k, L2) => match L2[j]? with
      | some (.box (.dT kvs)) => (match asTKey k with
        | some k => if (kvs.any fun p => decide (p.1 = k)) = true then some (.nx ρ (L2.set j (.box (.dT (dropW kvs k))))) else none
        | none => none)
      | _ => none)
  | _ => none) := id rfl
/-! ### xs[i] = v -/
theorem ixN_nat {n : Nat} {k : Int} (h0 : 0 ≤ k) (h1 : k < n) : ixN n k = some k.toNat := by
  unfold ixN; rw [if_pos h0, if_pos h1]
/-- xs the list in a box that an expression names -/
def cLPutE (fo fk fv : EF) : SF := fun ρ L => match fv ρ L with
  | none => none
  | some (w, L1) => match fo ρ L1 with
    | some (.ob j, L2) => (match fk ρ L2 with
      | some (.int k, L3) => (match L3[j]? with
        | some (.box (.lst ws)) => if 0 ≤ k ∧ k < ws.length then some (.nx ρ (L3.set j (.box (.lst (ws.set k.toNat w))))) else none
        | _ => none)
      | _ => none)
    | _ => none
theorem is_lputE {pos' : Pos} {fo fk fv : EF} (ho : IE X a fo) (hk : IE X b fk) (hv : IE X c fv) (ha : ∀ v, assign (.Subscript a b pos') X.env v = (do let ov ← holding [v] (eval a X.env); let iv ← holding [v, ov] (eval b X.env); standAt pos'; holding [v, ov, iv] (setItem ov iv v); release [v, ov, iv] []) := by intro _; rfl) (hs' : swapsWithSole [.Subscript a b pos'] c pos.line X.env = pure false := by rfl) (hw : swappedStores [.Subscript a b pos'] c X.env = pure none := by rfl)
    (h1 : (assignEach [.Subscript a b pos'] X.env).map (·.2) = [assign (.Subscript a b pos') X.env] := by rfl) : IS X (.Assign [.Subscript a b pos'] c pos) (cLPutE fo fk fv) := by
  refine ⟨fun {Zx Z F φ L ρ σ H o} hs ss h D q => PS.wp (ps_asg wpE (pg_sub wpE wpE set_list ha) hs' hw h1) ?_⟩
  unfold cLPutE at h
  split at h
  · cases h
  rename_i w L1 e1
  split at h
  · rename_i j L2 e2
    split at h
    · rename_i k L3 e3
      split at h
      · rename_i ws e4
        split at h
        · rename_i hz
          simp only [Option.some.injEq] at h
          subst h
          refine hv.run hs ss e1 _ fun F1 φ1 H1 vw s1 p1 hs1 r1 => ?_
          refine ho.run hs1 (ss.mono s1 p1) e2 _ fun F2 φ2 H2 vo s2 p2 hs2 r2 => ?_
          have s12 := s1.trans s2
          have p12 := List.IsPrefix.trans p1 p2
          refine hk.run hs2 (ss.mono s12 p12) e3 _ fun F3 φ3 H3 vk s3 p3 hs3 r3 => ?_
          cases r3
          cases r2 with
          | ob hj =>
            have hj3 := pre_get p3 hj
            obtain ⟨nF, o2, g1, g2⟩ := hs3.objs _ _ _ e4 hj3
            cases o2 <;> first | exact g2.elim | skip
            rename_i vs
            have rv : Rs X.K F3 φ3 ws vs := g2
            refine ⟨_, vs, k, k.toNat, rfl, rfl, g1, ixN_nat hz.1 (by rw [← rv.length]; exact hz.2), ?_⟩
            refine q Z F3 φ3 σ _ (s12.trans s3) (List.IsPrefix.trans p12 p3) (hs3.setOb (List.getElem?_eq_some_iff.mp e4).1 hj3 nF NT.lst ?_) (ss.mono (s12.trans s3) (List.IsPrefix.trans p12 p3))
            exact ⟨nF, _, upd_same, Rs.set (r1.mono (s2.trans s3) (List.IsPrefix.trans p2 p3)) _ rv⟩
        · cases h
      · cases h
    · cases h
  · cases h
@[simp] theorem e_cLPutE (fo fk fv : EF) (ρ : Ro) (L : Lg) : cLPutE fo fk fv ρ L = (match fv ρ L with
  | none => none
  | some (w, L1) => match fo ρ L1 with
    | some (.ob j, L2) => (match fk ρ L2 with
      | some (.int k, L3) => (match L3[j]? with
        | some (.box (.lst ws)) => if 0 ≤ k ∧ k < ws.length then some (.nx ρ (L3.set j (.box (.lst (ws.set k.toNat w))))) else none
        | _ => none)
      | _ => none)
    | _ => none) := id rfl
/-- xs the list that a name alone holds -/
def cLPut (i : Nat) (fk fv : EF) : SF := fun ρ L => match fv ρ L with
  | none => none
  | some (w, L1) => match fk ρ L1 with
    | some (.int k, L2) => (match ρ[i]? with
      | some (.ow (.lst ws)) => if 0 ≤ k ∧ k < ws.length then some (.nx (ρ.set i (.ow (.lst (ws.set k.toNat w)))) L2) else none
      | _ => none)
    | _ => none
theorem is_lput (i : Nat) {x : Str} {px pos' : Pos} {fk fv : EF} (hk : IE X b fk) (hv' : IE X c fv) (hN : X.N[i]? = some x := by rfl) (hv : Vis X.env.scope x := by first | exact Or.inl rfl | exact Or.inr (Or.inl rfl) | exact Or.inr (Or.inr rfl)) (hd : (x == ("__debug__" : Str)) = false := by decide)
    (hcd : (x == ("__classdict__" : Str)) = false := by decide) (ha : ∀ v, assign (.Subscript (.Name x px) b pos') X.env v = (do let ov ← holding [v] (eval (.Name x px) X.env); let iv ← holding [v, ov] (eval b X.env); standAt pos'; holding [v, ov, iv] (setItem ov iv v); release [v, ov, iv] []) := by intro _; rfl) (hs' : swapsWithSole [.Subscript (.Name x px) b pos'] c pos.line X.env = pure false := by rfl) (hw : swappedStores [.Subscript (.Name x px) b pos'] c X.env = pure none := by rfl)
    (h1 : (assignEach [.Subscript (.Name x px) b pos'] X.env).map (·.2) = [assign (.Subscript (.Name x px) b pos') X.env] := by rfl) :
    IS X (.Assign [.Subscript (.Name x px) b pos'] c pos) (cLPut i fk fv) := by
  refine ⟨fun {Zx Z F φ L ρ σ H o} hs ss h D q => PS.wp (ps_asg wpE (pg_sub (pe_var hN hv hd hcd) wpE set_list ha) hs' hw h1) ?_⟩
  unfold cLPut at h
  split at h
  · cases h
  rename_i w L1 e1
  split at h
  · rename_i k L2 e2
    split at h
    · rename_i ws e3
      split at h
      · rename_i hz
        simp only [Option.some.injEq] at h
        subst h
        obtain ⟨p, ho, g1, g2, g3, g4⟩ := ss.ow i _ e3
        refine hv'.run hs ss e1 _ fun F1 φ1 H1 vw s1 p1 hs1 r1 => ?_
        refine ⟨.ref p, g1, ?_⟩
        refine hk.run hs1 (ss.mono s1 p1) e2 _ fun F2 φ2 H2 vk s2 p2 hs2 r2 => ?_
        have s12 := s1.trans s2
        have p12 := List.IsPrefix.trans p1 p2
        cases r2
        have hH := (hs2.ext p _ g2).1
        cases ho <;> first | exact g4.elim | skip
        rename_i vs
        have rv : Rs X.K F φ ws vs := g4
        refine ⟨p, vs, k, k.toNat, rfl, rfl, hH, ixN_nat hz.1 (by rw [← rv.length]; exact hz.2), ?_⟩
        have m2 : MOk X.K F2 φ2 (.lst (ws.set k.toNat w)) (.lst (vs.set k.toNat vw)) := Rs.set (r1.mono s2 p2) _ (rv.mono s12 p12)
        exact q _ F2 φ2 σ _ s12 p12 (hs2.turn g2) ((ss.mono s12 p12).turn e3 g1 m2)
      · cases h
    · cases h
  · cases h
@[simp] theorem e_cLPut (i : Nat) (fk fv : EF) (ρ : Ro) (L : Lg) : cLPut i fk fv ρ L = (match fv ρ L with
  | none => none
  | some (w, L1) => match fk ρ L1 with
    | some (.int k, L2) => (match ρ[i]? with
      | some (.ow (.lst ws)) => if 0 ≤ k ∧ k < ws.length then some (.nx (ρ.set i (.ow (.lst (ws.set k.toNat w)))) L2) else none
      | _ => none)
    | _ => none) := id rfl
/-! ### o.f += e, o.f -= e -/
def cFldAug (c f : Str) (g : W → W → Option W) (fo fe : EF) : SF := fun ρ L => match fo ρ L with
  | some (.ob i, L1) => (match L1[i]? with
    | some (.ins c' fs) => if c' = c then (match fs.lookup f with
      | some x => (match fe ρ L1 with
        | none => none
        | some (y, L2) => match g x y with
          | none => none
          | some w => match L2[i]? with
            | some (.ins c2 fs2) => if c2 = c ∧ fs2.length < 1000 then some (.nx ρ (L2.set i (.ins c (putW f w fs2)))) else none
            | _ => none)
      | none => none) else none
    | _ => none)
  | _ => none
theorem is_fldaug {op : Operator} {rd : V → V → Hp → VK → Prop} {g : W → W → Option W} {cl f : Str} {fo fe : EF} {tpos : Pos} (hop : InOp X op rd) (sg : Op2 X rd g) (D : FldD X.K X.mg cl f) (ho : IE X o fo) (he : IE X e fe) : IS X (.AugAssign (.Attribute o f tpos) op e pos) (cFldAug cl f g fo fe) := by
  refine ⟨fun {Zx Z F φ L ρ σ H o} hs ss h D' q => PS.wp (ps_fldaug wpE wpE hop) ?_⟩
  obtain ⟨C, cd, na⟩ := D.ex
  unfold cFldAug at h
  split at h
  · rename_i i L1 e1
    split at h
    · rename_i c' fs e2
      split at h
      · rename_i ec
        subst ec
        split at h
        · rename_i x e3
          split at h
          · cases h
          rename_i y L2 e4
          split at h
          · cases h
          rename_i w e5
          split at h
          · rename_i c2 fs2 e6
            split at h
            · rename_i hz
              obtain ⟨rfl, hl⟩ := hz
              simp only [Option.some.injEq] at h
              subst h
              refine ho.run hs ss e1 _ fun F1 φ1 H1 v s1 p1 hs1 r1 => ?_
              cases r1 with
              | ob hj =>
                obtain ⟨_, C', dx, vs, g1, g2, g3, g4⟩ := hs1.objs _ _ _ e2 hj
                rw [cd.at_] at g1
                cases g1
                obtain ⟨vx, l1, l2⟩ := lk_some g3 g4 e3
                refine ⟨_, _, dx, vs, vx, rfl, g2, cd.cls, na, l1, ?_⟩
                refine he.run hs1 (ss.mono s1 p1) e4 _ fun F2 φ2 H2 vy s2 p2 hs2 r2 => ?_
                refine sg hs2 (l2.mono s2 p2) r2 e5 _ fun F3 H3 vw s3 hs3 r3 => ?_
                have hj3 := pre_get p2 hj
                obtain ⟨nF, C2, dx2, vs2, k1, k2, k3, k4⟩ := hs3.objs _ _ _ e6 hj3
                rw [cd.at_] at k1
                cases k1
                have lv : vs2.length < 1000 := by
                  have := congrArg List.length k3
                  simp only [List.length_map] at this
                  omega
                obtain ⟨q1, q2⟩ := putW_ok r3 k3 k4 (f := f)
                refine ⟨dx2, vs2, k2, lv, ?_⟩
                have s13 := (s1.trans s2).trans s3
                have p13 := List.IsPrefix.trans p1 p2
                refine q Z F3 φ2 σ _ s13 p13 (hs3.setOb (List.getElem?_eq_some_iff.mp e6).1 hj3 nF NT.ins ?_) (ss.mono s13 p13)
                exact ⟨nF, C, dx2, _, cd.at_, upd_same, q1, q2⟩
            · cases h
          · cases h
        · cases h
      · cases h
    · cases h
  · cases h
theorem op2_rAdd : Op2 X rAdd addI := by
  intro Z F φ L H x y w vx vy hs rx ry h Q q
  unfold addI at h
  split at h
  · cases h; cases rx; cases ry
    exact ⟨_, _, rfl, rfl, flat hs (.int _) q⟩
  · cases h
theorem op2_rSub : Op2 X rSub subW := by
  intro Z F φ L H x y w vx vy hs rx ry h Q q
  unfold subW at h
  split at h
  · cases h; cases rx; cases ry
    exact ⟨_, _, rfl, rfl, flat hs (.int _) q⟩
  · cases h
theorem is_fldadd {cl f : Str} {fo fe : EF} {tpos : Pos} (D : FldD X.K X.mg cl f) (ho : IE X o fo) (he : IE X e fe) : IS X (.AugAssign (.Attribute o f tpos) .Add e pos) (cFldAug cl f addI fo fe) := is_fldaug in_add op2_rAdd D ho he
theorem is_fldsub {cl f : Str} {fo fe : EF} {tpos : Pos} (D : FldD X.K X.mg cl f) (ho : IE X o fo) (he : IE X e fe) : IS X (.AugAssign (.Attribute o f tpos) .Sub e pos) (cFldAug cl f subW fo fe) := is_fldaug in_sub op2_rSub D ho he
@[simp] theorem e_cFldAug (c f : Str) (g : W → W → Option W) (fo fe : EF) (ρ : Ro) (L : Lg) : cFldAug c f g fo fe ρ L = (match fo ρ L with
  | some (.ob i, L1) => (match L1[i]? with
    | some (.ins c' fs) => if c' = c then (match fs.lookup f with
      | some x => (match fe ρ L1 with
        | none => none
        | some (y, L2) => match g x y with
          | none => none
          | some w => match L2[i]? with
            | some (.ins c2 fs2) => if c2 = c ∧ fs2.length < 1000 then some (.nx ρ (L2.set i (.ins c (putW f w fs2)))) else none
            | _ => none)
      | none => none) else none
    | _ => none)
  | _ => none) := id rfl
end
/-! ### defs that call themselves: nothing is promised at depth 0 -/
theorem fnok_none {P : Program} {w : World} {K : PySem.W.Frag} {mg : Str → Option Value} {base : Heap} {CX : CXT} {k n : Nat} {f : Addr} {fd : FuncData} {ps : List Str} : FnOk P w K mg base CX k f fd ps (spI K mg n fun _ _ => none) :=
  ⟨fun vs H Q E h => (by obtain ⟨_, _, _, _, _, _, _, _, _, _, h4, _⟩ := h; cases h4), fun _ _ _ _ _ _ _ _ _ _ _ _ _ h => (by obtain ⟨_, _, _, _, _, _, _, _, _, _, h4, _⟩ := h; cases h4)⟩
end Lf

set_option maxHeartbeats 4000000
/-! Lf, part AI: name = {k: v for x in d}, d a frozen dict at a name. -/
namespace Lf
open PySem PySem.Spec PyProof.Rows L2
section
variable {X : Cx}
theorem is_setDcD {i : Nat} {y : Str} {py : Pos} {ke ve tg : Expr} {ifs : List Expr} {scope : Scope} {own : List (Str × Nat)} {pos spos : Pos} {g : GF} {tt : TF} {fk fv : EF} {ix : List Nat} {x : Str} {px : Pos} (j : Nat) (hu : X.A.units + 1 < cLine) (hc : X.calm = true) (hN : X.N.Nodup) (hy : X.N[i]? = some y) (hyl : X.env.scope.names.lookup y = some .local)
    (hsw : swapsWith (.DictComp ke ve [⟨tg, .Name x px, ifs, 0⟩] scope pos) (some (.Name y py)) spos.line X.env = pure true) (ok : BlkOk X.N X.env.scope scope own) (hix : ∀ i ∈ ix, i ∈ own.map (·.2))
    (hg : ∀ (s : Shared) (H : Hp) (C : Addr) (cl : List (Str × Addr)) (fp : List Addr), IG (X.blk s H scope (compEnvC scope cl C X.env) fp) tg ix g) (ht : ∀ (s : Shared) (H : Hp) (C : Addr) (cl : List (Str × Addr)) (fp : List Addr), ITs (X.blk s H scope (compEnvC scope cl C X.env) fp) ifs tt)
    (hk : ∀ (s : Shared) (H : Hp) (C : Addr) (cl : List (Str × Addr)) (fp : List Addr), IE (X.blk s H scope (compEnvC scope cl C X.env) fp) ke fk)
    (he : ∀ (s : Shared) (H : Hp) (C : Addr) (cl : List (Str × Addr)) (fp : List Addr), IE (X.blk s H scope (compEnvC scope cl C X.env) fp) ve fv) (hNi : X.N[j]? = some x := by rfl) (hv : Vis X.env.scope x := by first | exact Or.inl rfl | exact Or.inr (Or.inl rfl) | exact Or.inr (Or.inr rfl)) (hd : (x == ("__debug__" : Str)) = false := by decide)
    (hcd : (x == ("__classdict__" : Str)) = false := by decide) (hs' : ∀ z, foldedSetIterable (.Name x px) X.env z = pure z := by intro _; rfl) :
    IS X (.Assign [.Name y py] (.DictComp ke ve [⟨tg, .Name x px, ifs, 0⟩] scope pos) spos) (cSetO i (cDc (sKeys j) g tt fk fv (own.map (·.2)))) := by
  refine ⟨fun {Zx Z F φ L ρ σ H o} hs ss h D q => ?_⟩
  let gW : TG := fun v σ H Q => ∀ (s : Shared) (H0 : Hp) (C : Addr) (cl : List (Str × Addr)) (fp : List Addr), WpG (X.blk s H0 scope (compEnvC scope cl C X.env) fp) tg v σ H Q
  let tW : TT := fun σ H Q => ∀ (s : Shared) (H0 : Hp) (C : Addr) (cl : List (Str × Addr)) (fp : List Addr), WpTs (X.blk s H0 scope (compEnvC scope cl C X.env) fp) ifs σ H Q
  let kW : TE := fun σ H Q => ∀ (s : Shared) (H0 : Hp) (C : Addr) (cl : List (Str × Addr)) (fp : List Addr), Wp (X.blk s H0 scope (compEnvC scope cl C X.env) fp) ke σ H Q
  let vW : TE := fun σ H Q => ∀ (s : Shared) (H0 : Hp) (C : Addr) (cl : List (Str × Addr)) (fp : List Addr), Wp (X.blk s H0 scope (compEnvC scope cl C X.env) fp) ve σ H Q
  have base := ps_setDcT (i := i) hu hc hN hy hyl hsw (pi_keys (tg := tg) (pe_var (pos := px) hNi hv hd hcd)) ok (g := gW) (tt := tW) (tk := kW) (tv := vW) (fun s H C cl fp => ⟨fun pins s' σ H v u Q I r h => h s _ C cl fp pins s' u I r⟩) (fun s H C cl fp => ⟨fun pins s' σ H Q I h => h s _ C cl fp pins s' I⟩) (fun s H C cl fp => ⟨fun pins s' σ H Q I h => h s _ C cl fp pins s' I⟩) (fun s H C cl fp => ⟨fun pins s' σ H Q I h => h s _ C cl fp pins s' I⟩) hs'
  unfold cSetO at h
  split at h
  · cases h
  rename_i m L9 e9
  split at h
  · rename_i hi'
    simp only [Option.some.injEq] at h
    subst h
    unfold cDc at e9
    split at e9
    · cases e9
    rename_i ks L1 e1
    split at e9
    · cases e9
    rename_i kvs LL e2
    simp only [Option.some.injEq, Prod.mk.injEq] at e9
    obtain ⟨rfl, rfl⟩ := e9
    unfold sKeys at e1
    split at e1
    · rename_i w ew
      split at e1
      · rename_i ks' ek
        simp only [Option.some.injEq, Prod.mk.injEq] at e1
        obtain ⟨rfl, rfl⟩ := e1
        obtain ⟨v, hv1, hv2⟩ := ss.va j w ew
        have hdict : ∃ a u, v = .ref a ∧ isD u = true ∧ DAt F a u ∧ ((∃ kvs vs, w = .dK kvs ∧ u = .dK vs ∧ kvs.map Prod.fst = vs.map Prod.fst) ∨ ∃ kvs vs, w = .dT kvs ∧ u = .dT vs ∧ kvs.map Prod.fst = vs.map Prod.fst) := by
          cases hv2 <;> first | (cases ek; done) | skip
          · rename_i h1 h2 h3; exact ⟨_, _, rfl, rfl, h1, .inl ⟨_, _, rfl, rfl, h2⟩⟩
          · rename_i h1 h2 h3; exact ⟨_, _, rfl, rfl, h1, .inr ⟨_, _, rfl, rfl, h2⟩⟩
        obtain ⟨a, u, rfl, hu', hda, hw⟩ := hdict
        -- under a lock that stands already, or under a new one
        have core : ∀ (od : Obj) (F1 H1 : Hp) (N1 : L2.St → Hp → Prop), F1 a = some (.frz od u) → Hs X.K X.mg Z F1 φ L H1 → Ss X.K Zx Z F1 φ ρ σ → GoOn X Zx F1 φ (ρ.set i (.ow (.dT kvs))) LL N1 →
            tDcT (iKeys (tVar j)) gW tW kW vW (own.map (·.2)) σ H1 (fun z H2 => gName i z σ H2 N1) := by
          intro od F1 H1 N1 hF1 hs1 ss1 q1
          have hH1 := hs1.sub _ _ hF1
          have go : ∀ J, ItOk X.K X.mg F1 φ J ks' → ∀ B, H1 B = none → ∃ W : Nat → Nat → Hp → Prop, (∃ m, W 0 m (upd H1 B (.dT []))) ∧ ∀ i' m H, W i' m H →
              (J.stop i' H ∧ gName i (.ref B) σ H N1) ∨ (J.go i' H ∧ ∃ Nx : Hp → Prop, (∀ H', Nx H' → ∃ m', m' < m ∧ W (i' + 1) m' H') ∧ ∀ x H', J.yld i' H x H' → tTurnT gW tW kW vW (own.map (·.2)) σ B Nx x H') := by
            intro J itok B hB
            refine dc_w hix gW tW kW vW ?_ ?_ ?_ ?_ hs1 ss1 itok e2 (fun z H2 => gName i z σ H2 N1) (fun F' φ' H' p o s' p' z hs' m' => q1 _ F' φ' _ H' s' p' hs' ((ss1.mono s' p').setow hi' z m')) hB
            · intro _ _ _ _ _ _ _ _ _ _ _ h1 h2 h3 h4 Q q s H0 C cl fp
              exact (hg s H0 C cl fp).run h1 h2 h3 h4 Q q
            · intro _ _ _ _ _ _ _ _ _ _ h1 h2 h3 Q q s H0 C cl fp
              obtain ⟨t, k1, k2⟩ := (ht s H0 C cl fp).run h1 h2 h3 Q q
              exact PTs.wp k1 k2
            · intro _ _ _ _ _ _ _ _ _ _ h1 h2 h3 Q q s H0 C cl fp
              exact (hk s H0 C cl fp).run h1 h2 h3 Q q
            · intro _ _ _ _ _ _ _ _ _ _ h1 h2 h3 Q q s H0 C cl fp
              exact (he s H0 C cl fp).run h1 h2 h3 Q q
          refine ⟨.ref a, hv1, a, od, rfl, ?_⟩
          rcases hw with ⟨kvs0, vs, rfl, rfl, hkk⟩ | ⟨kvs0, vs, rfl, rfl, hkk⟩
          · simp only [keysD, Option.some.injEq] at ek
            subst ek
            exact .inl ⟨vs, hH1, go _ (itok_keys hF1 hkk)⟩
          · simp only [keysD, Option.some.injEq] at ek
            subst ek
            exact .inr ⟨vs, hH1, go _ (itok_keysT hF1 hkk)⟩
        rcases hda with hda | ⟨od, hda⟩
        · refine PS.wp (ps_lock base) ⟨a, u, hs.sub _ _ hda, ?_, fun od => ?_⟩
          · cases u <;> first | (cases hu'; done) | exact True.intro
          · have l := Lk.lock (od := od) hda hu'
            refine core od _ _ _ upd_same (hs.relock hda l) (ss.relock l) ?_
            intro Z' F' φ' σ' H' s p hs' ss'
            have b1 : F' a = some (.frz od u) := s _ _ upd_same
            have b2 : Sub F (upd F' a u) := fun b o' eb => by
              by_cases qb : b = a
              · subst qb; rw [hda] at eb; cases eb; exact upd_same
              · rw [upd_ne qb]; exact s b o' (by rw [upd_ne qb]; exact eb)
            have l' := Lk.unlock b1 hu'
            exact ⟨hs'.sub _ _ b1, q Z' _ φ' σ' _ b2 p (hs'.relock b1 l') (ss'.relock l')⟩
        · exact PS.wp base (core od F H _ hda hs ss q)
      · cases e1
    · cases e1
  · cases h
end
end Lf

set_option maxHeartbeats 4000000
/-! Lf, part AJ: name = [.. for x in d ..], a comprehension in a comprehension, o.m(), x -= e, x &= e. -/
namespace Lf
open PySem PySem.Spec PyProof.Rows L2
section
variable {X : Cx}
theorem is_setLcD {i : Nat} {y : Str} {py : Pos} {elt tg : Expr} {ifs : List Expr} {scope : Scope} {own : List (Str × Nat)} {pos spos : Pos} {g : GF} {tt : TF} {te : EF} {ix : List Nat} {x : Str} {px : Pos} (j : Nat) (hc : X.calm = true) (hN : X.N.Nodup) (hy : X.N[i]? = some y) (hyl : X.env.scope.names.lookup y = some .local)
    (hsw : swapsWith (.ListComp elt [⟨tg, .Name x px, ifs, 0⟩] scope pos) (some (.Name y py)) spos.line X.env = pure true) (ok : BlkOk X.N X.env.scope scope own) (hix : ∀ i ∈ ix, i ∈ own.map (·.2))
    (hg : ∀ (s : Shared) (H : Hp) (C : Addr) (cl : List (Str × Addr)) (fp : List Addr), IG (X.blk s H scope (compEnvC scope cl C X.env) fp) tg ix g) (ht : ∀ (s : Shared) (H : Hp) (C : Addr) (cl : List (Str × Addr)) (fp : List Addr), ITs (X.blk s H scope (compEnvC scope cl C X.env) fp) ifs tt)
    (he : ∀ (s : Shared) (H : Hp) (C : Addr) (cl : List (Str × Addr)) (fp : List Addr), IE (X.blk s H scope (compEnvC scope cl C X.env) fp) elt te) (hNi : X.N[j]? = some x := by rfl) (hv : Vis X.env.scope x := by first | exact Or.inl rfl | exact Or.inr (Or.inl rfl) | exact Or.inr (Or.inr rfl)) (hd : (x == ("__debug__" : Str)) = false := by decide)
    (hcd : (x == ("__classdict__" : Str)) = false := by decide) (hs' : ∀ z, foldedSetIterable (.Name x px) X.env z = pure z := by intro _; rfl) :
    IS X (.Assign [.Name y py] (.ListComp elt [⟨tg, .Name x px, ifs, 0⟩] scope pos) spos) (cSetO i (cLc (sKeys j) g tt te (own.map (·.2)))) := by
  refine ⟨fun {Zx Z F φ L ρ σ H o} hs ss h D q => ?_⟩
  let gW : TG := fun v σ H Q => ∀ (s : Shared) (H0 : Hp) (C : Addr) (cl : List (Str × Addr)) (fp : List Addr), WpG (X.blk s H0 scope (compEnvC scope cl C X.env) fp) tg v σ H Q
  let tW : TT := fun σ H Q => ∀ (s : Shared) (H0 : Hp) (C : Addr) (cl : List (Str × Addr)) (fp : List Addr), WpTs (X.blk s H0 scope (compEnvC scope cl C X.env) fp) ifs σ H Q
  let eW : TE := fun σ H Q => ∀ (s : Shared) (H0 : Hp) (C : Addr) (cl : List (Str × Addr)) (fp : List Addr), Wp (X.blk s H0 scope (compEnvC scope cl C X.env) fp) elt σ H Q
  have base := ps_setLc (i := i) hc hN hy hyl hsw (pi_keys (tg := tg) (pe_var (pos := px) hNi hv hd hcd)) ok (g := gW) (tt := tW) (te := eW) (fun s H C cl fp => ⟨fun pins s' σ H v u Q I r h => h s _ C cl fp pins s' u I r⟩) (fun s H C cl fp => ⟨fun pins s' σ H Q I h => h s _ C cl fp pins s' I⟩) (fun s H C cl fp => ⟨fun pins s' σ H Q I h => h s _ C cl fp pins s' I⟩) hs'
  unfold cSetO at h
  split at h
  · cases h
  rename_i m L9 e9
  split at h
  · rename_i hi'
    simp only [Option.some.injEq] at h
    subst h
    unfold cLc at e9
    split at e9
    · cases e9
    rename_i ks L1 e1
    split at e9
    · cases e9
    rename_i ws LL e2
    split at e9
    · rename_i hz
      simp only [Option.some.injEq, Prod.mk.injEq] at e9
      obtain ⟨rfl, rfl⟩ := e9
      unfold sKeys at e1
      split at e1
      · rename_i w ew
        split at e1
        · rename_i ks' ek
          simp only [Option.some.injEq, Prod.mk.injEq] at e1
          obtain ⟨rfl, rfl⟩ := e1
          obtain ⟨v, hv1, hv2⟩ := ss.va j w ew
          have hdict : ∃ a u, v = .ref a ∧ isD u = true ∧ DAt F a u ∧ ((∃ kvs vs, w = .dK kvs ∧ u = .dK vs ∧ kvs.map Prod.fst = vs.map Prod.fst) ∨ ∃ kvs vs, w = .dT kvs ∧ u = .dT vs ∧ kvs.map Prod.fst = vs.map Prod.fst) := by
            cases hv2 <;> first | (cases ek; done) | skip
            · rename_i h1 h2 h3; exact ⟨_, _, rfl, rfl, h1, .inl ⟨_, _, rfl, rfl, h2⟩⟩
            · rename_i h1 h2 h3; exact ⟨_, _, rfl, rfl, h1, .inr ⟨_, _, rfl, rfl, h2⟩⟩
          obtain ⟨a, u, rfl, hu', hda, hw⟩ := hdict
          have core : ∀ (od : Obj) (F1 H1 : Hp) (N1 : L2.St → Hp → Prop), F1 a = some (.frz od u) → Hs X.K X.mg Z F1 φ L H1 → Ss X.K Zx Z F1 φ ρ σ → GoOn X Zx F1 φ (ρ.set i (.ow (.lst ws))) LL N1 →
              tLc (iKeys (tVar j)) gW tW eW (own.map (·.2)) σ H1 (fun z H2 => gName i z σ H2 N1) := by
            intro od F1 H1 N1 hF1 hs1 ss1 q1
            have hH1 := hs1.sub _ _ hF1
            have go : ∀ J, ItOk X.K X.mg F1 φ J ks' → ∀ B, H1 B = none → ∃ W : Nat → Nat → Hp → Prop, (∃ m, W 0 m (upd H1 B (.lst []))) ∧ ∀ i' m H, W i' m H →
                (J.stop i' H ∧ gName i (.ref B) σ H N1) ∨ (J.go i' H ∧ ∃ Nx : Hp → Prop, (∀ H', Nx H' → ∃ m', m' < m ∧ W (i' + 1) m' H') ∧ ∀ x H', J.yld i' H x H' → gW x (wipe σ (own.map (·.2))) H' fun σ2 H2 => wipe σ2 (own.map (·.2)) = wipe σ (own.map (·.2)) ∧ tW σ2 H2 fun b H3 =>
                  if b = true then eW σ2 H3 fun y H4 => ∃ acc, H4 B = some (.lst acc) ∧ acc.length < sizeLine ∧ Nx (upd H4 B (.lst (acc ++ [y]))) else Nx H3) := by
              intro J itok B hB
              refine lc_w hix gW tW eW ?_ ?_ ?_ hs1 ss1 itok e2 hz (fun z H2 => gName i z σ H2 N1) (fun F' φ' H' p o s' p' z hs' m' => q1 _ F' φ' _ H' s' p' hs' ((ss1.mono s' p').setow hi' z m')) hB
              · intro _ _ _ _ _ _ _ _ _ _ _ h1 h2 h3 h4 Q q s H0 C cl fp
                exact (hg s H0 C cl fp).run h1 h2 h3 h4 Q q
              · intro _ _ _ _ _ _ _ _ _ _ h1 h2 h3 Q q s H0 C cl fp
                obtain ⟨t, k1, k2⟩ := (ht s H0 C cl fp).run h1 h2 h3 Q q
                exact PTs.wp k1 k2
              · intro _ _ _ _ _ _ _ _ _ _ h1 h2 h3 Q q s H0 C cl fp
                exact (he s H0 C cl fp).run h1 h2 h3 Q q
            refine ⟨.ref a, hv1, a, od, rfl, ?_⟩
            rcases hw with ⟨kvs0, vs, rfl, rfl, hkk⟩ | ⟨kvs0, vs, rfl, rfl, hkk⟩
            · simp only [keysD, Option.some.injEq] at ek
              subst ek
              exact .inl ⟨vs, hH1, go _ (itok_keys hF1 hkk)⟩
            · simp only [keysD, Option.some.injEq] at ek
              subst ek
              exact .inr ⟨vs, hH1, go _ (itok_keysT hF1 hkk)⟩
          rcases hda with hda | ⟨od, hda⟩
          · refine PS.wp (ps_lock base) ⟨a, u, hs.sub _ _ hda, ?_, fun od => ?_⟩
            · cases u <;> first | (cases hu'; done) | exact True.intro
            · have l := Lk.lock (od := od) hda hu'
              refine core od _ _ _ upd_same (hs.relock hda l) (ss.relock l) ?_
              intro Z' F' φ' σ' H' s p hs' ss'
              have b1 : F' a = some (.frz od u) := s _ _ upd_same
              have b2 : Sub F (upd F' a u) := fun b o' eb => by
                by_cases qb : b = a
                · subst qb; rw [hda] at eb; cases eb; exact upd_same
                · rw [upd_ne qb]; exact s b o' (by rw [upd_ne qb]; exact eb)
              have l' := Lk.unlock b1 hu'
              exact ⟨hs'.sub _ _ b1, q Z' _ φ' σ' _ b2 p (hs'.relock b1 l') (ss'.relock l')⟩
          · exact PS.wp base (core od F H _ hda hs ss q)
        · cases e1
      · cases e1
    · cases e9
  · cases h
/-- a comprehension's block inside another one's -/
theorem blkOk_blk {s : Shared} {H : Hp} {scope inner sc : Scope} {cl : List (Str × Addr)} {C : Addr} {fp : List Addr} {own : List (Str × Nat)} {N : List Str} (hN : X.N = N) (hsc : X.env.scope = sc) (h : blkC N (relS scope sc) inner own = true) :
    BlkOk (X.blk s H scope (compEnvC scope cl C X.env) fp).N (X.blk s H scope (compEnvC scope cl C X.env) fp).env.scope inner own := by
  have e : (compEnvC scope cl C X.env).scope = relS scope X.env.scope := rfl
  show BlkOk X.N (compEnvC scope cl C X.env).scope inner own
  rw [e, hsc, hN]
  exact blkOk_by h
end
section
variable {X : Cx} {e a b o : Expr} {es : List Expr} {pos : Pos}
/-- o.m() -/
def cMeth0 (c m : Str) (d : DF) (fo : EF) : EF := fun ρ L => match fo ρ L with
  | some (.ob i, L1) => (match L1[i]? with
    | some (.ins c' fs) => if c' = c then (match fs.lookup m with
      | some _ => none
      | none => d [.ob i] L1) else none
    | _ => none)
  | _ => none
theorem ie_meth0 {c m : Str} {k j : Nat} {ps : List Str} {d : DF} {fo : EF} {apos : Pos} {pl : Sem Bool} (D : MetD X.prog X.w X.K X.mg X.base k c m ps d) (hr : Room j X.A) (hkj : k ≤ j) (hn : ps.length = 1) (ho : IE X o fo)
    (ht : eval (.Call (.Attribute o m apos) [] [] pos) X.env = (do
      let ov ← eval o X.env
      standAt apos.atName
      let (f, first) ← holding [ov] (getMethod ov m pl)
      callWith pos f first (backTo pos (starEach [] X.env)) (backToKw pos (keywordEach [] X.env))) := by rfl) : IE X (.Call (.Attribute o m apos) [] [] pos) (cMeth0 c m d fo) := by
  obtain ⟨C, f, fd, cd, me, F0, hb⟩ := D.ex
  refine ⟨fun {Zx Z F φ L ρ σ H w L'} hs ss h Q q => PE.wp (pe_meth0 (E := E0) (dvs := []) wpE cd.cls me F0 (hr.mono hkj) hb .nil pass0 ht) ?_⟩
  unfold cMeth0 at h
  split at h
  · rename_i i L1 e1
    split at h
    · rename_i c' fs e2
      split at h
      · rename_i ec
        subst ec
        split at h
        · cases h
        rename_i e3
        refine ho.run hs ss e1 _ fun F1 φ1 H1 v s1 p1 hs1 r1 => ?_
        cases r1 with
        | ob hj =>
          obtain ⟨nF, C', dx, vs, g1, g2, g3, g4⟩ := hs1.objs _ _ _ e2 hj
          rw [cd.at_] at g1
          cases g1
          refine ⟨_, dx, vs, rfl, g2, lk_none g3 e3, ?_⟩
          refine ⟨Z, F1, φ1, L1, [.ob i], w, L', hs1, .cons (.ob hj) .nil, hn.symm, h, fun Z' F' φ' H' v s3 p3 z hs3 r3 => ?_⟩
          exact q F' φ' H' v (s1.trans s3) (List.IsPrefix.trans p1 p3) (hs3.weak z) r3
      · cases h
    · cases h
  · cases h
@[simp] theorem e_cMeth0 (c m : Str) (d : DF) (fo : EF) (ρ : Ro) (L : Lg) : cMeth0 c m d fo ρ L = (match fo ρ L with
  | some (.ob i, L1) => (match L1[i]? with
    | some (.ins c' fs) => if c' = c then (match fs.lookup m with
      | some _ => none
      | none => d [.ob i] L1) else none
    | _ => none)
  | _ => none) := id rfl
theorem op_isub0 : OpR X (inplaceOp .Sub) (rI0 fun i j => .int (i - j)) := iop_sub
theorem op_iand0 : OpR X (inplaceOp .BitAnd) (rI0 fun i j => .int (Builtin.bitAnd i j)) := iop_and
theorem op2_isub0 : Op2 X (rI0 fun i j => .int (i - j)) subW := by
  intro Z F φ L H x y w vx vy hs rx ry h Q q
  unfold subW at h
  split at h
  · cases h; cases rx; cases ry
    exact ⟨_, _, rfl, rfl, flat hs (.int _) q⟩
  · cases h
theorem op2_iand0 : Op2 X (rI0 fun i j => .int (Builtin.bitAnd i j)) bandW := by
  intro Z F φ L H x y w vx vy hs rx ry h Q q
  unfold bandW at h
  split at h
  · cases h; cases rx; cases ry
    exact ⟨_, _, rfl, rfl, flat hs (.int _) q⟩
  · cases h
/-- a sign in a text, as a value -/
theorem ie_inS {fa fb : EF} (ha : IE X a fa) (hb : IE X b fb) (hm : behindInMarks .In b = false := by rfl) : IE X (.Compare a [.In] [b] pos) (cOp (inSW false) fa fb) := ie_cmp op_in_sign op2_inS ha hb hm
theorem ie_notinS {fa fb : EF} (ha : IE X a fa) (hb : IE X b fb) (hm : behindInMarks .NotIn b = false := by rfl) : IE X (.Compare a [.NotIn] [b] pos) (cOp (inSW true) fa fb) := ie_cmp op_notIn_sign op2_ninS ha hb hm
end
end Lf

set_option maxHeartbeats 4000000
/-! Lf, part AK: i in range(..). -/
namespace Lf
open PySem PySem.Spec PyProof.Rows L2
section
variable {X : Cx} {a : Expr} {e : Expr} {es : List Expr} {pos : Pos}
theorem cr_rng1 : CallR X (.type "range") (fun vs H Q => ∃ j, vs = [V.int j] ∧ ∀ p, H p = none → Q (.ref p) (upd H p (.rng 0 j))) := by
  intro pins s σ H vs us Q I r h
  obtain ⟨j, rfl, q⟩ := h
  cases r with
  | cons r1 r2 =>
    cases r2
    obtain ⟨t, rfl⟩ := r1
    have hn : s.heap.objs.size ≤ s.heap.objs.size := Nat.le_refl _
    refine call_range_1 ⟨.ref s.heap.objs.size, _, I.laid (t' := s.toks + 1 + 1) (o := .rng 0 j) (fun b o e => Heap.get?_push_of_some _ e) hn ⟨_, _, _, Heap.get?_push_size _ rfl⟩, rfl, q _ (I.hok.fresh hn)⟩
/-- e in range(..) -/
def cInR (fa : EF) (g : AF) : EF := fun ρ L => match fa ρ L with
  | some (.int i, L1) => (match g ρ L1 with
    | some ([.int b], L2) => some (.bl (decide (0 ≤ i ∧ i < b)), L2)
    | some ([.int a, .int b], L2) => some (.bl (decide (a ≤ i ∧ i < b)), L2)
    | _ => none)
  | _ => none
theorem ie_inR {fa : EF} {g : AF} {p : Pos} (hg : Gl X "range") (hm : X.mg "range" = none) (ha : IE X a fa) (hb : IA X (e :: es) g) (he : starEach (e :: es) X.env = (false, eval e X.env) :: starEach es X.env := by rfl) (hpl : (backTo p (starEach es X.env)).any (·.1) = false := by rfl)
    (hmk : behindInMarks .In (.Call (.Name "range" pos) (e :: es) [] p) = false := by rfl) {pos' : Pos} : IE X (.Compare a [.In] [.Call (.Name "range" pos) (e :: es) [] p] pos') (cInR fa g) := by
  refine ⟨fun {Zx Z F φ L ρ σ H w L'} hs ss h Q q => PE.wp (pe_cmpR op_in_rng wpE wpE hmk) ?_⟩
  unfold cInR at h
  split at h
  · rename_i i L1 e1
    split at h
    · rename_i b L2 e2
      simp only [Option.some.injEq, Prod.mk.injEq] at h
      obtain ⟨rfl, rfl⟩ := h
      refine ha.run hs ss e1 _ fun F1 φ1 H1 v s1 p1 hs1 r1 => ?_
      cases r1
      refine PE.wp (pe_callTy cr_rng1 hg hm (by decide +kernel) wpA (by decide) (by decide) he hpl) ?_
      refine hb.run hs1 (ss.mono s1 p1) e2 _ fun F2 φ2 H2 vs s2 p2 hs2 r2 => ?_
      cases r2 with
      | cons r3 r4 =>
        cases r3; cases r4
        refine ⟨b, rfl, fun z hz => ⟨i, z, 0, b, rfl, rfl, upd_same, ?_⟩⟩
        exact q F2 φ2 _ _ (s1.trans s2) (List.IsPrefix.trans p1 p2) (hs2.extra hz) (.bl _)
    · rename_i a' b L2 e2
      simp only [Option.some.injEq, Prod.mk.injEq] at h
      obtain ⟨rfl, rfl⟩ := h
      refine ha.run hs ss e1 _ fun F1 φ1 H1 v s1 p1 hs1 r1 => ?_
      cases r1
      refine PE.wp (pe_callTy cr_range2 hg hm (by decide +kernel) wpA (by decide) (by decide) he hpl) ?_
      refine hb.run hs1 (ss.mono s1 p1) e2 _ fun F2 φ2 H2 vs s2 p2 hs2 r2 => ?_
      cases r2 with
      | cons r3 r4 =>
        cases r3
        cases r4 with
        | cons r5 r6 =>
          cases r5; cases r6
          refine ⟨a', b, rfl, fun z hz => ⟨i, z, a', b, rfl, rfl, upd_same, ?_⟩⟩
          exact q F2 φ2 _ _ (s1.trans s2) (List.IsPrefix.trans p1 p2) (hs2.extra hz) (.bl _)
    · cases h
  · cases h
@[simp] theorem e_cInR (fa : EF) (g : AF) (ρ : Ro) (L : Lg) : cInR fa g ρ L = (match fa ρ L with
  | some (.int i, L1) => (match g ρ L1 with
    | some ([.int b], L2) => some (.bl (decide (0 ≤ i ∧ i < b)), L2)
    | some ([.int a, .int b], L2) => some (.bl (decide (a ≤ i ∧ i < b)), L2)
    | _ => none)
  | _ => none) := id rfl
/-- e is True -/
def isBW : W → W → Option W
  | .bl x, .bl y => some (.bl (decide (x = y)))
  | _, _ => none
theorem op2_isB : Op2 X rIsB isBW := by
  intro Z F φ L H x y w vx vy hs rx ry h Q q
  unfold isBW at h
  split at h
  · cases h; cases rx; cases ry
    exact ⟨_, _, rfl, rfl, flat hs (.bl _) q⟩
  · cases h
theorem ie_isB {b : Expr} {fa fb : EF} (ha : IE X a fa) (hb : IE X b fb) : IE X (.Compare a [.Is] [b] pos) (cOp isBW fa fb) := ie_cmp op_isBl op2_isB ha hb (nomark _)
@[simp] theorem isBW_b (x y : Bool) : isBW (.bl x) (.bl y) = some (.bl (decide (x = y))) := id rfl
end
end Lf

set_option maxHeartbeats 4000000
/-! Lf, part AL: [s.replace(y, z[i]) for s in xs]: a token is out once the turn's name is stored. -/
namespace Lf
open PySem PySem.Spec PyProof.Rows L2
/-! ### a token is given out -/
def Hands {α : Type} (M : Model) (Γ : PySem.Ctx) (t : Sem α) : Prop :=
  ∀ (Q : α → Pos → Shared → Prop) (E : Value → Pos → Shared → Prop) (p : Pos) (s : Shared), Sem.wp M Γ t Q E p s → Sem.wp M Γ t (fun a p' s' => 1 ≤ s'.toks ∧ Q a p' s') E p s
theorem hands_ask {α : Type} {M : Model} {Γ : PySem.Ctx} {k : Setting → Sem α} (h : ∀ x, Hands M Γ (k x)) : Hands M Γ (.ask k) := fun Q E p s q => h _ Q E p s q
theorem hands_fresh {α : Type} {M : Model} {Γ : PySem.Ctx} {k : Tok → Sem α} : Hands M Γ (.fresh k) := fun Q E p s q =>
  Sem.wp_mono M Γ (.fresh k) (fun _ _ _ z => z) (fun _ _ _ z => z.2) p s (Sem.wp_toks M Γ 1 (k s.toks) Q E p { s with toks := s.toks + 1 } (Nat.succ_le_succ (Nat.zero_le _)) q)
theorem hands_nsSet {M : Model} {Γ : PySem.Ctx} {a : Addr} {n : Str} {v : Value} : Hands M Γ (nsSet a n v) := hands_ask fun _ => hands_fresh
section
variable {M : Model} {A : Around} {E : Value → Shared → Prop} {s : Shared}
theorem store_hands {env : Env} {x : Str} {u : Value} {Q : Unit → Shared → Prop} (hl : env.kindOf x = some .local) (hp : (env.scope.kind == .class || (env.scope.kind == .module && env.locals != env.globals)) = false)
    (h : wpAny M A (storeName env x u) Q E s) : wpAny M A (storeName env x u) (fun z s' => 1 ≤ s'.toks ∧ Q z s') E s := by
  rw [storeName_local hl hp] at h ⊢
  exact fun Γ p hΓ => hands_nsSet _ _ _ _ (h Γ p hΓ)
end
/-! ### expressions, a token being out -/
def WpET (X : Cx) (e : Expr) : TE := fun σ H Q => ∀ (pins : List (Addr × Obj)) (s : Shared), 1 ≤ s.toks → Inv X pins σ H s → wpAny (model X.prog X.w) X.A (eval e X.env) (EP X pins σ Q) X.xe s
structure IET (X : Cx) (e : Expr) (f : EF) : Prop where
  run : ∀ {Zx Z F : Hp} {φ : List Addr} {L : Lg} {ρ : Ro} {σ : L2.St} {H : Hp} {w : W} {L' : Lg}, Hs X.K X.mg Z F φ L H → Ss X.K Zx Z F φ ρ σ → f ρ L = some (w, L') →
    ∀ Q : VK, (∀ (F' : Hp) (φ' : List Addr) (H' : Hp) (v : V), Sub F F' → φ <+: φ' → Hs X.K X.mg Z F' φ' L' H' → R X.K F' φ' w v → Q v H') → WpET X e σ H Q
/-- s.replace(y, z[i]) -/
def replW (x y z : Str) (n : Int) : Option Str := match atI z.cps.toList n with
  | some c => if z.length ≤ 16777216 ∧ x.length ≤ 1048576 ∧ (y == (⟨#[c]⟩ : Str)) = false then some (Txt.replace x y ⟨#[c]⟩) else none
  | none => none
def cRepl (y z : Str) (fo fi : EF) : EF := fun ρ L => match fo ρ L with
  | some (.str x, L1) => (match fi ρ L1 with
    | some (.int n, L2) => (match replW x y z n with
      | some r => some (.str r, L2)
      | none => none)
    | _ => none)
  | _ => none
section
variable {X : Cx} {pos : Pos}
theorem iet_repl {o i : Expr} {fo fi : EF} {y z : Str} {j k : Nat} {c0 c1 p2 apos : Pos} (ho : IE X o fo) (hi : IE X i fi) (hs0 : NoSl i)
    (hst : starEach [.Constant (.str y) j c0, .Subscript (.Constant (.str z) k c1) i p2] X.env = [(false, eval (.Constant (.str y) j c0) X.env), (false, eval (.Subscript (.Constant (.str z) k c1) i p2) X.env)] := by rfl)
    (hbase : attributeBase o "replace" X.env (eval o X.env) = eval o X.env := by rfl) (hline : (apos.endLine == pos.line) = true := by rfl) :
    IET X (.Call (.Attribute o "replace" apos) [.Constant (.str y) j c0, .Subscript (.Constant (.str z) k c1) i p2] [] pos) (cRepl y z fo fi) := by
  refine ⟨fun {Zx Z F φ L ρ σ H w L'} hs ss h Q q pins s h0 I => ?_⟩
  unfold cRepl at h
  split at h
  · rename_i x L1 e1
    split at h
    · rename_i n L2 e2
      split at h
      · rename_i r e3
        simp only [Option.some.injEq, Prod.mk.injEq] at h
        obtain ⟨rfl, rfl⟩ := h
        unfold replW at e3
        split at e3
        · rename_i c e4
          split at e3
          · rename_i hc
            obtain ⟨z1, z2, z3⟩ := hc
            simp only [Option.some.injEq] at e3
            subst e3
            -- the receiver
            have k1 : Wp X o σ H (fun v H1 => v = .str x ∧ ∀ (pins : List (Addr × Obj)) (s : Shared), Inv X pins σ H1 s → wpAny (model X.prog X.w) X.A (eval i X.env) (EP X pins σ fun u H2 => u = .int n ∧ Q (.str (Txt.replace x y ⟨#[c]⟩)) H2) X.xe s) :=
              ho.run hs ss e1 _ fun F1 φ1 H1 v s1 p1 hs1 r1 => by
                cases r1
                refine ⟨rfl, hi.run hs1 (ss.mono s1 p1) e2 _ fun F2 φ2 H2 u s2 p2 hs2 r2 => ?_⟩
                cases r2
                exact ⟨rfl, q F2 φ2 H2 _ (s1.trans s2) (List.IsPrefix.trans p1 p2) hs2 (.str _)⟩
            refine PySem.Call_method2 hbase hst hline (wpAny_mono (PySem.wpAny_toks (k1 pins s I)) (fun ov s1 g => ?_) fun _ _ z => z.2)
            obtain ⟨t1, v, H1, I1, rv, rfl, k2⟩ := g
            obtain ⟨tx, rfl⟩ := rv
            refine ⟨"str", _, PySem.F.plainAttrs_str, PySem.F.slot_str_replace, PySem.F.type_str_replace, typeIs_str _ _ _, (fun _ e => nomatch e), Calls.callWith_builtin rfl (Calls.evalArgs_plain (Calls.spliced_cons (Calls.Constant_str (Calls.spliced_cons ?_))))⟩
            refine subD_of PySem.F.slot_str_getitem.lookup hs0 (Calls.Constant_str ?_)
            have I2 : Inv X pins σ H1 { s1 with toks := s1.toks + 1 + 1 } := I1.tok _
            refine wpAny_mono (PySem.wpAny_toks (k2 pins _ I2)) (fun iv s2 g => ?_) fun _ _ z => z.2
            obtain ⟨t2, u, H2, I3, ru, rfl, qq⟩ := g
            obtain ⟨tu, rfl⟩ := ru
            have t2 : s1.toks + 1 + 1 ≤ s2.toks := t2
            obtain ⟨m, h1, h2, h3, h4, h5⟩ := atI_get e4
            have hl : z.cps.toList.length = z.length := by simp [Str.length]
            rw [hl] at h1 h4 h5
            refine ⟨typeIs_str s2 z _, getItem_str (c := c) (by
              have g1 : decide (n < -(2 ^ 63 : Int)) = false := decide_eq_false (by omega)
              have g2 : decide (n ≥ 2 ^ 63) = false := decide_eq_false (by omega)
              rw [g1, g2, Bool.or_false]) (by rw [h1]; simpa using h2) (Calls.spliced_nil ?_)⟩
            exact PySem.SC.replace (by show s1.toks ≠ 0; omega) (by show s2.toks ≠ 0; omega) (by show s1.toks ≠ s2.toks; omega) z3 (by show x.length + (x.length + 1) * 1 ≤ 16777216; omega) fun t' k => ⟨.str (Txt.replace x y ⟨#[c]⟩), H2, I3.tok k, ⟨t', rfl⟩, qq⟩
          · cases e3
        · cases e3
      · cases h
    · cases h
  · cases h
end
/-! ### the turns -/
section
variable {X : Cx}
theorem lcN_core {pins : List (Addr × Obj)} {s : Shared} {σ : L2.St} {H : Hp} {Q : VK} {elt iter : Expr} {scope : Scope} {own : List (Str × Nat)} {x : Str} {i0 : Nat} {px pos pos' : Pos} {wi : TI} {te : TE} {use : Option (Value → Sem Unit)} {Qf : Value → Shared → Prop}
    (hc : X.calm = true) (hN : X.N.Nodup) (I : Inv X pins σ H s) (hi : PI X (.Name x px) iter wi) (blk : BlkOk X.N X.env.scope scope own) (hx : X.N[i0]? = some x) (hxl : scope.names.lookup x = some .local)
    (he : ∀ (s : Shared) (H : Hp) (C : Addr) (cl : List (Str × Addr)) (fp : List Addr), ∀ σ H1 Q, te σ H1 Q → WpET (X.blk s H scope (compEnvC scope cl C X.env) fp) elt σ H1 Q) (fold : ∀ x, foldedSetIterable iter X.env x = pure x)
    (h : tLc wi (gName i0) (fun _ H Q => Q true H) te (own.map (·.2)) σ H Q)
    (fin : ∀ D C s' m H', Inv X pins σ H' s' → Q (.ref D) H' → s'.heap.Ns C m → FpOk X pins H' C → compPost (model X.prog X.w) X.A X.xe use Qf (.ref D) C (.ok .next) s') :
    wpAny (model X.prog X.w) X.A (comprehension (.ListComp elt [⟨.Name x px, iter, [], 0⟩] scope pos) scope X.env pos' (newList []) false (eval iter X.env) use) Qf X.xe s := by
  refine wpAny_comprehension_free (use := use) rfl fold (closure_ok fun y hy e => (blk.free y hy e).elim (fun z => I.ok.has _ (.inl z)) fun z => I.ok.has _ (.inr z)) blk.kind (fun y hy e => by rw [blk.uniq y hy, e])
    (thn (hi.run pins s σ H _ I h) fun xv s1 hgo => thn hgo fun itv sB got => ?_)
  obtain ⟨it, fs, tn, J, H2, rfl, I2, T, tB, fr2, q⟩ := got
  refine wpAny_newObj_type (newEnv_comp ?_) (by show 0 ≤ sizeLine; decide)
  generalize eD : sB.heap.objs.size = D
  obtain ⟨W, ⟨m0, w0⟩, turn⟩ := q D (I2.hok.fresh (Nat.le_of_eq eD))
  generalize eC : ({ sB with heap := sB.heap.push { cls := .type "list", data := .seq ([] : List Value).toArray } } : Shared) = sC
  have hh3 : sC.heap = sB.heap.push { cls := .type "list", data := .seq ([] : List Value).toArray } := by rw [← eC]
  have I3 : Inv X pins σ (upd H2 D (.lst [])) sC := by
    rw [← eC]
    exact I2.laid (t' := sB.toks) (fun b o e => Heap.get?_push_of_some _ e) (Nat.le_of_eq eD) ⟨Nat.zero_le _, [], 0, .nil, by rw [← eD]; exact Heap.get?_push_size _ rfl⟩
  have fr3 : ∀ b ∈ fs, FpOk X pins (upd H2 D (.lst [])) b ∧ b < sC.heap.objs.size := fun b hb => by
    obtain ⟨o, e, _⟩ := T.obj _ _ tB b hb
    have lt := Heap.lt_size e
    exact ⟨⟨by rw [upd_ne (by rw [← eD]; exact Nat.ne_of_lt lt)]; exact (fr2 b hb).1, (fr2 b hb).2⟩, by rw [hh3, Heap.size_push]; exact Nat.lt_succ_of_lt lt⟩
  have tC : tn 0 sC.heap := T.keep _ _ _ tB fun b _ o e => by rw [hh3]; exact Heap.get?_push_of_some _ e
  have I4 := block_start I3 blk hN fr3
  obtain ⟨ce, hce⟩ : ∃ ce, compEnvC scope (cellsFrom (sC.heap.objs.size + 1) scope.names (cloFrom X.env.cells scope.names [])) sC.heap.objs.size X.env = ce := ⟨_, rfl⟩
  obtain ⟨H3, hH3⟩ : ∃ H3, upd H2 D (.lst []) = H3 := ⟨_, rfl⟩
  have pe := he sC H3 sC.heap.objs.size (cellsFrom (sC.heap.objs.size + 1) scope.names (cloFrom X.env.cells scope.names [])) fs
  have cL : ce.locals = sC.heap.objs.size := by rw [← hce]; rfl
  have cS : ce.scope.names.lookup x = some .local := by rw [← hce]; exact lookup_relabel_local hxl
  have cK : ce.scope.kind = .function := by rw [← hce]; exact blk.kind
  obtain ⟨sD, eD4⟩ : ∃ sD : Shared, ({ sC with heap := pushCells (sC.heap.push { cls := .type "dict", data := .dict #[] }) scope.names } : Shared) = sD := ⟨_, rfl⟩
  rw [hH3] at I3 I4 w0 fr3
  rw [hce] at I4 pe
  rw [eD4] at I4
  have tD : tn 0 sD.heap := T.keep _ _ _ tC fun b _ o e => by rw [← eD4]; exact pushCells_keeps _ _ _ _ (Heap.get?_push_of_some _ e)
  have own1 : ∀ {σ' : L2.St} {H' : Hp} {s' : Shared}, Inv (X.blk sC H3 scope ce fs) [] σ' H' s' → (∀ b ∈ fs, H' b = none) → ∀ b ∈ fs, FpOk (X.blk sC H3 scope ce fs) [] H' b := fun {σ' H' s'} I' hn b hb =>
    let z := I'.ok.exf b hb
    ⟨hn b hb, z.1, I'.ok.exfs b hb, .inl hb, fun x c e => z.2 x c e, fun p hp => nomatch (show p ∈ ([] : List (Addr × Obj)) from hp)⟩
  show codeAny _ _ (.compStart (.ListComp elt [⟨.Name x px, iter, [], 0⟩] scope pos) 0 (.ref it) (.ref D) (compEnvC scope (cellsFrom (sC.heap.objs.size + 1) scope.names (cloFrom X.env.cells scope.names [])) sC.heap.objs.size X.env)) (compPost (model X.prog X.w) X.A X.xe use Qf (.ref D) sC.heap.objs.size) { sC with heap := pushCells (sC.heap.push { cls := .type "dict", data := .dict #[] }) scope.names }
  rw [hce, eD4]
  refine (fun loop => codeAny_compStart_list loop (T.self X.A 0 _ _ _ tD loop)) ?_
  refine compLoop_any (fun n s' => ∃ i H', Inv (X.blk sC H3 scope ce fs) [] (wipe σ (own.map (·.2))) H' s' ∧ tn i s'.heap ∧ (∀ b ∈ fs, H' b = none) ∧ W i n H') ?_ m0 ⟨0, H3, I4, tD, fun b hb => (fr3 b hb).1.1, w0⟩
  rintro n sE ⟨i, hE, iE, tE, nE, wE⟩
  rcases turn i n hE wE with ⟨stop, qq⟩ | ⟨go, Nx, less, step⟩
  · refine thnF (T.done (X.blk sC H3 scope ce fs) rfl rfl rfl hc i [] sE _ hE (fun _ _ => False) iE (own1 iE nE) tE stop) fun r sF ⟨hr, I6⟩ => ?_
    subst hr
    have iG : Inv X pins σ hE sF := I3.call' (ch := fs) I6.os I6.base I6.hok I6.bare fun b hb => ⟨(fr3 b hb).1.2.2.2.1, (fr3 b hb).1.2.1, (fr3 b hb).1.2.2.2.2.1, (fr3 b hb).1.2.2.2.2.2⟩
    have nC : hE sC.heap.objs.size = none := by rw [← cL]; exact I6.free
    obtain ⟨m, hn, _⟩ := I6.loc
    exact fin D _ sF m hE iG qq (by rw [← cL]; exact hn) (I3.fpOk (Nat.le_refl _) nC)
  · refine thnF (T.item (X.blk sC H3 scope ce fs) rfl rfl rfl hc i [] sE _ hE (fun _ _ => False) iE (own1 iE nE) tE go) fun r sF ⟨u, hr, h6⟩ => ?_
    subst hr
    refine thnF h6 fun _ sG ⟨xv, hG, iG, rG, yG, tG, nG⟩ => ?_
    have iP := iG.pinned (own1 iG nG) (T.obj _ _ tG)
    obtain ⟨hw8, q8⟩ := step xv hG yG
    have q8 : te ((wipe σ (own.map (·.2))).set i0 (some xv)) hG fun y H4 => ∃ acc, H4 D = some (.lst acc) ∧ acc.length < sizeLine ∧ Nx (upd H4 D (.lst (acc ++ [y]))) := q8
    have kind : ce.kindOf x = some .local := cS
    have cls : (ce.scope.kind == .class || (ce.scope.kind == .module && ce.locals != ce.globals)) = false := by rw [cK]; rfl
    have locx : (X.blk sC H3 scope ce fs).env.scope.names.lookup x = some .local := cS
    refine thnF (wpAny_assign_Name (store_hands (Q := fun _ s' => Inv (X.blk sC H3 scope ce fs) ([] ++ pinsAt fs sG.heap) ((wipe σ (own.map (·.2))).set i0 (some xv)) hG s') kind cls (store_ok iP hN hx (.inl locx) rG (fun s' I' => I') (.inr locx)))) fun _ sH ⟨t8, I8⟩ => ?_
    have again : ∀ {s' : Shared} {H' : Hp}, Inv (X.blk sC H3 scope ce fs) ([] ++ pinsAt fs sG.heap) ((wipe σ (own.map (·.2))).set i0 (some xv)) H' s' → Nx H' → ∃ m, m < n ∧ ∃ i H', Inv (X.blk sC H3 scope ce fs) [] (wipe σ (own.map (·.2))) H' s' ∧ tn i s'.heap ∧ (∀ b ∈ fs, H' b = none) ∧ W i m H' := fun {s' H'} I' nx => by
      obtain ⟨m', hm, w'⟩ := less H' nx
      have held : ∀ b ∈ fs, ∀ o, sG.heap.get? b = some o → s'.heap.get? b = some o ∧ H' b = none := fun b hb o e =>
        let z := I'.pin (b, o) (by refine List.mem_append_right _ (List.mem_append_right _ ?_); exact mem_pinsAt hb e)
        ⟨z.1, z.2.1⟩
      refine ⟨m', hm, i + 1, H', (I'.unpinned (pins := [])).weak (by rw [List.length_set]) (fun j v e => ?_), T.keep _ _ _ tG fun b hb o e => (held b hb o e).1, fun b hb => ?_, w'⟩
      · rw [← hw8] at e
        exact (L2.wipe_some e).1
      · obtain ⟨o, e, _⟩ := T.obj _ _ tG b hb
        exact (held b hb o e).2
    rw [List.forIn_nil]
    refine wpAny_pure ?_
    rw [if_pos rfl]
    refine thnF (pe _ _ _ q8 _ sH t8 I8) fun z sJ ⟨yv, H10, I10, r10, acc, hD10, hz10, nx⟩ => ?_
    exact app_ok (X := X.blk sC H3 scope ce fs) I10 hD10 hz10 r10 fun sL I11 => again I11 nx
/-- name = [.. for x in ..] on one line, the parts asking for a token -/
theorem is_setLcT {i i0 : Nat} {y x : Str} {py px : Pos} {elt iter : Expr} {scope : Scope} {own : List (Str × Nat)} {pos spos : Pos} {src : AF} {te : EF} (hc : X.calm = true) (hN : X.N.Nodup) (hy : X.N[i]? = some y) (hyl : X.env.scope.names.lookup y = some .local)
    (hsw : swapsWith (.ListComp elt [⟨.Name x px, iter, [], 0⟩] scope pos) (some (.Name y py)) spos.line X.env = pure true) (hi : II X (.Name x px) iter src) (ok : BlkOk X.N X.env.scope scope own) (hx : X.N[i0]? = some x) (hxl : scope.names.lookup x = some .local) (hix : i0 ∈ own.map (·.2))
    (he : ∀ (s : Shared) (H : Hp) (C : Addr) (cl : List (Str × Addr)) (fp : List Addr), IET (X.blk s H scope (compEnvC scope cl C X.env) fp) elt te) (fold : ∀ x, foldedSetIterable iter X.env x = pure x := by intro _; rfl) :
    IS X (.Assign [.Name y py] (.ListComp elt [⟨.Name x px, iter, [], 0⟩] scope pos) spos) (cSetO i (cLc src (gN i0) cYes te (own.map (·.2)))) := by
  refine ⟨fun {Zx Z F φ L ρ σ H o} hs ss h D q => ?_⟩
  let eW : TE := fun σ H Q => ∀ (s : Shared) (H0 : Hp) (C : Addr) (cl : List (Str × Addr)) (fp : List Addr), WpET (X.blk s H0 scope (compEnvC scope cl C X.env) fp) elt σ H Q
  unfold cSetO at h
  split at h
  · cases h
  rename_i m L1 e1
  split at h
  · rename_i hi'
    simp only [Option.some.injEq] at h
    subst h
    have rd : tLc (WpI X (.Name x px) iter) (gName i0) (fun _ H Q => Q true H) eW (own.map (·.2)) σ H (fun v H1 => gName i v σ H1 D.nx) := by
      refine lc_run (ix := [i0]) (ifs := []) (elt := elt) (scope := scope) hi (fun k hk => by rw [List.mem_singleton] at hk; rw [hk]; exact hix) (gName i0) (fun _ H Q => Q true H) eW ?_ ?_ ?_ hs ss e1 _ fun F1 φ1 H1 p o s1 p1 z hs1 r1 => ?_
      · intro Zx Z F φ L ρ ρ' σ H w v h1 h2 h3 h4 Q q
        unfold gN at h4
        split at h4
        · rename_i hl
          simp only [Option.some.injEq] at h4
          subst h4
          exact q _ (h2.setva hl h3) fun vs hv => wipe_set (hv i0 (by simp))
        · cases h4
      · intro Zx Z F φ L ρ σ H w L' h1 h2 h3 Q q
        simp only [cYes, Option.some.injEq, Prod.mk.injEq] at h3
        obtain ⟨rfl, rfl⟩ := h3
        exact q F φ H (Sub.refl F) (List.prefix_refl φ) h1
      · intro _ _ _ _ _ _ _ _ _ _ h1 h2 h3 Q q s H0 C cl fp
        exact (he s H0 C cl fp).run h1 h2 h3 Q q
      · exact q _ F1 φ1 _ H1 s1 p1 hs1 ((ss.mono s1 p1).setow hi' z r1)
    intro pins s I
    rw [exec_Assign_Name_used _ _ _ _ hsw]
    refine wpAny_bind (wpAny_standAt (wpAny_bind ?_))
    show wpAny _ X.A (do let _ ← comprehension (.ListComp elt [⟨.Name x px, iter, [], 0⟩] scope pos) scope X.env (firstIterPos [⟨.Name x px, iter, [], 0⟩] pos) (newList []) false (eval iter X.env) (some (assign (.Name y py) X.env))) _ _ s
    refine wpAny_bind (thn (lcN_core (Qf := fun _ s' => SP X pins D .next s') hc hN I wpI ok hx hxl (fun s H C cl fp σ H1 Q z => z s H C cl fp) fold rd fun B C s' m H' I' qq hn fr => ?_) fun _ s' z => wpAny_pure (wpAny_pure z))
    show wpAny _ _ (assign (.Name y py) X.env (.ref B)) _ _ _
    refine wpAny_assign_Name (store_ok2 (v := V.ref B) I' hN hy (.inl hyl) rfl (fun s2 I2 ⟨a, sb, ha⟩ => ?_) (.inr hyl))
    obtain ⟨f0, f1, f2, f3, f4, f5⟩ := fr
    have ne : C ≠ a := ha.elim (fun z => by rw [z]; exact f1) fun z e => f4 y a z e.symm
    exact ⟨m, hn.sameBut sb ne, fun h3 sb3 => ⟨_, H', I2.turned (t' := s2.toks) (fun b o hb e => (sb3.2 b hb).trans e) f0 f1 f3 f4 f5, qq⟩⟩
  · cases h
end
/-! ### s.index(t), where it is found -/
def cSIdx (fs ft : EF) : EF := fun ρ L => match fs ρ L with
  | some (.str s, L1) => (match ft ρ L1 with
    | some (.str t, L2) => (match Builtin.Str.occurrences s t 0 s.length 1 with
      | i :: _ => some (.int (i : Nat), L2)
      | [] => none)
    | _ => none)
  | _ => none
section
variable {X : Cx} {o e : Expr} {pos : Pos}
theorem ie_sindex {fs ft : EF} {apos : Pos} (h1 : IE X o fs) (h2 : IE X e ft) (hs0 : starEach [e] X.env = [(false, eval e X.env)] := by rfl) (hbase : attributeBase o "index" X.env (eval o X.env) = eval o X.env := by rfl) (hline : (apos.endLine == pos.line) = true := by rfl) :
    IE X (.Call (.Attribute o "index" apos) [e] [] pos) (cSIdx fs ft) := by
  refine ⟨fun {Zx Z F φ L ρ σ H w L'} hs ss h Q q => PE.wp (pe_m1 PySem.F.slot_str_index PySem.F.type_str_index mt_sindex wpE wpE hs0 hbase hline) ?_⟩
  unfold cSIdx at h
  split at h
  · rename_i s L1 e1
    split at h
    · rename_i t L2 e2
      split at h
      · rename_i i rest e3
        simp only [Option.some.injEq, Prod.mk.injEq] at h
        obtain ⟨rfl, rfl⟩ := h
        refine h1.run hs ss e1 _ fun F1 φ1 H1 x s1 p1 hs1 r1 => ?_
        cases r1
        refine ⟨⟨_, rfl⟩, ?_⟩
        refine h2.run hs1 (ss.mono s1 p1) e2 _ fun F2 φ2 H2 y s2 p2 hs2 r2 => ?_
        cases r2
        exact ⟨_, _, _, _, rfl, rfl, e3, q F2 φ2 H2 _ (s1.trans s2) (List.IsPrefix.trans p1 p2) hs2 (.int _)⟩
      · cases h
    · cases h
  · cases h
end
end Lf

set_option maxHeartbeats 4000000
/-! Lf, part AM: s.rstrip(..), s.isdigit(), xs.extend(..), [..] * n. -/
namespace Lf
open PySem PySem.Spec PyProof.Rows L2
section
variable {X : Cx} {o e a b : Expr} {pos : Pos}
/-- s.rstrip(t) -/
def cRstrip (fs ft : EF) : EF := fun ρ L => match fs ρ L with
  | some (.str s, L1) => (match ft ρ L1 with
    | some (.str t, L2) => if s.length < 16777216 then some (.str (Txt.rstripChars s t), L2) else none
    | _ => none)
  | _ => none
@[simp] theorem e_cRstrip (fs ft : EF) (ρ : Ro) (L : Lg) : cRstrip fs ft ρ L = (match fs ρ L with
  | some (.str s, L1) => (match ft ρ L1 with
    | some (.str t, L2) => if s.length < 16777216 then some (.str (Txt.rstripChars s t), L2) else none
    | _ => none)
  | _ => none) := id rfl
theorem ie_rstrip {fs ft : EF} {apos : Pos} (h1 : IE X o fs) (h2 : IE X e ft) (hs0 : starEach [e] X.env = [(false, eval e X.env)] := by rfl) (hbase : attributeBase o "rstrip" X.env (eval o X.env) = eval o X.env := by rfl) (hline : (apos.endLine == pos.line) = true := by rfl) :
    IE X (.Call (.Attribute o "rstrip" apos) [e] [] pos) (cRstrip fs ft) := by
  refine ⟨fun {Zx Z F φ L ρ σ H w L'} hs ss h Q q => PE.wp (pe_m1 PySem.F.slot_str_rstrip PySem.F.type_str_rstrip mt_rstripChars wpE wpE hs0 hbase hline) ?_⟩
  unfold cRstrip at h
  split at h
  · rename_i s L1 e1
    split at h
    · rename_i t L2 e2
      split at h
      · rename_i hz
        simp only [Option.some.injEq, Prod.mk.injEq] at h
        obtain ⟨rfl, rfl⟩ := h
        refine h1.run hs ss e1 _ fun F1 φ1 H1 x s1 p1 hs1 r1 => ?_
        cases r1
        refine ⟨⟨_, rfl⟩, ?_⟩
        refine h2.run hs1 (ss.mono s1 p1) e2 _ fun F2 φ2 H2 y s2 p2 hs2 r2 => ?_
        cases r2
        exact ⟨_, _, rfl, rfl, by rw [sizeLine_eq]; omega, q F2 φ2 H2 _ (s1.trans s2) (List.IsPrefix.trans p1 p2) hs2 (.str _)⟩
      · cases h
    · cases h
  · cases h
/-- s.isdigit() -/
def cIsDig (fs : EF) : EF := fun ρ L => match fs ρ L with
  | some (.str s, L1) => some (.bl (Txt.isdigit s), L1)
  | _ => none
@[simp] theorem e_cIsDig (fs : EF) (ρ : Ro) (L : Lg) : cIsDig fs ρ L = (match fs ρ L with
  | some (.str s, L1) => some (.bl (Txt.isdigit s), L1)
  | _ => none) := id rfl
theorem ie_isdigit {fs : EF} {apos : Pos} (h1 : IE X o fs) (hbase : attributeBase o "isdigit" X.env (eval o X.env) = eval o X.env := by rfl) (hline : (apos.endLine == pos.line) = true := by rfl) :
    IE X (.Call (.Attribute o "isdigit" apos) [] [] pos) (cIsDig fs) := by
  refine ⟨fun {Zx Z F φ L ρ σ H w L'} hs ss h Q q => PE.wp (pe_m0 PySem.F.slot_str_isdigit PySem.F.type_str_isdigit mt_isdigit wpE hbase hline) ?_⟩
  unfold cIsDig at h
  split at h
  · rename_i s L1 e1
    simp only [Option.some.injEq, Prod.mk.injEq] at h
    obtain ⟨rfl, rfl⟩ := h
    refine h1.run hs ss e1 _ fun F1 φ1 H1 x s1 p1 hs1 r1 => ?_
    cases r1
    exact ⟨⟨_, rfl⟩, _, rfl, rfl, trivial, q F1 φ1 H1 _ s1 p1 hs1 (.bl _)⟩
  · cases h
/-- [..] * n, the list a new one -/
def nRep (fa : NF) (fb : EF) : NF := fun ρ L => match fa ρ L with
  | some (.lst ws, L1) => (match fb ρ L1 with
    | some (.int k, L2) => if k < 1000000 ∧ -1000000 < k ∧ ws.length ≤ 1 then some (.lst (List.replicate k.toNat ws).flatten, L2) else none
    | _ => none)
  | _ => none
@[simp] theorem e_nRep (fa : NF) (fb : EF) (ρ : Ro) (L : Lg) : nRep fa fb ρ L = (match fa ρ L with
  | some (.lst ws, L1) => (match fb ρ L1 with
    | some (.int k, L2) => if k < 1000000 ∧ -1000000 < k ∧ ws.length ≤ 1 then some (.lst (List.replicate k.toNat ws).flatten, L2) else none
    | _ => none)
  | _ => none) := id rfl
theorem Rs.reps {K : PySem.W.Frag} {F : Hp} {φ : List Addr} {ws : List W} {vs : List V} (r : Rs K F φ ws vs) : ∀ n : Nat, Rs K F φ (List.replicate n ws).flatten (List.replicate n vs).flatten
  | 0 => .nil
  | n + 1 => by
    rw [List.replicate_succ, List.replicate_succ, List.flatten_cons, List.flatten_cons]
    exact Rs.append r (Rs.reps r n)
theorem Ss.newZ {K : PySem.W.Frag} {Zx Z F : Hp} {φ : List Addr} {ρ : Ro} {σ : L2.St} {p : Addr} {o : HO} (h : Ss K Zx Z F φ ρ σ) (z : Z p = none) : Ss K Zx (upd Z p o) F φ ρ σ := by
  have s : Sub Z (upd Z p o) := Sub.new z
  exact ⟨h.len, h.va, fun i m e => let ⟨a, o', h1, h2, h3, h4⟩ := h.ow i m e; ⟨a, o', h1, s _ _ h2, h3, h4⟩, h.sep, h.out.trans s⟩
theorem in_rep {fa : NF} {fb : EF} (ha : IN X a fa) (hb : IE X b fb) : IN X (.BinOp a .Mult b pos) (nRep fa fb) := by
  refine ⟨fun {Zx Z F φ L ρ σ H m L'} hs ss h Q q => PE.wp (pe_op op_rep wpE wpE) ?_⟩
  unfold nRep at h
  split at h
  · rename_i ws L1 e1
    split at h
    · rename_i k L2 e2
      split at h
      · rename_i hz
        simp only [Option.some.injEq, Prod.mk.injEq] at h
        obtain ⟨rfl, rfl⟩ := h
        refine ha.run hs ss e1 _ fun F1 φ1 H1 p o s1 p1 z hs1 m1 => ?_
        cases o <;> first | exact m1.elim | skip
        rename_i vs
        have r1 : Rs X.K F1 φ1 ws vs := m1
        refine hb.run hs1 ((ss.mono s1 p1).newZ z) e2 _ fun F2 φ2 H2 y s2 p2 hs2 r2 => ?_
        cases r2
        have hH := (hs2.ext p _ upd_same).1
        refine ⟨p, k, vs, rfl, rfl, hH, by omega, by omega, ?_, fun p3 hp3 => ?_⟩
        · rw [sizeLine_eq, ← r1.length]
          obtain ⟨z1, z2, z3⟩ := hz
          have : k.toNat < 1000000 := by omega
          have : ws.length * k.toNat ≤ 1 * k.toNat := Nat.mul_le_mul_right _ z3
          omega
        · have hs3 := (hs2.weak (Sub.new z)).fresh (o := .lst (List.replicate k.toNat vs).flatten) hp3
          have z3 := ((hs2.weak (Sub.new z)).free hp3).2.1
          exact q F2 φ2 _ p3 _ (s1.trans s2) (List.IsPrefix.trans p1 p2) z3 hs3 (Rs.reps (r1.mono s2 p2) k.toNat)
      · cases h
    · cases h
  · cases h
/-- xs.extend(e), xs of the name's own, e a new list -/
def cExt (i : Nat) (f : NF) : SF := fun ρ L => match f ρ L with
  | some (.lst us, L') => (match ρ[i]? with
    | some (.ow (.lst ws)) => if ws.length + us.length < 16777216 then some (.nx (ρ.set i (.ow (.lst (ws ++ us)))) L') else none
    | _ => none)
  | _ => none
@[simp] theorem e_cExt (i : Nat) (f : NF) (ρ : Ro) (L : Lg) : cExt i f ρ L = (match f ρ L with
  | some (.lst us, L') => (match ρ[i]? with
    | some (.ow (.lst ws)) => if ws.length + us.length < 16777216 then some (.nx (ρ.set i (.ow (.lst (ws ++ us)))) L') else none
    | _ => none)
  | _ => none) := id rfl
theorem is_ext (i : Nat) {x : Str} {px apos cpos : Pos} {f : NF} (he : IN X e f) (hN : X.N[i]? = some x := by rfl) (hv : Vis X.env.scope x := by first | exact Or.inl rfl | exact Or.inr (Or.inl rfl) | exact Or.inr (Or.inr rfl)) (hd : (x == ("__debug__" : Str)) = false := by decide)
    (hcd : (x == ("__classdict__" : Str)) = false := by decide) (hs' : swapsWith (.Call (.Attribute (.Name x px) "extend" apos) [e] [] cpos) none pos.line X.env = pure false := by rfl)
    (hb : attributeBase (.Name x px) "extend" X.env (eval (.Name x px) X.env) = eval (.Name x px) X.env := by rfl)
    (hfew : ((backTo cpos (starEach (e :: []) X.env)).all (fun x => !x.1) && (backToKw cpos (keywordEach [] X.env)).all (fun x => x.1.isSome)
      && decide ((e :: []).length + ([] : List Keyword).length + (if ([] : List Keyword).isEmpty then 0 else 1) < 30)) = true := by rfl)
    (hline : (apos.endLine == cpos.line) = true := by rfl) (hst : starEach (e :: []) X.env = (false, eval e X.env) :: starEach [] X.env := by rfl) (hplain : (backTo cpos (starEach [] X.env)).any (·.1) = false := by rfl) :
    IS X (.Expr (.Call (.Attribute (.Name x px) "extend" apos) [e] [] cpos) pos) (cExt i f) := by
  refine ⟨fun {Zx Z F φ L ρ σ H o} hs ss h D q => PS.wp (ps_expr (pe_bm PySem.F.plainAttrs_list PySem.F.slot_list_extend PySem.F.type_list_extend mt_extend (pe_var hN hv hd hcd) (pa_cons wpE pa_nil hst) hb hfew hline hst hplain) hs') ?_⟩
  unfold cExt at h
  split at h
  · rename_i us L1 e1
    split at h
    · rename_i ws e2
      split at h
      · rename_i hz
        simp only [Option.some.injEq] at h
        subst h
        obtain ⟨p, ho, h1, h2, h3, h4⟩ := ss.ow i _ e2
        have hH := (hs.ext p ho h2).1
        cases ho <;> first | exact h4.elim | skip
        rename_i vs
        refine ⟨_, h1, .inl ⟨rfl, _, SqL.of hH⟩, ?_⟩
        refine he.run hs ss e1 _ fun F1 φ1 H1 p2 o2 s1 p1 z hs1 m2 => ?_
        cases o2 <;> first | exact m2.elim | skip
        rename_i us'
        have ru : Rs X.K F1 φ1 us us' := m2
        have ne : p ≠ p2 := fun e => by subst e; rw [z] at h2; cases h2
        have h2' : (upd Z p2 (.lst us')) p = some (.lst vs) := by rw [upd_ne ne]; exact h2
        have hH1 := (hs1.ext p _ h2').1
        have hH2 := (hs1.ext p2 _ upd_same).1
        have rv : Rs X.K F φ ws vs := h4
        refine ⟨p, p2, vs, us', rfl, rfl, hH1, hH2, by rw [← rv.length, ← ru.length, sizeLine_eq]; omega, ?_⟩
        have m3 : MOk X.K F1 φ1 (.lst (ws ++ us)) (.lst (vs ++ us')) := Rs.append (rv.mono s1 p1) ru
        have hs2 := hs1.turn (o' := .lst (vs ++ us')) h2'
        have sb : Sub (upd Z p (.lst (vs ++ us'))) (upd (upd Z p2 (.lst us')) p (.lst (vs ++ us'))) := fun a u e => by
          by_cases ea : a = p
          · subst ea; rw [upd_same] at e ⊢; exact e
          · rw [upd_ne ea] at e ⊢
            rw [upd_ne]
            · exact e
            · intro z'; subst z'; rw [z] at e; cases e
        exact q _ F1 φ1 σ _ s1 p1 (hs2.weak sb) ((ss.mono s1 p1).turn e2 h1 m3)
      · cases h
    · cases h
  · cases h
/-- xs == e, xs of the name's own -/
def cEqOwn (neg : Bool) (i : Nat) (fb : EF) : TF := fun ρ L => match ρ[i]? with
  | some (.ow m) => (match fb ρ L with
    | some (y, L') => (match eqB m.fz y with
      | some k => some (k != neg, L')
      | none => none)
    | none => none)
  | _ => none
@[simp] theorem e_cEqOwn (neg : Bool) (i : Nat) (fb : EF) (ρ : Ro) (L : Lg) : cEqOwn neg i fb ρ L = (match ρ[i]? with
  | some (.ow m) => (match fb ρ L with
    | some (y, L') => (match eqB m.fz y with
      | some k => some (k != neg, L')
      | none => none)
    | none => none)
  | _ => none) := id rfl
theorem eqOwn_run {neg : Bool} {i : Nat} {fb : EF} {x : Str} {p : Pos} {op : CmpOp} {r : R2} (ho : OpR X (compareOp op) r) (hr : ∀ {x y : V} {H : Hp} {k : Bool} {Q : VK}, ((scal x y = true ∧ decide (x = y) = k) ∨ ∃ d e, Dp X.K H x d ∧ Dp X.K H y e ∧ SeqAt.shaped d = true ∧ SeqAt.shaped e = true ∧ PyData.eqv d e = k) → Q (.bl (k != neg)) H → r x y H Q)
    (hb : IE X b fb) (hN : X.N[i]? = some x) (hv : Vis X.env.scope x) (hd : (x == ("__debug__" : Str)) = false) (hcd : (x == ("__classdict__" : Str)) = false) (hm : behindInMarks op b = false) : IT X (.Compare (.Name x p) [op] [b] pos) (cEqOwn neg i fb) := by
  refine ⟨fun {Zx Z F φ L ρ σ H w L'} hs ss h Q q => PT.wp (pt_cmpR ho (pe_var hN hv hd hcd) wpE hm) ?_⟩
  unfold cEqOwn at h
  split at h
  · rename_i m e0
    split at h
    · rename_i y L1 e1
      split at h
      · rename_i k e2
        simp only [Option.some.injEq, Prod.mk.injEq] at h
        obtain ⟨rfl, rfl⟩ := h
        obtain ⟨p, o, h1, h2, h3, h4⟩ := ss.ow i m e0
        refine ⟨_, h1, ?_⟩
        refine hb.run hs ss e1 _ fun F1 φ1 H1 vy s1 p1 hs1 ry => ?_
        obtain ⟨g1, g2, g3, g4⟩ := hs1.ext p o h2
        have sb : Sub F1 (upd F1 p o) := Sub.new g2
        have sH : Sub (upd F1 p o) H1 := fun a u e => by
          by_cases q : a = p
          · subst q; rw [upd_same] at e; cases e; exact g1
          · rw [upd_ne q] at e; exact hs1.sub a u e
        refine hr (eqB_ok sH ((h4.mono (s1.trans sb) p1).fz upd_same) (ry.mono sb (List.prefix_refl φ1)) e2) ?_
        exact ⟨_, rfl, q F1 φ1 H1 s1 p1 hs1⟩
      · cases h
    · cases h
  · cases h
theorem it_eqOwn (i : Nat) {fb : EF} {x : Str} {p : Pos} (hu : X.A.units + 64 < cLine) (hb : IE X b fb) (hN : X.N[i]? = some x := by rfl) (hv : Vis X.env.scope x := by first | exact Or.inl rfl | exact Or.inr (Or.inl rfl) | exact Or.inr (Or.inr rfl)) (hd : (x == ("__debug__" : Str)) = false := by decide)
    (hcd : (x == ("__classdict__" : Str)) = false := by decide) : IT X (.Compare (.Name x p) [.Eq] [b] pos) (cEqOwn false i fb) :=
  eqOwn_run (orR op_eq (op_eqD hu)) (fun {x y H k Q} h q => by
    rcases h with ⟨h1, h2⟩ | ⟨d, e', h1, h2, h3, h4, h5⟩
    · exact .inl ⟨h1, by rw [h2]; simpa using q⟩
    · exact .inr ⟨d, e', h1, h2, h3, h4, by rw [h5]; simpa using q⟩) hb hN hv hd hcd (nomark _)
end
end Lf

set_option maxHeartbeats 4000000
/-! Lf, part AN: a < b of lists and tuples that are alike. -/
namespace Lf
open PySem PySem.Spec PyProof.Rows L2
def rLtD (K : PySem.W.Frag) : R2 := fun x y H Q => ∃ d e, Dp K H x d ∧ Dp K H y e ∧ PySem.W.alike d e = true ∧ d ≠ .none ∧ d.depth ≤ 32 ∧ Q (.bl (PySem.W.dataLt d e)) H
theorem op_ltD {X : Cx} (hu : X.A.units + 100 < cLine) : OpR X (compareOp .Lt) (rLtD X.K) := by
  intro pins s σ H x y v u Q I rx ry h
  obtain ⟨d, e, hd, he, al, nn, dp, q⟩ := h
  obtain ⟨as, r1⟩ := Dp.reads I d x v hd rx
  obtain ⟨bs, r2⟩ := Dp.reads I e y u he ry
  have hr := PySem.W.rcLt_alike d e X.A s v u as bs r1 r2 al nn (by have : min d.depth e.depth ≤ d.depth := Nat.min_le_left _ _; omega)
  exact hr X.prog X.w _ _ ⟨.bl _, H, I, rfl, q⟩
def notNone : PyData → Bool
  | .none => false
  | _ => true
def ltOk (d e : PyData) : Bool := PySem.W.alike d e && notNone d && decide (d.depth ≤ 32)
def ltW (x y : W) : Option W := match toD x, toD y with
  | some d, some e => if ltOk d e = true then some (.bl (PySem.W.dataLt d e)) else none
  | _, _ => none
section
variable {X : Cx} {e a b : Expr} {pos : Pos}
theorem op2_lt : Op2 X (rLtD X.K) ltW := by
  intro Z F φ L H x y w vx vy hs rx ry h Q q
  unfold ltW at h
  split at h
  · rename_i d e e1 e2
    split at h
    · rename_i hz
      unfold ltOk at hz
      simp only [Bool.and_eq_true, decide_eq_true_eq] at hz
      obtain ⟨⟨z1, z2⟩, z3⟩ := hz
      cases h
      refine ⟨d, e, rx.dp hs.sub e1, ry.dp hs.sub e2, z1, ?_, z3, flat hs (.bl _) q⟩
      rintro rfl
      cases z2
    · cases h
  · cases h
theorem ie_ltD {fa fb : EF} (hu : X.A.units + 100 < cLine) (ha : IE X a fa) (hb : IE X b fb) : IE X (.Compare a [.Lt] [b] pos) (cOp ltW fa fb) := ie_cmp (op_ltD hu) op2_lt ha hb (nomark _)
theorem it_ltD {fa fb : EF} (hu : X.A.units + 100 < cLine) (ha : IE X a fa) (hb : IE X b fb) : IT X (.Compare a [.Lt] [b] pos) (asT (cOp ltW fa fb)) := it_cmp (op_ltD hu) op2_lt ha hb (nomark _)
end
end Lf

set_option maxHeartbeats 4000000
/-! Lf, part AO: defs that raise, try .. except. -/
namespace Lf
open PySem PySem.Spec PyProof.Rows L2
abbrev DX := List W → Lg → Option (Option W × Lg)
abbrev XF := Ro → Lg → Option (Option W × Lg)
abbrev XAF := Ro → Lg → Option (Option (List W) × Lg)
def ReOk (K : PySem.W.Frag) (mg : Str → Option Value) (Z F : Hp) (φ : List Addr) (Q : VK) (E : Hp → Prop) : Option W × Lg → Prop
  | (some w, L') => ∀ (Z' F' : Hp) (φ' : List Addr) (H' : Hp) (v : V), Sub F F' → φ <+: φ' → Sub Z Z' → Hs K mg Z' F' φ' L' H' → R K F' φ' w v → Q v H'
  | (none, L') => ∀ (Z' F' : Hp) (φ' : List Addr) (H' : Hp), Sub F F' → φ <+: φ' → Sub Z Z' → Hs K mg Z' F' φ' L' H' → E H'
def spX (K : PySem.W.Frag) (mg : Str → Option Value) (C : Addr) (n : Nat) (d : DX) : Sp := fun vs H Q E => ∃ (Z F : Hp) (φ : List Addr) (L : Lg) (ws : List W) (r : Option W × Lg), Hs K mg Z F φ L H ∧ Rs K F φ ws vs ∧ ws.length = n ∧ d ws L = some r ∧ ReOk K mg Z F φ Q (E (.ref C) none) r
def ReEnd (X : Cx) (Zx Z F : Hp) (φ : List Addr) (Q : VK) (E : Hp → Prop) : Option W × Lg → Prop
  | (some w, L') => ∀ (F' : Hp) (φ' : List Addr) (H' : Hp) (v : V), Sub F F' → φ <+: φ' → Hs X.K X.mg Z F' φ' L' H' → R X.K F' φ' w v → Q v H'
  | (none, L') => ∀ (Z' F' : Hp) (φ' : List Addr) (H' : Hp), Sub F F' → φ <+: φ' → Sub Zx Z' → Hs X.K X.mg Z' F' φ' L' H' → E H'
def ReEndA (X : Cx) (Zx Z F : Hp) (φ : List Addr) (Q : List V → Hp → Prop) (E : Hp → Prop) : Option (List W) × Lg → Prop
  | (some ws, L') => ∀ (F' : Hp) (φ' : List Addr) (H' : Hp) (vs : List V), Sub F F' → φ <+: φ' → Hs X.K X.mg Z F' φ' L' H' → Rs X.K F' φ' ws vs → Q vs H'
  | (none, L') => ∀ (Z' F' : Hp) (φ' : List Addr) (H' : Hp), Sub F F' → φ <+: φ' → Sub Zx Z' → Hs X.K X.mg Z' F' φ' L' H' → E H'
abbrev wE (E : XK) : WX := fun cls d _ H => E cls d H
structure IEX (X : Cx) (C : Addr) (E : XK) (e : Expr) (f : XF) : Prop where
  run : ∀ {Zx Z F : Hp} {φ : List Addr} {L : Lg} {ρ : Ro} {σ : L2.St} {H : Hp} {r : Option W × Lg}, Hs X.K X.mg Z F φ L H → Ss X.K Zx Z F φ ρ σ → f ρ L = some r → ∀ Q : VK, ReEnd X Zx Z F φ Q (E (.ref C) none) r → Wp X e σ H Q
structure IAX (X : Cx) (C : Addr) (E : XK) (es : List Expr) (f : XAF) : Prop where
  run : ∀ {Zx Z F : Hp} {φ : List Addr} {L : Lg} {ρ : Ro} {σ : L2.St} {H : Hp} {r : Option (List W) × Lg}, Hs X.K X.mg Z F φ L H → Ss X.K Zx Z F φ ρ σ → f ρ L = some r → ∀ Q : List V → Hp → Prop, ReEndA X Zx Z F φ Q (E (.ref C) none) r → WpA X es σ H Q
/-- a def that may raise an exception of the class at C -/
structure DefX (P : Program) (w : World) (K : PySem.W.Frag) (mg : Str → Option Value) (base : Heap) (k : Nat) (x : Str) (C : Addr) (ps : List Str) (d : DX) : Prop where
  ex : ∃ (f : Addr) (fd : FuncData), FnOk P w K mg base (L2.CX P w) k f fd ps (spX K mg C ps.length d) ∧ mg x = some (.ref f) ∧ PySem.W.keepIn K (.ref f) = true ∧ Binds K fd ps []
section
variable {X : Cx} {C : Addr} {E : XK} {e a b : Expr} {es : List Expr} {pos : Pos}
def cXCall (d : DX) (g : AF) : XF := fun ρ L => match g ρ L with
  | none => none
  | some (ws, L1) => d ws L1
theorem iex_call {k j : Nat} {x : Str} {p : Pos} {ps : List Str} {d : DX} {g : AF} (G : DefX X.prog X.w X.K X.mg X.base k x C ps d) (hr : Room j X.A) (hkj : k ≤ j) (hg : Gl X x) (tk : Takes X (wE E)) (ha : IA X (e :: es) g) (hn : ∀ ρ L ws L', g ρ L = some (ws, L') → ws.length = ps.length)
    (hdb : (x == ("__debug__" : Str)) = false := by decide) (he : starEach (e :: es) X.env = (false, eval e X.env) :: starEach es X.env := by rfl) (hpl : (backTo pos (starEach es X.env)).any (·.1) = false := by rfl) :
    IEX X C E (.Call (.Name x p) (e :: es) [] pos) (cXCall d g) := by
  obtain ⟨f, fd, F, hm, hk, hb⟩ := G.ex
  refine ⟨fun {Zx Z F1 φ L ρ σ H r} hs ss h Q q => PE.wp (pe_callS (E := WE (wE E)) F (hr.mono hkj) hg hm hk hb (fun σ => passAt tk σ) wpA hdb he hpl) ?_⟩
  unfold cXCall at h
  split at h
  · cases h
  rename_i ws L1 e1
  refine ha.run hs ss e1 _ fun F2 φ2 H2 vs s2 p2 hs2 r2 => ?_
  refine ⟨Z, F2, φ2, L1, ws, r, hs2, r2, hn _ _ _ _ e1, h, ?_⟩
  obtain ⟨rw_, L'⟩ := r
  cases rw_ with
  | some w => exact fun Z' F' φ' H' v s3 p3 z hs3 r3 => q F' φ' H' v (s2.trans s3) (List.IsPrefix.trans p2 p3) (hs3.weak z) r3
  | none => exact fun Z' F' φ' H' s3 p3 z hs3 => q Z' F' φ' H' (s2.trans s3) (List.IsPrefix.trans p2 p3) (ss.out.trans z) hs3
def xOf (f : EF) : XF := fun ρ L => match f ρ L with
  | some (w, L') => some (some w, L')
  | none => none
theorem IE.iex {f : EF} (h : IE X e f) : IEX X C E e (xOf f) := by
  refine ⟨fun {Zx Z F1 φ L ρ σ H r} hs ss h' Q q => ?_⟩
  unfold xOf at h'
  split at h'
  · rename_i w L1 e1
    simp only [Option.some.injEq] at h'
    subst h'
    exact h.run hs ss e1 Q q
  · cases h'
def cXNil : XAF := fun _ L => some (some [], L)
def cXCons (f : XF) (g : XAF) : XAF := fun ρ L => match f ρ L with
  | some (some w, L1) => (match g ρ L1 with
    | some (some ws, L2) => some (some (w :: ws), L2)
    | some (none, L2) => some (none, L2)
    | none => none)
  | some (none, L1) => some (none, L1)
  | none => none
theorem iax_nil : IAX X C E [] cXNil := by
  refine ⟨fun {Zx Z F φ L ρ σ H r} hs ss h Q q => PA.wp pa_nil ?_⟩
  simp only [cXNil, Option.some.injEq] at h
  subst h
  exact q F φ H [] (Sub.refl F) (List.prefix_refl φ) hs .nil
theorem iax_cons {f : XF} {g : XAF} (ha : IEX X C E e f) (hr : IAX X C E es g) (hs' : starEach (e :: es) X.env = (false, eval e X.env) :: starEach es X.env := by rfl) : IAX X C E (e :: es) (cXCons f g) := by
  refine ⟨fun {Zx Z F φ L ρ σ H r} hs ss h Q q => PA.wp (pa_cons wpE wpA hs') ?_⟩
  unfold cXCons at h
  split at h
  · rename_i w L1 e1
    refine ha.run hs ss e1 _ ?_
    intro F1 φ1 H1 v s1 p1 hs1 r1
    split at h
    · rename_i ws L2 e2
      simp only [Option.some.injEq] at h
      subst h
      refine hr.run hs1 (ss.mono s1 p1) e2 _ ?_
      intro F2 φ2 H2 vs s2 p2 hs2 r2
      exact q F2 φ2 H2 (v :: vs) (s1.trans s2) (List.IsPrefix.trans p1 p2) hs2 (.cons (r1.mono s2 p2) r2)
    · rename_i L2 e2
      simp only [Option.some.injEq] at h
      subst h
      refine hr.run hs1 (ss.mono s1 p1) e2 _ ?_
      intro Z2 F2 φ2 H2 s2 p2 z hs2
      exact q Z2 F2 φ2 H2 (s1.trans s2) (List.IsPrefix.trans p1 p2) z hs2
    · cases h
  · rename_i L1 e1
    simp only [Option.some.injEq] at h
    subst h
    refine ha.run hs ss e1 _ ?_
    exact q
  · cases h
/-- C(..), its arguments may raise -/
def cXMake (c : Str) (d : DF) (g : XAF) : XF := fun ρ L => match g ρ L with
  | none => none
  | some (none, L1) => some (none, L1)
  | some (some ws, L1) => match d (.ob L1.length :: ws) (L1 ++ [.ins c []]) with
    | some (.non, L2) => some (some (.ob L1.length), L2)
    | _ => none
theorem iex_make {c : Str} {k j : Nat} {ps : List Str} {d : DF} {g : XAF} {p : Pos} (D : MakD X.prog X.w X.K X.mg X.base k c ps d) (hr : Room j X.A) (hkj : k + 1 ≤ j) (hg : Gl X c) (ha : IAX X C E (e :: es) g) (hn : ∀ ρ L ws L', g ρ L = some (some ws, L') → ws.length + 1 = ps.length)
    (hdb : (c == ("__debug__" : Str)) = false := by decide) (he : starEach (e :: es) X.env = (false, eval e X.env) :: starEach es X.env := by rfl) (hpl : (backTo pos (starEach es X.env)).any (·.1) = false := by rfl) :
    IEX X C E (.Call (.Name c p) (e :: es) [] pos) (cXMake c d g) := by
  obtain ⟨C0, f, fd, cd, mk, F0, hb⟩ := D.ex
  refine ⟨fun {Zx Z F φ L ρ σ H r} hs ss h Q q => PE.wp (pe_make (E := E0) (dvs := []) mk F0 (hr.mono hkj) hg cd.at_ hb .nil pass0 wpA hdb he hpl) ?_⟩
  unfold cXMake at h
  split at h
  · cases h
  · rename_i L1 e1
    simp only [Option.some.injEq] at h
    subst h
    exact ha.run hs ss e1 _ q
  · rename_i ws L1 e1
    refine ha.run hs ss e1 _ ?_
    intro F1 φ1 H1 us s1 p1 hs1 r1 x dx hx hdx hne
    split at h
    · rename_i L2 e2
      simp only [Option.some.injEq] at h
      subst h
      have hsD : Hs X.K X.mg Z F1 φ1 L1 (upd H1 dx (.own x)) := hs1.extra hdx
      have hx2 : upd H1 dx (.own x) x = none := by rw [upd_ne (fun z => hne z.symm)]; exact hx
      have f0 := (hsD.free hx2).1
      have hsN : Hs X.K X.mg Z F1 (φ1 ++ [x]) (L1 ++ [.ins c []]) (upd (upd H1 dx (.own x)) x (.ins C0 dx [])) := hsD.push hx2 NT.ins ⟨f0, C0, dx, [], cd.at_, upd_same, rfl, .nil⟩
      have pf : φ1 <+: φ1 ++ [x] := List.prefix_append _ _
      have hat : (φ1 ++ [x])[L1.length]? = some x := by rw [← hs1.len, List.getElem?_append_right (Nat.le_refl _)]; simp
      refine ⟨Z, F1, φ1 ++ [x], L1 ++ [.ins c []], .ob L1.length :: ws, .non, L2, hsN, by rw [List.append_nil]; exact .cons (.ob hat) (Rs.mono (Sub.refl F1) pf r1), by rw [List.length_cons]; exact hn _ _ _ _ e1, e2, fun Z' F' φ' H' v s3 p3 z hs3 r3 => ?_⟩
      cases r3
      exact ⟨rfl, q F' φ' H' (.ref x) (s1.trans s3) (List.IsPrefix.trans p1 (List.IsPrefix.trans pf p3)) (hs3.weak z) (.ob (pre_get p3 hat))⟩
    · cases h
theorem xlen_nil : ∀ (ρ : Ro) (L : Lg) (ws : List W) (L' : Lg), cXNil ρ L = some (some ws, L') → ws.length = 0 := fun ρ L ws L' h => by
  simp only [cXNil, Option.some.injEq, Prod.mk.injEq] at h
  rw [← h.1]; rfl
theorem xlen_cons {f : XF} {g : XAF} {n : Nat} (hg : ∀ ρ L ws L', g ρ L = some (some ws, L') → ws.length = n) : ∀ (ρ : Ro) (L : Lg) (ws : List W) (L' : Lg), cXCons f g ρ L = some (some ws, L') → ws.length = n + 1 := fun ρ L ws L' h => by
  unfold cXCons at h
  split at h
  · rename_i w L1 e1
    split at h
    · rename_i ws' L2 e2
      simp only [Option.some.injEq, Prod.mk.injEq] at h
      rw [← h.1, List.length_cons, hg _ _ _ _ e2]
    · simp at h
    · cases h
  · simp at h
  · cases h
theorem xlen_add1 {g : XAF} {n : Nat} (hg : ∀ ρ L ws L', g ρ L = some (some ws, L') → ws.length = n) : ∀ (ρ : Ro) (L : Lg) (ws : List W) (L' : Lg), g ρ L = some (some ws, L') → ws.length + 1 = n + 1 := fun ρ L ws L' h => by rw [hg _ _ _ _ h]
end
/-! ### statements that may raise -/
inductive OX where
  | ok (o : Out) | ex (L : Lg)
abbrev SX := Ro → Lg → Option OX
def EndX (X : Cx) (Zx F : Hp) (φ : List Addr) (D : Ends) (E : Hp → Prop) : OX → Prop
  | .ok o => EndOk X Zx F φ D o
  | .ex L' => ∀ (Z' F' : Hp) (φ' : List Addr) (H' : Hp), Sub F F' → φ <+: φ' → Sub Zx Z' → Hs X.K X.mg Z' F' φ' L' H' → E H'
theorem EndX.step {X : Cx} {Zx F F1 : Hp} {φ φ1 : List Addr} {D : Ends} {E : Hp → Prop} {o : OX} (s : Sub F F1) (p : φ <+: φ1) (h : EndX X Zx F φ D E o) : EndX X Zx F1 φ1 D E o := by
  cases o with
  | ok o => exact EndOk.step s p h
  | ex L => exact fun Z' F' φ' H' s' p' z hs => h Z' F' φ' H' (s.trans s') (List.IsPrefix.trans p p') z hs
structure ISX (X : Cx) (C : Addr) (E : XK) (st : Stmt) (f : SX) : Prop where
  run : ∀ {Zx Z F : Hp} {φ : List Addr} {L : Lg} {ρ : Ro} {σ : L2.St} {H : Hp} {o : OX}, Hs X.K X.mg Z F φ L H → Ss X.K Zx Z F φ ρ σ → f ρ L = some o → ∀ D : Ends, EndX X Zx F φ D (E (.ref C) none) o → WpS X st D σ H
structure ISsX (X : Cx) (C : Addr) (E : XK) (st : List Stmt) (f : SX) : Prop where
  run : ∀ {Zx Z F : Hp} {φ : List Addr} {L : Lg} {ρ : Ro} {σ : L2.St} {H : Hp} {o : OX}, Hs X.K X.mg Z F φ L H → Ss X.K Zx Z F φ ρ σ → f ρ L = some o → ∀ D : Ends, EndX X Zx F φ D (E (.ref C) none) o → WpSs X st D σ H
section
variable {X : Cx} {C : Addr} {E : XK} {st : Stmt} {rest : List Stmt} {e a b : Expr} {es : List Expr} {pos : Pos}
def sOk (f : SF) : SX := fun ρ L => match f ρ L with
  | some o => some (.ok o)
  | none => none
theorem IS.isx {f : SF} (h : IS X st f) : ISX X C E st (sOk f) := by
  refine ⟨fun {Zx Z F φ L ρ σ H o} hs ss h' D q => ?_⟩
  unfold sOk at h'
  split at h'
  · rename_i o1 e1
    simp only [Option.some.injEq] at h'
    subst h'
    exact h.run hs ss e1 D q
  · cases h'
def xSeq (f g : SX) : SX := fun ρ L => match f ρ L with
  | some (.ok (.nx ρ1 L1)) => g ρ1 L1
  | o => o
def xNx : SX := fun ρ L => some (.ok (.nx ρ L))
theorem issx_nil : ISsX X C E [] xNx := by
  refine ⟨fun {Zx Z F φ L ρ σ H o} hs ss h D q => PSs.wp pss_nil ?_⟩
  simp only [xNx, Option.some.injEq] at h
  subst h
  exact q Z F φ σ H (Sub.refl F) (List.prefix_refl φ) hs ss
theorem issx_cons {f g : SX} (h1 : ISX X C E st f) (h2 : ISsX X C E rest g) : ISsX X C E (st :: rest) (xSeq f g) := by
  refine ⟨fun {Zx Z F φ L ρ σ H o} hs ss h D q => PSs.wp (pss_cons wpS wpSs) ?_⟩
  unfold xSeq at h
  cases e1 : f ρ L with
  | none => rw [e1] at h; cases h
  | some o1 =>
    rw [e1] at h
    refine h1.run hs ss e1 { D with nx := WpSs X rest D } ?_
    cases o1 with
    | ok o1 =>
      cases o1 with
      | nx ρ1 L1 => exact fun Z1 F1 φ1 σ1 H1 s1 p1 hs1 ss1 => h2.run hs1 ss1 h D (q.step s1 p1)
      | bk ρ1 L1 => cases h; exact q
      | ct ρ1 L1 => cases h; exact q
      | rt w L1 => cases h; exact q
    | ex L1 => cases h; exact q
theorem issx_one {f : SX} (h1 : ISX X C E st f) : ISsX X C E [st] f := ⟨fun hs ss h D q => PSs.wp (pss_one wpS) (h1.run hs ss h D q)⟩
def xIf (t : TF) (f g : SX) : SX := fun ρ L => match t ρ L with
  | none => none
  | some (true, L') => f ρ L'
  | some (false, L') => g ρ L'
theorem isx_if {c : Expr} {x y : List Stmt} {t : TF} {f g : SX} (hc : IT X c t) (ha : ISsX X C E x f) (hb : ISsX X C E y g) : ISX X C E (.If c x y pos) (xIf t f g) := by
  refine ⟨fun {Zx Z F φ L ρ σ H o} hs ss h D q => PS.wp (ps_if wpT wpSs wpSs) ?_⟩
  unfold xIf at h
  split at h
  · cases h
  · rename_i L1 e1
    refine hc.run hs ss e1 _ fun F1 φ1 H1 s1 p1 hs1 => ?_
    rw [if_pos rfl]
    exact ha.run hs1 (ss.mono s1 p1) h D (q.step s1 p1)
  · rename_i L1 e1
    refine hc.run hs ss e1 _ fun F1 φ1 H1 s1 p1 hs1 => ?_
    rw [if_neg (by decide)]
    exact hb.run hs1 (ss.mono s1 p1) h D (q.step s1 p1)
def xRet (f : XF) : SX := fun ρ L => match f ρ L with
  | none => none
  | some (some w, L') => some (.ok (.rt w L'))
  | some (none, L') => some (.ex L')
theorem isx_ret {f : XF} (he : IEX X C E e f) : ISX X C E (.Return (some e) pos) (xRet f) := by
  refine ⟨fun {Zx Z F φ L ρ σ H o} hs ss h D q => PS.wp (ps_ret wpE) ?_⟩
  unfold xRet at h
  split at h
  · cases h
  · rename_i w L1 e1
    simp only [Option.some.injEq] at h
    subst h
    refine he.run hs ss e1 _ ?_
    exact fun F1 φ1 H1 v s1 p1 hs1 r1 => q Z F1 φ1 H1 v s1 p1 ss.out hs1 r1
  · rename_i L1 e1
    simp only [Option.some.injEq] at h
    subst h
    exact he.run hs ss e1 _ q
def xRaise : SX := fun _ L => some (.ex L)
/-- what the head says of an exception's class -/
structure ExD (K : PySem.W.Frag) (mg : Str → Option Value) (c : Str) (C : Addr) : Prop where
  at_ : mg c = some (.ref C)
  xc : PySem.W.excIn K C [.type "ValueError", .type "Exception", .type "BaseException", .type "object"] "ValueError.__new__" = true
  kp : PySem.W.keepIn K (.ref C) = true
  sb : PySem.W.subIn K (.ref C) (.type "BaseException") = some true
  ty : PySem.W.typeIn K (.ref C) = some (.type "type")
theorem isx_raise {c m : Str} {j : Nat} {p p2 p3 : Pos} (D : ExD X.K X.mg c C) (hc : X.calm = true) (tk : Takes X (wE E)) (hg : Gl X c) (hdb : (c == ("__debug__" : Str)) = false := by decide) :
    ISX X C E (.Raise (some (.Call (.Name c p) [.Constant (.str m) j p2] [] p3)) none pos) xRaise := by
  refine ⟨fun {Zx Z F φ L ρ σ H o} hs ss h D' q => PS.wp (ps_raise hc tk (pmk_own PySem.F.excBase_ValueError D.xc D.at_ D.kp (raises_own D.sb D.ty) hg hdb)) ?_⟩
  simp only [xRaise, Option.some.injEq] at h
  subst h
  exact q Z F φ H (Sub.refl F) (List.prefix_refl φ) ss.out hs
/-! loops -/
def forLoopX (g : GF) (body : SX) : List W → Ro → Lg → Option OX
  | [], ρ, L => some (.ok (.nx ρ L))
  | x :: xs, ρ, L => match g x ρ with
    | none => none
    | some ρ1 => match body ρ1 L with
      | none => none
      | some (.ok (.nx ρ2 L2)) => forLoopX g body xs ρ2 L2
      | some (.ok (.ct ρ2 L2)) => forLoopX g body xs ρ2 L2
      | some (.ok (.bk ρ2 L2)) => some (.ok (.nx ρ2 L2))
      | some (.ok (.rt w L2)) => some (.ok (.rt w L2))
      | some (.ex L2) => some (.ex L2)
def xFor (src : AF) (g : GF) (body : SX) : SX := fun ρ L => match src ρ L with
  | none => none
  | some (xs, L1) => forLoopX g body xs ρ L1
theorem isx_for {tg iter : Expr} {bd : List Stmt} {src : AF} {g : GF} {body : SX} {ix : List Nat} (hp : PassesOwn (model X.prog X.w) X.A X.env X.xe) (hc : X.calm = true) (hi : II X tg iter src) (hg : IG X tg ix g) (hb : ISsX X C E bd body)
    (hs' : ∀ x, foldedSetIterable iter X.env x = pure x := by intro _; rfl) : ISX X C E (.For tg iter bd [] pos) (xFor src g body) := by
  refine ⟨fun {Zx Z F φ L ρ σ H o} hs ss h D q => PS.wp (ps_for hp hc wpI wpG wpSs hs') ?_⟩
  unfold xFor at h
  split at h
  · cases h
  rename_i xs L1 e1
  refine hi.run hs ss e1 _ fun F1 φ1 H1 J s1 p1 hs1 itok => ?_
  refine ⟨fun i mm σ' H' => mm = xs.length - i ∧ i ≤ xs.length ∧ ∃ (Z2 F2 : Hp) (φ2 : List Addr) (ρ2 : Ro) (L2 : Lg), Sub F1 F2 ∧ φ1 <+: φ2 ∧ Hs X.K X.mg Z2 F2 φ2 L2 H' ∧ Ss X.K Zx Z2 F2 φ2 ρ2 σ' ∧ forLoopX g body (xs.drop i) ρ2 L2 = some o,
    ⟨xs.length, rfl, Nat.zero_le _, Z, F1, φ1, ρ, L1, Sub.refl F1, List.prefix_refl φ1, hs1, ss.mono s1 p1, by simpa using h⟩, ?_⟩
  rintro i mm σ' H' ⟨rfl, hi', Z2, F2, φ2, ρ2, L2, s2, p2, hs2, ss2, e2⟩
  obtain ⟨it1, it2⟩ := itok i s2 p2 hs2
  by_cases hlt : i < xs.length
  · obtain ⟨go, yl⟩ := it1 _ (List.getElem?_eq_getElem hlt)
    refine .inr ⟨go, fun σ' H' => ∃ (Z2 F2 : Hp) (φ2 : List Addr) (ρ2 : Ro) (L2 : Lg), Sub F1 F2 ∧ φ1 <+: φ2 ∧ Hs X.K X.mg Z2 F2 φ2 L2 H' ∧ Ss X.K Zx Z2 F2 φ2 ρ2 σ' ∧ forLoopX g body (xs.drop (i + 1)) ρ2 L2 = some o,
      fun σ' H' n => ⟨xs.length - (i + 1), by omega, rfl, hlt, n⟩, fun v H3 y => ?_⟩
    obtain ⟨F3, s3, hs3, r3⟩ := yl v H3 y
    rw [List.drop_eq_getElem_cons hlt] at e2
    unfold forLoopX at e2
    split at e2
    · cases e2
    rename_i ρ3 g1
    refine hg.run hs3 (ss2.mono s3 (List.prefix_refl φ2)) r3 g1 _ fun σ4 ss4 _ => ?_
    have s13 := s2.trans s3
    cases e5 : body ρ3 L2 with
    | none => rw [e5] at e2; cases e2
    | some o1 =>
      rw [e5] at e2
      refine hb.run hs3 ss4 e5 _ ?_
      cases o1 with
      | ok o1 =>
        cases o1 with
        | nx ρ5 L5 => exact fun Z5 F5 φ5 σ5 H5 s5 p5 hs5 ss5 => ⟨Z5, F5, φ5, ρ5, L5, s13.trans s5, List.IsPrefix.trans p2 p5, hs5, ss5, e2⟩
        | ct ρ5 L5 => exact fun Z5 F5 φ5 σ5 H5 s5 p5 hs5 ss5 => ⟨Z5, F5, φ5, ρ5, L5, s13.trans s5, List.IsPrefix.trans p2 p5, hs5, ss5, e2⟩
        | bk ρ5 L5 =>
          cases e2
          exact fun Z5 F5 φ5 σ5 H5 s5 p5 hs5 ss5 => q Z5 F5 φ5 σ5 H5 (s1.trans (s13.trans s5)) (List.IsPrefix.trans p1 (List.IsPrefix.trans p2 p5)) hs5 ss5
        | rt w L5 =>
          cases e2
          exact fun Z5 F5 φ5 H5 v5 s5 p5 z hs5 r5 => q Z5 F5 φ5 H5 v5 (s1.trans (s13.trans s5)) (List.IsPrefix.trans p1 (List.IsPrefix.trans p2 p5)) z hs5 r5
      | ex L5 =>
        cases e2
        exact fun Z5 F5 φ5 H5 s5 p5 z hs5 => q Z5 F5 φ5 H5 (s1.trans (s13.trans s5)) (List.IsPrefix.trans p1 (List.IsPrefix.trans p2 p5)) z hs5
  · have ei : i = xs.length := by omega
    subst ei
    refine .inl ⟨it2 (Nat.le_refl _), ?_⟩
    rw [List.drop_length] at e2
    simp only [forLoopX, Option.some.injEq] at e2
    subst e2
    exact q Z2 F2 φ2 σ' H' (s1.trans s2) (List.IsPrefix.trans p1 p2) hs2 ss2
end
def runDefX (N : Nat) (body : SX) : DX := fun ws L => match body (ws.map Sl.va ++ List.replicate (N - ws.length) .un) L with
  | some (.ok (.nx _ L')) => some (some .non, L')
  | some (.ok (.rt w L')) => some (some w, L')
  | some (.ex L') => some (none, L')
  | _ => none
section
variable {P : Program} {w : World} {K : PySem.W.Frag} {mg : Str → Option Value} {base : Heap}
theorem fn_okX {x qual : Str} {st : Stmt} {f C : Addr} {fd : FuncData} {N ps : List Str} {k : Nat} {body : SX} (F : FunD K x qual (defArgs st) (defBody st) (defScope st) [] [] f fd) (S : FnScope N ps (defScope st))
    (hb : ∀ (cdv : Value) (A : Around) (outer : List Env) (s : Shared) (H : Hp) (E : XK), Room k (A.deeper (envOfC qual (defScope st) s.heap.objs.size f cdv)) → ISsX (cxOf (L2.CX P w) P w K mg base N qual (defScope st) f cdv A outer s H E) C E (defBody st) body) :
    FnOk P w K mg base (L2.CX P w) (k + 1) f fd ps (spX K mg C ps.length (runDefX N.length body)) := by
  refine F.ok S (fun vs H Q E h => ?_) (fun cdv A outer s H vs Q E hr h => ?_)
  · obtain ⟨Z, F, φ, L, ws, w, h1, h2, h3, _⟩ := h
    rw [← h2.length]; exact h3
  · obtain ⟨Z, F1, φ, L, ws, r, h1, h2, h3, h4, q⟩ := h
    refine ⟨_, wpSs, ?_⟩
    unfold runDefX at h4
    split at h4
    · rename_i ρ1 L1 e1
      simp only [Option.some.injEq] at h4
      subst h4
      exact (hb cdv A outer s H E hr).run h1 (Ss.start h2) e1 _ fun Z' F' φ' σ' H' s1 p1 hs1 ss1 => q Z' F' φ' H' .non s1 p1 ss1.out hs1 .non
    · rename_i w2 L1 e1
      simp only [Option.some.injEq] at h4
      subst h4
      exact (hb cdv A outer s H E hr).run h1 (Ss.start h2) e1 _ fun Z' F' φ' H' v s1 p1 z hs1 r1 => q Z' F' φ' H' v s1 p1 z hs1 r1
    · rename_i L1 e1
      simp only [Option.some.injEq] at h4
      subst h4
      exact (hb cdv A outer s H E hr).run h1 (Ss.start h2) e1 _ fun Z' F' φ' H' s1 p1 z hs1 => q Z' F' φ' H' s1 p1 z hs1
    · cases h4
end
end Lf

set_option maxHeartbeats 4000000
/-! Lf, part AP: try: x = f(y) except C as n: a suite that returns. -/
namespace Lf
open PySem PySem.Spec PyProof.Rows L2
theorem Ss.upZ {K : PySem.W.Frag} {Zx Z Z' F : Hp} {φ : List Addr} {ρ : Ro} {σ : L2.St} (h : Ss K Zx Z F φ ρ σ) (s : Sub Z Z') : Ss K Zx Z' F φ ρ σ :=
  ⟨h.len, h.va, fun i m e => let ⟨a, o, h1, h2, h3, h4⟩ := h.ow i m e; ⟨a, o, h1, s _ _ h2, h3, h4⟩, h.sep, h.out.trans s⟩
theorem Ss.setun {K : PySem.W.Frag} {Zx Z F : Hp} {φ : List Addr} {ρ : Ro} {σ : L2.St} {i : Nat} {v : Option V} (h : Ss K Zx Z F φ ρ σ) (e : ρ[i]? = some .un) : Ss K Zx Z F φ ρ (σ.set i v) := by
  have ne : ∀ {j : Nat} {x : Sl}, ρ[j]? = some x → x ≠ .un → i ≠ j := fun {j x} e1 hx z => by
    subst z
    rw [e] at e1
    exact hx (Option.some.inj e1).symm
  refine ⟨by rw [h.len, List.length_set], fun j w e1 => ?_, fun j m e1 => ?_, fun j k m m' a e1 e2 e3 e4 => ?_, h.out⟩
  · obtain ⟨v, h1, h2⟩ := h.va j w e1
    exact ⟨v, by rw [List.getElem?_set_ne (ne e1 (fun z => by cases z))]; exact h1, h2⟩
  · obtain ⟨a, o, h1, h2, h3, h4⟩ := h.ow j m e1
    exact ⟨a, o, by rw [List.getElem?_set_ne (ne e1 (fun z => by cases z))]; exact h1, h2, h3, h4⟩
  · rw [List.getElem?_set_ne (ne e1 (fun z => by cases z))] at e3
    rw [List.getElem?_set_ne (ne e2 (fun z => by cases z))] at e4
    exact h.sep j k m m' a e1 e2 e3 e4
/-! ### in the suite: the exception stands in slot i -/
structure JE (X : Cx) (i : Nat) (x : Addr) (e : Expr) (f : EF) : Prop where
  run : ∀ {Zx Z F : Hp} {φ : List Addr} {L : Lg} {ρ : Ro} {σ : L2.St} {H : Hp} {w : W} {L' : Lg}, Hs X.K X.mg Z F φ L H → Ss X.K Zx Z F φ ρ σ → σ[i]? = some (some (.ref x)) → f ρ L = some (w, L') →
    ∀ Q : VK, (∀ (F' : Hp) (φ' : List Addr) (H' : Hp) (v : V), Sub F F' → φ <+: φ' → Hs X.K X.mg Z F' φ' L' H' → R X.K F' φ' w v → Q v H') → Wp X e σ H Q
structure JR (X : Cx) (i : Nat) (x : Addr) (sts : List Stmt) (f : EF) : Prop where
  run : ∀ {Zx Z F : Hp} {φ : List Addr} {L : Lg} {ρ : Ro} {σ : L2.St} {H : Hp} {w : W} {L' : Lg}, Hs X.K X.mg Z F φ L H → Ss X.K Zx Z F φ ρ σ → σ[i]? = some (some (.ref x)) → f ρ L = some (w, L') →
    ∀ D : Ends, EndOk X Zx F φ D (.rt w L') → WpSs X sts D σ H
section
variable {X : Cx} {i : Nat} {x : Addr} {e a b : Expr} {es : List Expr} {pos : Pos}
theorem je_of {f : EF} (h : IE X e f) : JE X i x e f := ⟨fun hs ss _ h' Q q => h.run hs ss h' Q q⟩
theorem je_not {f : EF} (ha : JE X i x a f) : JE X i x (.UnaryOp .Not a pos) (cNotV f) := by
  refine ⟨fun {Zx Z F φ L ρ σ H w L'} hs ss hx h Q q => PE.wp (pe_not wpE) ?_⟩
  unfold cNotV at h
  split at h
  · rename_i k L1 e1
    simp only [Option.some.injEq, Prod.mk.injEq] at h
    obtain ⟨rfl, rfl⟩ := h
    refine ha.run hs ss hx e1 _ fun F' φ' H' v s1 p1 hs1 r1 => ?_
    cases r1
    exact ⟨k, rfl, q F' φ' H' _ s1 p1 hs1 (.bl _)⟩
  · cases h
theorem je_one {op} {f : EF} (ha : JE X i x a f) : JE X i x (.BoolOp op [a] pos) f := ⟨fun hs ss hx h Q q => PE.wp (pe_one wpE) (ha.run hs ss hx h Q q)⟩
theorem je_and {f g : EF} (ha : JE X i x a f) (hb : JE X i x (.BoolOp .And (b :: es) pos) g) : JE X i x (.BoolOp .And (a :: b :: es) pos) (cAndV f g) := by
  refine ⟨fun {Zx Z F φ L ρ σ H w L'} hs ss hx h Q q => PE.wp (pe_and wpE wpE) ?_⟩
  unfold cAndV at h
  split at h
  · rename_i L1 e1
    refine ha.run hs ss hx e1 _ fun F1 φ1 H1 v s1 p1 hs1 r1 => ?_
    cases r1
    refine ⟨true, rfl, ?_⟩
    rw [if_pos rfl]
    exact hb.run hs1 (ss.mono s1 p1) hx h Q fun F2 φ2 H2 v s2 p2 hs2 => q F2 φ2 H2 v (s1.trans s2) (List.IsPrefix.trans p1 p2) hs2
  · rename_i L1 e1
    simp only [Option.some.injEq, Prod.mk.injEq] at h
    obtain ⟨rfl, rfl⟩ := h
    refine ha.run hs ss hx e1 _ fun F1 φ1 H1 v s1 p1 hs1 r1 => ?_
    cases r1
    refine ⟨false, rfl, ?_⟩
    rw [if_neg (by decide)]
    exact q F1 φ1 H1 _ s1 p1 hs1 (.bl _)
  · cases h
theorem je_or {f g : EF} (ha : JE X i x a f) (hb : JE X i x (.BoolOp .Or (b :: es) pos) g) : JE X i x (.BoolOp .Or (a :: b :: es) pos) (cOrV f g) := by
  refine ⟨fun {Zx Z F φ L ρ σ H w L'} hs ss hx h Q q => PE.wp (pe_or wpE wpE) ?_⟩
  unfold cOrV at h
  split at h
  · rename_i L1 e1
    simp only [Option.some.injEq, Prod.mk.injEq] at h
    obtain ⟨rfl, rfl⟩ := h
    refine ha.run hs ss hx e1 _ fun F1 φ1 H1 v s1 p1 hs1 r1 => ?_
    cases r1
    refine ⟨true, rfl, ?_⟩
    rw [if_pos rfl]
    exact q F1 φ1 H1 _ s1 p1 hs1 (.bl _)
  · rename_i L1 e1
    refine ha.run hs ss hx e1 _ fun F1 φ1 H1 v s1 p1 hs1 r1 => ?_
    cases r1
    refine ⟨false, rfl, ?_⟩
    rw [if_neg (by decide)]
    exact hb.run hs1 (ss.mono s1 p1) hx h Q fun F2 φ2 H2 v s2 p2 hs2 => q F2 φ2 H2 v (s1.trans s2) (List.IsPrefix.trans p1 p2) hs2
  · cases h
def cSuite (f1 : EF) (j : Nat) (f2 : EF) : EF := fun ρ L => match f1 ρ L with
  | some (w, L1) => if j < ρ.length then f2 (ρ.set j (.va w)) L1 else none
  | none => none
theorem jr_two {f1 f2 : EF} {j : Nat} {y : Str} {e1 e2 : Expr} {py p1 p2 : Pos} (ne : i ≠ j) (hN : X.N.Nodup) (hi : X.N[j]? = some y) (hy : Loc X.env.scope y) (h1 : JE X i x e1 f1) (h2 : JE X i x e2 f2) (hs' : swapsWith e1 (some (.Name y py)) p1.line X.env = pure false := by rfl)
    (hf : X.fn y = true ∨ X.env.scope.names.lookup y = some .local := by first | exact .inl rfl | exact .inr rfl | assumption) : JR X i x [.Assign [.Name y py] e1 p1, .Return (some e2) p2] (cSuite f1 j f2) := by
  refine ⟨fun {Zx Z F φ L ρ σ H w L'} hs ss hx h D q => PSs.wp (pss_cons (ps_set hN hi hy wpE hs' hf) (pss_one (ps_ret wpE))) ?_⟩
  unfold cSuite at h
  split at h
  · rename_i w1 L1 k1
    split at h
    · rename_i hj
      refine h1.run hs ss hx k1 _ fun F1 φ1 H1 v s1 p1 hs1 r1 => ?_
      refine h2.run hs1 ((ss.mono s1 p1).setva hj r1) (by rw [List.getElem?_set_ne (Ne.symm ne)]; exact hx) h _ fun F2 φ2 H2 v2 s2 p2 hs2 r2 => ?_
      exact q Z F2 φ2 H2 v2 (s1.trans s2) (List.IsPrefix.trans p1 p2) ss.out hs2 r2
    · cases h
  · cases h
end
section
variable {X : Cx} {a D : Addr} {oe : Obj} {pn : List (Addr × Obj)} {pos : Pos}
/-- isinstance(n, c), c a class of the program's own -/
theorem je_isO {i : Nat} {n c : Str} {C : Addr} {b : Bool} {p p1 p2 : Pos} (Cx_ : ExcC X.K D) (hz : Zc (.ref D) none oe) (hf : ∃ vs, oe.data = .fields vs) (hg : Gl X "isinstance") (hm : X.mg "isinstance" = none) (hN : X.N[i]? = some n) (hv : Vis X.env.scope n) (hgc : Gl X c) (hc : X.mg c = some (.ref C)) (k : PySem.W.kitOne X.K (.ref D) (.ref C) = some b)
    (hd : (n == ("__debug__" : Str)) = false := by decide) (hcd : (n == ("__classdict__" : Str)) = false := by decide) (hdc : (c == ("__debug__" : Str)) = false := by decide) :
    JE (X.suite a ((a, oe) :: pn)) i a (.Call (.Name "isinstance" p) [.Name n p1, .Name c p2] [] pos) (cK (.bl b)) := by
  refine ⟨fun {Zx Z F φ L ρ σ H w L'} hs ss hx h Q q => PE.wp (pe_callB (X := X.suite a ((a, oe) :: pn)) (call_isE Cx_ hz hf) hg hm (by decide +kernel) (pa_cons (pe_var (i := i) hN hv hd hcd) (pa_cons (pe_glob (v := .ref C) hgc hc rfl hdc) pa_nil))) ?_⟩
  simp only [cK, Option.some.injEq, Prod.mk.injEq] at h
  obtain ⟨rfl, rfl⟩ := h
  exact ⟨_, hx, .ref C, .ref C, b, rfl, fun u hu => hu, k, q F φ H _ (Sub.refl F) (List.prefix_refl φ) hs (.bl b)⟩
/-- isinstance(n, T), T a built-in class -/
theorem je_isT {i : Nat} {n c : Str} {T : String} {b : Bool} {p p1 p2 : Pos} (Cx_ : ExcC X.K D) (hz : Zc (.ref D) none oe) (hf : ∃ vs, oe.data = .fields vs) (hg : Gl X "isinstance") (hm : X.mg "isinstance" = none) (hN : X.N[i]? = some n) (hv : Vis X.env.scope n) (hgc : Gl X c) (hc : X.mg c = none) (hb : bootBuiltins c = some (.type T)) (k : PySem.W.kitOne X.K (.ref D) (.type T) = some b)
    (hd : (n == ("__debug__" : Str)) = false := by decide) (hcd : (n == ("__classdict__" : Str)) = false := by decide) (hdc : (c == ("__debug__" : Str)) = false := by decide) (hnn : c ≠ "__name__" := by decide) :
    JE (X.suite a ((a, oe) :: pn)) i a (.Call (.Name "isinstance" p) [.Name n p1, .Name c p2] [] pos) (cK (.bl b)) := by
  refine ⟨fun {Zx Z F φ L ρ σ H w L'} hs ss hx h Q q => PE.wp (pe_callB (X := X.suite a ((a, oe) :: pn)) (call_isE Cx_ hz hf) hg hm (by decide +kernel) (pa_cons (pe_var (i := i) hN hv hd hcd) (pa_cons (pe_bltn (v := .ty T) hgc hc hb rfl hnn hdc) pa_nil))) ?_⟩
  simp only [cK, Option.some.injEq, Prod.mk.injEq] at h
  obtain ⟨rfl, rfl⟩ := h
  exact ⟨_, hx, .ty T, .type T, b, rfl, fun u hu => hu, k, q F φ H _ (Sub.refl F) (List.prefix_refl φ) hs (.bl b)⟩
end
/-! ### try -/
def cTry (d : DX) (y j i : Nat) (fs : EF) : SF := fun ρ L => match ρ[y]?, ρ[i]? with
  | some (.va w), some .un => (match d [w] L with
    | some (some v, L') => if j < ρ.length then some (.nx (ρ.set j (.va v)) L') else none
    | some (none, L') => (match fs ρ L' with
      | some (v, L2) => some (.rt v L2)
      | none => none)
    | none => none)
  | _, _ => none
section
variable {X : Cx}
theorem is_try {x n fn xj xy : Str} {c : Value} {C : Addr} {i j y k k' : Nat} {ps : List Str} {d : DX} {b0 : Stmt} {suite : List Stmt} {fs : EF} {np pos pos' pf pc py pj pa : Pos}
    (hst : X.stack = X.env :: X.outer) (hf : X.env.frame = some X.env.locals) (hN : X.N.Nodup) (hi : X.N[i]? = some n) (hln : X.env.kindOf n = some .local) (hc : Names X x c) (tk0 : Takes X fun _ _ _ _ => False)
    (G : DefX X.prog X.w X.K X.mg X.base k fn C ps d) (hp : ps.length = 1) (hr : Room k' X.A) (hkk : k ≤ k') (hgf : Gl X fn) (hdf : (fn == ("__debug__" : Str)) = false)
    (hy : X.N[y]? = some xy) (hvy : Vis X.env.scope xy) (hdy : (xy == ("__debug__" : Str)) = false) (hcy : (xy == ("__classdict__" : Str)) = false)
    (hj : X.N[j]? = some xj) (hlj : Loc X.env.scope xj) (hfj : X.fn xj = true ∨ X.env.scope.names.lookup xj = some .local)
    (hsw : ∀ env : Env, env = X.env → swapsWith (.Call (.Name fn pf) [.Name xy py] [] pc) (some (.Name xj pj)) pa.line env = pure false)
    (hex : PySem.W.exmOne X.K (.ref C) c = some true)
    (hsu : ∀ (a : Addr) (oe : Obj) (pn : List (Addr × Obj)), Zc (.ref C) none oe → (∃ vs, oe.data = .fields vs) → JR (X.suite a ((a, oe) :: pn)) i a (b0 :: suite) fs) :
    IS X (.Try [.Assign [.Name xj pj] (.Call (.Name fn pf) [.Name xy py] [] pc) pa] [.ExceptHandler (some (.Name x np)) (some n) (b0 :: suite) pos'] [] [] pos) (cTry d y j i fs) := by
  obtain ⟨f, fd, F0, hm, hk, hb⟩ := G.ex
  refine ⟨fun {Zx Z F φ L ρ σ H o} hs ss h D q => PS.wp (ps_try_as (tb := fun W => tAsg (tCallS (spX X.K X.mg C ps.length d) (WE W) (tCons (tVar y) tNil)) (gName j))
    (ts := fun a cls dd D σ H => ∀ (oe : Obj) (pn : List (Addr × Obj)), Zc cls dd oe → (∃ vs, oe.data = .fields vs) → WpSs (X.suite a ((a, oe) :: pn)) (b0 :: suite) D σ H) (Wout := fun _ _ _ _ => False) hst hf hN hi hln hc tk0
    (fun W pn xe tk _ => pss_one (ps_set (X := X.tr pn xe) hN hj hlj (pe_callS (X := X.tr pn xe) (E := WE W) F0 (hr.mono hkk) hgf hm hk hb (fun σ => passAt tk σ) (pa_cons (pe_var (i := y) hy hvy hdy hcy) pa_nil) hdf) (hsw _ rfl) hfj))
    (fun a oe cls dd pn hz hv => ⟨fun pins s σ H D I t => wpSs.run pins s σ H D I (t oe pn hz hv)⟩)) ?_⟩
  unfold cTry at h
  split at h
  · rename_i w k1 k2
    obtain ⟨v, hv, rv⟩ := ss.va y w k1
    have key : ∀ r, d [w] L = some r → ReOk X.K X.mg Z F φ (fun v H1 => D.nx (σ.set j (some v)) H1) (wAs X.K c i (fun a cls dd D σ H => ∀ (oe : Obj) (pn : List (Addr × Obj)), Zc cls dd oe → (∃ vs, oe.data = .fields vs) → WpSs (X.suite a ((a, oe) :: pn)) (b0 :: suite) D σ H) (fun _ _ _ _ => False) D (.ref C) none σ) r →
        tAsg (tCallS (spX X.K X.mg C ps.length d) (WE (wAs X.K c i (fun a cls dd D σ H => ∀ (oe : Obj) (pn : List (Addr × Obj)), Zc cls dd oe → (∃ vs, oe.data = .fields vs) → WpSs (X.suite a ((a, oe) :: pn)) (b0 :: suite) D σ H) (fun _ _ _ _ => False) D)) (tCons (tVar y) tNil)) (gName j) D σ H := fun r e1 ok =>
      ⟨v, hv, Z, F, φ, L, [w], r, hs, Rs.one rv, by rw [hp]; rfl, e1, ok⟩
    cases e1 : d [w] L with
    | none => rw [e1] at h; cases h
    | some r =>
      rw [e1] at h
      refine key r e1 ?_
      obtain ⟨rw_, L'⟩ := r
      cases rw_ with
      | some w2 =>
        simp only at h
        split at h
        · rename_i hjl
          simp only [Option.some.injEq] at h
          subst h
          exact fun Z' F' φ' H' v2 s1 p1 z hs1 r1 => q Z F' φ' _ H' s1 p1 (hs1.weak z) ((ss.mono s1 p1).setva hjl r1)
        · cases h
      | none =>
        simp only at h
        split at h
        · rename_i v2 L2 e2
          simp only [Option.some.injEq] at h
          subst h
          intro Z' F' φ' H' s1 p1 z hs1
          refine ⟨true, hex, fun _ a0 ha => ?_, fun z => nomatch z⟩
          intro oe pn hz hvv
          have hil : i < σ.length := by
            rw [← ss.len]; exact (List.getElem?_eq_some_iff.mp k2).1
          refine (hsu a0 oe pn hz hvv).run (Zx := Zx) hs1 (((ss.mono s1 p1).upZ z).setun k2) (by rw [List.getElem?_set_self hil]) e2 _ ?_
          exact EndOk.step s1 p1 q
        · cases h
  · cases h
end
end Lf

set_option maxHeartbeats 4000000
/-! Lf, part AQ: s.find(t), ord(c), what the head says of exceptions. -/
namespace Lf
open PySem PySem.Spec PyProof.Rows L2
section
variable {X : Cx} {o e a : Expr} {pos : Pos}
theorem ie_find {fs ft : EF} {apos : Pos} (h1 : IE X o fs) (h2 : IE X e ft) (hs0 : starEach [e] X.env = [(false, eval e X.env)] := by rfl) (hbase : attributeBase o "find" X.env (eval o X.env) = eval o X.env := by rfl) (hline : (apos.endLine == pos.line) = true := by rfl) :
    IE X (.Call (.Attribute o "find" apos) [e] [] pos) (cS1 (fun s t => .int (Txt.find s t)) fs ft) :=
  ie_s1 F.slot_str_find F.type_str_find mt_find (fun _ _ => .int _) h1 h2 hs0 hbase hline
def ordW : List W → Option W
  | [.str s] => (match s.cps.toList with
    | [c] => some (.int c)
    | _ => none)
  | _ => none
@[simp] theorem ordW_s (c : Nat) : ordW [.str (mk [c])] = some (.int c) := id rfl
theorem ie_ord {f : AF} {p : Pos} (hg : Gl X "ord") (hm : X.mg "ord" = none) (ha : IA X [a] f) (he : starEach [a] X.env = (false, eval a X.env) :: starEach [] X.env := by rfl) : IE X (.Call (.Name "ord" p) [a] [] pos) (cN ordW f) := by
  refine ie_blt call_ord (fun {Z F φ L H ws w vs} hs rs h Q q => ?_) hg hm (by decide +kernel) ha (he := he)
  unfold ordW at h
  split at h
  · rename_i s
    split at h
    · rename_i c e1
      cases h
      cases rs with
      | cons r1 r2 =>
        cases r1
        cases r2
        have es : s = mk [c] := by rw [← Lf.mk_of s, e1]
        subst es
        exact ⟨mk [c], rfl, by simp, flat hs (.int _) q⟩
    · cases h
  · cases h
end
abbrev veL : List Value := [.type "ValueError", .type "Exception", .type "BaseException", .type "object"]
def exdB (K : PySem.W.Frag) (C : Addr) : Bool := PySem.W.excIn K C veL "ValueError.__new__" && (PySem.W.keepIn K (.ref C) && (decide (PySem.W.subIn K (.ref C) (.type "BaseException") = some true) && decide (PySem.W.typeIn K (.ref C) = some (.type "type"))))
theorem exdB_ok {K : PySem.W.Frag} {mg : Str → Option Value} {c : Str} {C : Addr} (g : mg c = some (.ref C)) (h : exdB K C = true) : ExD K mg c C := by
  unfold exdB at h
  simp only [Bool.and_eq_true, decide_eq_true_eq] at h
  exact ⟨g, h.1, h.2.1, h.2.2.1, h.2.2.2⟩
def excB (K : PySem.W.Frag) (C : Addr) : Bool := decide (PySem.W.findIn K (.ref C) "__getattribute__" = some (some (.builtin "BaseException.__getattribute__"))) && (decide (PySem.W.findIn K (.ref C) "__getattr__" = some none) && (decide (PySem.W.subIn K (.ref C) (.type "BaseException") = some true) && (PySem.W.hasDictIn K C &&
  (decide (PySem.W.findIn K (.ref C) "__class__" = some (some (.builtin "object.__class__"))) && (decide (PySem.W.specialIn K (.builtin "object.__class__") "__get__" = some (some (.builtin "getset_descriptor.__get__"))) && (decide (PySem.W.takesIn K (.builtin "object.__class__") = some true) && decide (PySem.W.mroIn K C (.type "object") = some true)))))))
theorem excB_ok {K : PySem.W.Frag} {C : Addr} (h : excB K C = true) : ExcC K C := by
  unfold excB at h
  simp only [Bool.and_eq_true, decide_eq_true_eq] at h
  exact ⟨h.1, h.2.1, h.2.2.1, h.2.2.2.1, h.2.2.2.2.1, h.2.2.2.2.2.1, h.2.2.2.2.2.2.1, h.2.2.2.2.2.2.2⟩
/-! as equations -/
@[simp] theorem e_cXCall (d : DX) (g : AF) (ρ : Ro) (L : Lg) : cXCall d g ρ L = (match g ρ L with
  | none => none
  | some (ws, L1) => d ws L1) := id rfl
@[simp] theorem e_xOf (f : EF) (ρ : Ro) (L : Lg) : xOf f ρ L = (match f ρ L with
  | some (w, L') => some (some w, L')
  | none => none) := id rfl
@[simp] theorem e_cXNil (ρ : Ro) (L : Lg) : cXNil ρ L = some (some [], L) := id rfl
@[simp] theorem e_cXCons (f : XF) (g : XAF) (ρ : Ro) (L : Lg) : cXCons f g ρ L = (match f ρ L with
  | some (some w, L1) => (match g ρ L1 with
    | some (some ws, L2) => some (some (w :: ws), L2)
    | some (none, L2) => some (none, L2)
    | none => none)
  | some (none, L1) => some (none, L1)
  | none => none) := id rfl
@[simp] theorem e_cXMake (c : Str) (d : DF) (g : XAF) (ρ : Ro) (L : Lg) : cXMake c d g ρ L = (match g ρ L with
  | none => none
  | some (none, L1) => some (none, L1)
  | some (some ws, L1) => match d (.ob L1.length :: ws) (L1 ++ [.ins c []]) with
    | some (.non, L2) => some (some (.ob L1.length), L2)
    | _ => none) := id rfl
@[simp] theorem e_sOk (f : SF) (ρ : Ro) (L : Lg) : sOk f ρ L = (match f ρ L with
  | some o => some (.ok o)
  | none => none) := id rfl
@[simp] theorem e_xSeq (f g : SX) (ρ : Ro) (L : Lg) : xSeq f g ρ L = (match f ρ L with
  | some (.ok (.nx ρ1 L1)) => g ρ1 L1
  | o => o) := id rfl
@[simp] theorem e_xNx (ρ : Ro) (L : Lg) : xNx ρ L = some (.ok (.nx ρ L)) := id rfl
@[simp] theorem e_xRaise (ρ : Ro) (L : Lg) : xRaise ρ L = some (.ex L) := id rfl
@[simp] theorem e_xIf (t : TF) (f g : SX) (ρ : Ro) (L : Lg) : xIf t f g ρ L = (match t ρ L with
  | none => none
  | some (true, L') => f ρ L'
  | some (false, L') => g ρ L') := id rfl
@[simp] theorem e_xRet (f : XF) (ρ : Ro) (L : Lg) : xRet f ρ L = (match f ρ L with
  | none => none
  | some (some w, L') => some (.ok (.rt w L'))
  | some (none, L') => some (.ex L')) := id rfl
@[simp] theorem e_xFor (src : AF) (g : GF) (body : SX) (ρ : Ro) (L : Lg) : xFor src g body ρ L = (match src ρ L with
  | none => none
  | some (xs, L1) => forLoopX g body xs ρ L1) := id rfl
@[simp] theorem e_runDefX (N : Nat) (body : SX) (ws : List W) (L : Lg) : runDefX N body ws L = (match body (ws.map Sl.va ++ List.replicate (N - ws.length) .un) L with
  | some (.ok (.nx _ L')) => some (some .non, L')
  | some (.ok (.rt w L')) => some (some w, L')
  | some (.ex L') => some (none, L')
  | _ => none) := id rfl
@[simp] theorem e_cSuite (f1 : EF) (j : Nat) (f2 : EF) (ρ : Ro) (L : Lg) : cSuite f1 j f2 ρ L = (match f1 ρ L with
  | some (w, L1) => if j < ρ.length then f2 (ρ.set j (.va w)) L1 else none
  | none => none) := id rfl
@[simp] theorem e_cTry (d : DX) (y j i : Nat) (fs : EF) (ρ : Ro) (L : Lg) : cTry d y j i fs ρ L = (match ρ[y]?, ρ[i]? with
  | some (.va w), some .un => (match d [w] L with
    | some (some v, L') => if j < ρ.length then some (.nx (ρ.set j (.va v)) L') else none
    | some (none, L') => (match fs ρ L' with
      | some (v, L2) => some (.rt v L2)
      | none => none)
    | none => none)
  | _, _ => none) := id rfl
theorem forX_nx {g : GF} {body : SX} {x : W} {xs : List W} {ρ ρ1 ρ2 : Ro} {L L2 : Lg} (h1 : g x ρ = some ρ1) (h2 : body ρ1 L = some (.ok (.nx ρ2 L2))) : forLoopX g body (x :: xs) ρ L = forLoopX g body xs ρ2 L2 := by
  simp only [forLoopX, h1, h2]
theorem forX_ex {g : GF} {body : SX} {x : W} {xs : List W} {ρ ρ1 : Ro} {L L2 : Lg} (h1 : g x ρ = some ρ1) (h2 : body ρ1 L = some (.ex L2)) : forLoopX g body (x :: xs) ρ L = some (.ex L2) := by
  simp only [forLoopX, h1, h2]
theorem xseq_nx {f g : SX} {ρ ρ1 : Ro} {L L1 : Lg} (h : f ρ L = some (.ok (.nx ρ1 L1))) : xSeq f g ρ L = g ρ1 L1 := by rw [e_xSeq, h]
theorem xseq_ex {f g : SX} {ρ : Ro} {L L1 : Lg} (h : f ρ L = some (.ex L1)) : xSeq f g ρ L = some (.ex L1) := by rw [e_xSeq, h]
end Lf

/-! Lf: slices of tuples, unpacking a list -/
namespace Lf
open PySem PySem.Spec PyProof.Rows L2
section
variable {X : Cx} {a : Expr} {es : List Expr} {pos : Pos}
/-- t[lo:hi], not the whole -/
def cSlT (fo : EF) (fl fh : Ro → Lg → Option (Option Int × Lg)) : EF := fun ρ L => match fo ρ L with
  | some (.tup ws, L1) => (match fl ρ L1 with
    | none => none
    | some (l, L2) => match fh ρ L2 with
      | none => none
      | some (u, L3) => if HT.sIx ws.length 0 l = 0 ∧ HT.sIx ws.length ws.length u = ws.length then none else some (.tup (cutW ws l u), L3))
  | _ => none
theorem ie_slT {fo : EF} {lo hi : Option Expr} {fl fh : Ro → Lg → Option (Option Int × Lg)} {p2 : Pos} (ha : IE X a fo) (hl : IP X lo fl) (hh : IP X hi fh) : IE X (.Subscript a (.Slice lo hi none p2) pos) (cSlT fo fl fh) := by
  refine ⟨fun {Zx Z F φ L ρ σ H w L'} hs ss h Q q => PE.wp (pe_slice sl_tup wpE (wpOa lo) (wpOa hi)) ?_⟩
  unfold cSlT at h
  split at h
  · rename_i ws L1 e1
    split at h
    · cases h
    rename_i l L2 e2
    split at h
    · cases h
    rename_i u L3 e3
    split at h
    · cases h
    rename_i nw
    simp only [Option.some.injEq, Prod.mk.injEq] at h
    obtain ⟨rfl, rfl⟩ := h
    refine ha.run hs ss e1 _ fun F1 φ1 H1 v s1 p1 hs1 r1 => ?_
    refine hl.run hs1 (ss.mono s1 p1) e2 _ fun F2 φ2 H2 s2 p2 hs2 => ?_
    refine hh.run hs2 (ss.mono (s1.trans s2) (List.IsPrefix.trans p1 p2)) e3 _ fun F3 φ3 H3 s3 p3 hs3 => ?_
    have s13 := (s1.trans s2).trans s3
    have p13 := List.IsPrefix.trans (List.IsPrefix.trans p1 p2) p3
    have r1' := R.mono (s2.trans s3) (List.IsPrefix.trans p2 p3) r1
    cases r1' with
    | tup h1 r2 =>
      refine ⟨_, _, rfl, h1.sq hs3.sub, by rw [← r2.length]; exact nw, fun p hp => ?_⟩
      exact newT hs3 (r2.cut l u) (fun F' H' v s' hs' r' => q F' φ3 H' v (s13.trans s') p13 hs' r') hp
  · cases h
/-- a, b, .. = a list of that length -/
def gLstW (n : Nat) (k : GsF) : GF := fun w ρ => match w with
  | .lst ws => if ws.length = n then k ws ρ else none
  | _ => none
theorem ig_lst {j : Nat} {ix : List Nat} {k : GsF} {n : Nat} (hc : X.calm = true) (h : IGs X es ix k)
    (hn : (assignEach es X.env).length = n := by rfl) (hst : (assignEach es X.env).findIdx? (·.1) = none := by rfl) : IG X (.Tuple es j pos) ix (gLstW n k) := by
  refine ⟨fun {Zx Z F φ L ρ ρ' σ H w v} hs ss r h' Q q => PG.wp (pg_unl hc wpGs hn hst) ?_⟩
  unfold gLstW at h'
  split at h'
  · split at h'
    · rename_i ws hl
      cases r with
      | lst h1 r1 => exact ⟨_, _, rfl, SqL.of (hs.sub _ _ h1), by rw [← r1.length]; exact hl, h.run hs ss r1 h' Q q⟩
    · cases h'
  · cases h'
@[simp] theorem e_cSlT (fo : EF) (fl fh : Ro → Lg → Option (Option Int × Lg)) (ρ : Ro) (L : Lg) : cSlT fo fl fh ρ L = (match fo ρ L with
  | some (.tup ws, L1) => (match fl ρ L1 with
    | none => none
    | some (l, L2) => match fh ρ L2 with
      | none => none
      | some (u, L3) => if HT.sIx ws.length 0 l = 0 ∧ HT.sIx ws.length ws.length u = ws.length then none else some (.tup (cutW ws l u), L3))
  | _ => none) := id rfl
@[simp] theorem e_gLstW (n : Nat) (k : GsF) (ws : List W) (ρ : Ro) : gLstW n k (.lst ws) ρ = if ws.length = n then k ws ρ else none := id rfl
end
end Lf

/-! Lf: behind a statement, the slot's own thing is numbered (a box) -/
namespace Lf
open PySem PySem.Spec PyProof.Rows L2
section
variable {K : PySem.W.Frag} {mg : Str → Option Value} {Zx Z F : Hp} {φ : List Addr} {L : Lg} {H : Hp} {ρ : Ro} {σ : L2.St}
theorem Ss.boxed2 {i : Nat} {m : M} (hs : Hs K mg Z F φ L H) (h : Ss K Zx Z F φ ρ σ) (e : ρ[i]? = some (.ow m)) :
    ∃ Z' p, Hs K mg Z' F (φ ++ [p]) (L ++ [.box m]) H ∧ Ss K Zx Z' F (φ ++ [p]) (ρ.set i (.va (.ob L.length))) σ := by
  have hi : i < ρ.length := (List.getElem?_eq_some_iff.mp e).1
  obtain ⟨p, o, h1, h2, h3, h4⟩ := h.ow i m e
  let Z' : Hp := fun b => if b = p then none else Z b
  have zp : Z' p = none := by show (if p = p then none else Z p) = none; rw [if_pos rfl]
  have zn : ∀ b, b ≠ p → Z' b = Z b := fun b q => by show (if b = p then none else Z b) = Z b; rw [if_neg q]
  have hz : Z = upd Z' p o := by
    funext b
    by_cases q : b = p
    · subst q; rw [upd_same]; exact h2
    · rw [upd_ne q, zn b q]
  have hs' : Hs K mg (upd Z' p o) F φ L H := by rw [← hz]; exact hs
  have k1 := hs'.box zp h4
  have pp : φ <+: φ ++ [p] := List.prefix_append _ _
  refine ⟨Z', p, k1, ?_⟩
  refine ⟨by simp [h.len], fun j w' e' => ?_, fun j m2 e' => ?_, fun j k m1 m2 a e1 e2 e3 e4 => ?_, fun a u e' => ?_⟩
  · by_cases q : i = j
    · subst q; rw [List.getElem?_set_self hi] at e'; cases e'
      refine ⟨_, h1, .ob ?_⟩
      rw [← hs.len, List.getElem?_append_right (Nat.le_refl _)]; simp
    · rw [List.getElem?_set_ne q] at e'
      obtain ⟨v, g1, g2⟩ := h.va j w' e'
      exact ⟨v, g1, g2.mono (Sub.refl F) pp⟩
  · by_cases q : i = j
    · subst q; rw [List.getElem?_set_self hi] at e'; cases e'
    · rw [List.getElem?_set_ne q] at e'
      obtain ⟨b, u', g1, g2, g3, g4⟩ := h.ow j m2 e'
      have : b ≠ p := fun z => by subst z; exact q (h.sep i j m m2 _ e e' h1 g1)
      exact ⟨b, u', g1, by rw [zn b this]; exact g2, g3, g4.mono (Sub.refl F) pp⟩
  · by_cases q : i = j
    · subst q; rw [List.getElem?_set_self hi] at e1; cases e1
    · by_cases q' : i = k
      · subst q'; rw [List.getElem?_set_self hi] at e2; cases e2
      · rw [List.getElem?_set_ne q] at e1
        rw [List.getElem?_set_ne q'] at e2
        exact h.sep j k m1 m2 a e1 e2 e3 e4
  · rw [zn a (fun z => by subst z; rw [h3] at e'; cases e')]; exact h.out a u e'
end
section
variable {X : Cx} {st : Stmt}
def cBx2 (i : Nat) (f : SF) : SF := fun ρ L => match f ρ L with
  | some (.nx ρ1 L1) => (match ρ1[i]? with
    | some (.ow m) => some (.nx (ρ1.set i (.va (.ob L1.length))) (L1 ++ [.box m]))
    | _ => some (.nx ρ1 L1))
  | o => o
theorem IS.bx2 {f : SF} (i : Nat) (h : IS X st f) : IS X st (cBx2 i f) := by
  refine ⟨fun {Zx Z F φ L ρ σ H o} hs ss h' D q => ?_⟩
  unfold cBx2 at h'
  cases e1 : f ρ L with
  | none => rw [e1] at h'; cases h'
  | some o1 =>
    rw [e1] at h'
    refine h.run hs ss e1 D ?_
    cases o1 with
    | nx ρ1 L1 =>
      simp only at h'
      split at h'
      · rename_i m e2
        simp only [Option.some.injEq] at h'
        subst h'
        intro Z1 F1 φ1 σ1 H1 s1 p1 hs1 ss1
        obtain ⟨Z', p, hs2, ss2⟩ := ss1.boxed2 hs1 e2
        exact q Z' F1 _ σ1 H1 s1 (List.IsPrefix.trans p1 (List.prefix_append _ _)) hs2 ss2
      · simp only [Option.some.injEq] at h'
        subst h'
        exact q
    | bk ρ1 L1 => cases h'; exact q
    | ct ρ1 L1 => cases h'; exact q
    | rt w L1 => cases h'; exact q
@[simp] theorem e_cBx2 (i : Nat) (f : SF) (ρ : Ro) (L : Lg) : cBx2 i f ρ L = (match f ρ L with
  | some (.nx ρ1 L1) => (match ρ1[i]? with
    | some (.ow m) => some (.nx (ρ1.set i (.va (.ob L1.length))) (L1 ++ [.box m]))
    | _ => some (.nx ρ1 L1))
  | o => o) := id rfl
end
end Lf

/-! Lf: a <= b < c as a value -/
namespace Lf
open PySem PySem.Spec PyProof.Rows L2
def cChV (fa fb fc : EF) : EF := fun ρ L => match fa ρ L with
  | some (.int i, L1) => (match fb ρ L1 with
    | some (.int j, L2) => if i ≤ j then (match fc ρ L2 with
      | some (.int k, L3) => some (.bl (decide (j < k)), L3)
      | _ => none) else some (.bl false, L2)
    | _ => none)
  | _ => none
theorem ie_chain {X : Cx} {a b c : Expr} {pos : Pos} {fa fb fc : EF} (ha : IE X a fa) (hb : IE X b fb) (hc : IE X c fc) (hm : lastMarks [.LtE, .Lt] [b, c] = false := by with_unfolding_all rfl) : IE X (.Compare a [.LtE, .Lt] [b, c] pos) (cChV fa fb fc) := by
  refine ⟨fun {Zx Z F φ L ρ σ H w L'} hs ss h Q q => PE.wp (pe_chain op_le op_lt wpE wpE wpE hm) ?_⟩
  unfold cChV at h
  split at h
  · rename_i i L1 e1
    split at h
    · rename_i j L2 e2
      refine ha.run hs ss e1 _ fun F1 φ1 H1 v1 s1 p1 hs1 r1 => ?_
      refine hb.run hs1 (ss.mono s1 p1) e2 _ fun F2 φ2 H2 v2 s2 p2 hs2 r2 => ?_
      cases r1; cases r2
      refine ⟨i, j, rfl, rfl, decide (i ≤ j), rfl, ?_⟩
      split at h
      · rename_i hij
        split at h
        · rename_i k L3 e3
          simp only [Option.some.injEq, Prod.mk.injEq] at h
          obtain ⟨rfl, rfl⟩ := h
          rw [if_pos (decide_eq_true hij)]
          refine hc.run hs2 (ss.mono (s1.trans s2) (List.IsPrefix.trans p1 p2)) e3 _ fun F3 φ3 H3 v3 s3 p3 hs3 r3 => ?_
          cases r3
          exact ⟨j, k, rfl, rfl, q F3 φ3 H3 _ ((s1.trans s2).trans s3) (List.IsPrefix.trans (List.IsPrefix.trans p1 p2) p3) hs3 (.bl _)⟩
        · cases h
      · rename_i hij
        simp only [Option.some.injEq, Prod.mk.injEq] at h
        obtain ⟨rfl, rfl⟩ := h
        rw [if_neg (by simpa using hij)]
        exact q F2 φ2 H2 _ (s1.trans s2) (List.IsPrefix.trans p1 p2) hs2 (.bl _)
    · cases h
  · cases h
@[simp] theorem e_cChV (fa fb fc : EF) (ρ : Ro) (L : Lg) : cChV fa fb fc ρ L = (match fa ρ L with
  | some (.int i, L1) => (match fb ρ L1 with
    | some (.int j, L2) => if i ≤ j then (match fc ρ L2 with
      | some (.int k, L3) => some (.bl (decide (j < k)), L3)
      | _ => none) else some (.bl false, L2)
    | _ => none)
  | _ => none) := id rfl
end Lf

/-! Lf: o.f, y = e -/
namespace Lf
open PySem PySem.Spec PyProof.Rows L2
def gAtt (K : PySem.W.Frag) (to : TE) (f : Str) : TG := fun v σ H Q => to σ H fun x H2 => ∃ a C dx fs, x = .ref a ∧ H2 a = some (.ins C dx fs) ∧ Cls K C ∧ NoAttr K C f ∧ fs.length < 1000 ∧ Q σ (upd H2 a (.ins C dx (putF f v fs)))
theorem pg_att {X : Cx} {pos : Pos} {o : Expr} {f : Str} {to : TE} (ho : PE X o to)
    (ha : ∀ v, assign (.Attribute o f pos) X.env v = (do
      let ov ← holding [v] (eval o X.env)
      standAt pos.atName
      holding [v, ov] (setAttr ov f v)
      release [v, ov] []) := by intro _; rfl) : PG X (.Attribute o f pos) (gAtt X.K to f) := by
  refine ⟨fun pins s σ H v u Q I r h => ?_⟩
  rw [ha]
  refine wpAny_bind (wpAny_holding (thn (ho.run pins s σ H _ I h) fun ov s1 ⟨x, H1, I1, r1, a, C, dx, fs, ex, ea, c, n, l, q⟩ => ?_))
  subst ex
  obtain rfl : ov = Value.ref a := r1
  refine wpAny_bind (wpAny_standAt (wpAny_bind (wpAny_holding (setattr_ok I1 ea c n l r fun s3 I3 => ?_))))
  exact wpAny_release ⟨σ, _, I3, q⟩
def cAsgAt (c f : Str) (fo : EF) (g : GF) (fe : EF) : SF := fun ρ L => match fe ρ L with
  | some (.tup [w1, w2], L1) => (match fo ρ L1 with
    | some (.ob k, L2) => (match L2[k]? with
      | some (.ins c' fs) => if c' = c ∧ fs.length < 1000 then (match g w2 ρ with
        | some ρ' => some (.nx ρ' (L2.set k (.ins c (putW f w1 fs))))
        | none => none) else none
      | _ => none)
    | _ => none)
  | _ => none
theorem is_asgAt {X : Cx} {o e tg : Expr} {pos p1 p3 : Pos} {ix : List Nat} {c f : Str} {fo fe : EF} {g : GF} {kk : Nat} (D : FldD X.K X.mg c f) (hc : X.calm = true) (ho : IE X o fo) (he : IE X e fe) (hg : IG X tg ix g)
    (hs' : swapsWithSole [.Tuple [.Attribute o f p1, tg] kk p3] e pos.line X.env = pure false := by rfl) (hw : swappedStores [.Tuple [.Attribute o f p1, tg] kk p3] e X.env = pure none := by rfl)
    (h1 : (assignEach [.Tuple [.Attribute o f p1, tg] kk p3] X.env).map (·.2) = [assign (.Tuple [.Attribute o f p1, tg] kk p3) X.env] := by rfl)
    (hn : (assignEach [.Attribute o f p1, tg] X.env).length = 2 := by rfl) (hst : (assignEach [.Attribute o f p1, tg] X.env).findIdx? (·.1) = none := by rfl)
    (hc1 : (assignEach (.Attribute o f p1 :: [tg]) X.env).map (·.2) = assign (.Attribute o f p1) X.env :: (assignEach [tg] X.env).map (·.2) := by rfl)
    (hc2 : (assignEach (tg :: []) X.env).map (·.2) = assign tg X.env :: (assignEach [] X.env).map (·.2) := by rfl)
    (ha : ∀ v, assign (.Attribute o f p1) X.env v = (do
      let ov ← holding [v] (eval o X.env)
      standAt p1.atName
      holding [v, ov] (setAttr ov f v)
      release [v, ov] []) := by intro _; rfl) : IS X (.Assign [.Tuple [.Attribute o f p1, tg] kk p3] e pos) (cAsgAt c f fo g fe) := by
  refine ⟨fun {Zx Z F φ L ρ σ H o'} hs ss h D' q => PS.wp (ps_asg wpE (pg_tup hc (pgs_cons (pg_att wpE ha) (pgs_cons wpG pgs_nil hc2) hc1) hn hst) hs' hw h1) ?_⟩
  obtain ⟨C, cd, na⟩ := D.ex
  unfold cAsgAt at h
  split at h
  · rename_i w1 w2 L1 e1
    split at h
    · rename_i k L2 e2
      split at h
      · rename_i c' fs e3
        split at h
        · rename_i ec
          obtain ⟨rfl, hl⟩ := ec
          split at h
          · rename_i ρ' e4
            simp only [Option.some.injEq] at h
            subst h
            refine he.run hs ss e1 _ fun F1 φ1 H1 v s1 p1 hs1 r1 => ?_
            cases r1 with
            | tup t1 rs =>
              cases rs with
              | cons ra rb =>
                cases rb with
                | cons rb rn =>
                  cases rn
                  refine ⟨_, _, rfl, t1.sq hs1.sub, rfl, _, _, rfl, ?_⟩
                  refine ho.run hs1 (ss.mono s1 p1) e2 _ fun F2 φ2 H2 v2 s2 p2 hs2 r2 => ?_
                  cases r2 with
                  | ob hj =>
                    obtain ⟨nF, C', dx, vs, g1, g2, g3, g4⟩ := hs2.objs _ _ _ e3 hj
                    rw [cd.at_] at g1
                    cases g1
                    have lv : vs.length < 1000 := by
                      have := congrArg List.length g3
                      simp only [List.length_map] at this
                      omega
                    obtain ⟨q1, q2⟩ := putW_ok (ra.mono s2 p2) g3 g4 (f := f)
                    have hs3 := hs2.setOb (ob := .ins c' (putW f w1 fs)) (List.getElem?_eq_some_iff.mp e3).1 hj nF NT.ins ⟨nF, C, dx, _, cd.at_, upd_same, q1, q2⟩
                    refine ⟨_, C, dx, vs, rfl, g2, cd.cls, na, lv, _, _, rfl, ?_⟩
                    refine hg.run hs3 (ss.mono (s1.trans s2) (List.IsPrefix.trans p1 p2)) (rb.mono s2 p2) e4 _ fun σ' ss' _ => ?_
                    exact ⟨rfl, q Z F2 φ2 σ' _ (s1.trans s2) (List.IsPrefix.trans p1 p2) hs3 ss'⟩
          · cases h
        · cases h
      · cases h
    · cases h
  · cases h
@[simp] theorem e_cAsgAt (c f : Str) (fo : EF) (g : GF) (fe : EF) (ρ : Ro) (L : Lg) : cAsgAt c f fo g fe ρ L = (match fe ρ L with
  | some (.tup [w1, w2], L1) => (match fo ρ L1 with
    | some (.ob k, L2) => (match L2[k]? with
      | some (.ins c' fs) => if c' = c ∧ fs.length < 1000 then (match g w2 ρ with
        | some ρ' => some (.nx ρ' (L2.set k (.ins c (putW f w1 fs))))
        | none => none) else none
      | _ => none)
    | _ => none)
  | _ => none) := id rfl
end Lf

/-! Lf: a dict of the module with text keys -/
namespace Lf
open PySem PySem.Spec PyProof.Rows L2
structure KdD (K : PySem.W.Frag) (w : World) (mg : Str → Option Value) (x : Str) (kvs : List (Str × Cv)) : Prop where
  ex : ∃ a, mg x = some (.ref a) ∧ ∀ q ∈ kvs, ∃ v, KDct K w a q.1 v ∧ ∀ F φ, R K F φ q.2.w v
def kdB (K : PySem.W.Frag) (x : Str) (kvs : List (Str × Cv)) : Bool := decide (PySem.W.nsIn K mainGlobals x = some (some (.ref (He.ga K x)))) && kvs.all fun q => match PySem.W.nsIn K (He.ga K x) q.1 with
  | some (some u) => cvB K q.2 u
  | _ => false
theorem kdB_ok {K : PySem.W.Frag} {h : Heap} {mg : Str → Option Value} {w : World} (X : K.In h) (G : h.Ns mainGlobals mg) {x : Str} {kvs : List (Str × Cv)} {ks : List Str} (e : kdB K x kvs = true) (d : He.dicW K (He.ga K x) = some (He.keysIn w.params ks)) : KdD K w mg x kvs := by
  unfold kdB at e
  rw [Bool.and_eq_true, decide_eq_true_eq] at e
  obtain ⟨e1, e2⟩ := e
  obtain ⟨es, n, D⟩ := He.dicW_ok d
  refine ⟨_, PySem.W.mg_of X G e1, fun q hq => ?_⟩
  have h2 := List.all_eq_true.mp e2 q hq
  split at h2
  · rename_i u e3
    obtain ⟨v, g1, g2⟩ := cvB_ok q.2 h2
    exact ⟨v, ⟨es, n, u, D.at_, D.lit, e3, g1⟩, g2⟩
  · cases h2
def lookC : List (Str × Cv) → Str → Option W
  | [], _ => none
  | q :: r, z => if q.1 = z then some q.2.w else lookC r z
theorem lookC_some : ∀ {kvs : List (Str × Cv)} {z : Str} {w : W}, lookC kvs z = some w → ∃ q ∈ kvs, q.1 = z ∧ q.2.w = w
  | [], _, _, h => by cases h
  | q :: r, z, w, h => by
    unfold lookC at h
    split at h
    · rename_i e
      exact ⟨q, List.mem_cons_self, e, Option.some.inj h⟩
    · obtain ⟨q', h1, h2⟩ := lookC_some h
      exact ⟨q', List.mem_cons_of_mem _ h1, h2⟩
def cKD (kvs : List (Str × Cv)) (fk : EF) : EF := fun ρ L => match fk ρ L with
  | some (.str z, L1) => (match lookC kvs z with
    | some w => some (w, L1)
    | none => none)
  | _ => none
theorem ie_kd {X : Cx} {x : Str} {kvs : List (Str × Cv)} {px pos : Pos} {k : Expr} {fk : EF} (D : KdD X.K X.w X.mg x kvs) (hg : Gl X x) (hk : IE X k fk) (hdb : (x == ("__debug__" : Str)) = false := by decide) (hs' : PlainIx k := by intro _ _; rfl) : IE X (.Subscript (.Name x px) k pos) (cKD kvs fk) := by
  obtain ⟨a, h1, h2⟩ := D.ex
  refine ⟨fun {Zx Z F φ L ρ σ H w L'} hs ss h Q q => PE.wp (pe_ix ix_kdict (pe_glob (v := .ref a) hg h1 rfl (hd := hdb)) wpE hs') ?_⟩
  unfold cKD at h
  split at h
  · rename_i z L1 e1
    split at h
    · rename_i w' e2
      simp only [Option.some.injEq, Prod.mk.injEq] at h
      obtain ⟨rfl, rfl⟩ := h
      obtain ⟨qq, m1, rfl, m2⟩ := lookC_some e2
      obtain ⟨v, g1, g2⟩ := h2 qq m1
      refine hk.run hs ss e1 _ fun F1 φ1 H1 vz s1 p1 hs1 r1 => ?_
      cases r1
      refine ⟨a, _, v, rfl, rfl, g1, q F1 φ1 H1 v s1 p1 hs1 ?_⟩
      rw [← m2]
      exact g2 F1 φ1
    · cases h
  · cases h
@[simp] theorem e_cKD (kvs : List (Str × Cv)) (fk : EF) (ρ : Ro) (L : Lg) : cKD kvs fk ρ L = (match fk ρ L with
  | some (.str z, L1) => (match lookC kvs z with
    | some w => some (w, L1)
    | none => none)
  | _ => none) := id rfl
/-! the head, with tables -/
abbrev Tb : Type := Str × List Str
abbrev AlF : Type := AlE × List (Option (List (Option (Str × Int))))
def tabF (ts : List Tb) (K : PySem.W.Frag) : List (Option (List (Option (Str × Int)))) := ts.map fun t => He.dicW K (He.ga K t.1)
def tabV (ts : List Tb) (w : World) : List (Option (List (Option (Str × Int)))) := ts.map fun t => some (He.keysIn w.params t.2)
def obsF (n : Nat) (fa : List He.Fa) (fn : List He.DefD) (ex : PySem.W.Frag → Bool) (ts : List Tb) (g : Addr → Option Obj) : AlF := (obsE n fa fn ex g, tabF ts (He.frG g (He.asD g n)))
def hookF (n : Nat) (fa : List He.Fa) (fn : List He.DefD) (ex : PySem.W.Frag → Bool) (ts : List Tb) : PySem.W.Hook where
  α := AlF
  obs := fun s => obsF n fa fn ex ts s.heap.get?
  val := fun w => ((He.valD fn, true), tabV ts w)
  says := fun w h => ∃ K : PySem.W.Frag, K.In h ∧ ((He.SaysD fa fn K ∧ ex K = true) ∧ tabF ts K = tabV ts w)
  of := fun _ _ e => ⟨_, He.frG_in, ⟨congrArg (fun z : AlF => z.1.1) e, congrArg (fun z : AlF => z.1.2) e⟩, congrArg (fun z : AlF => z.2) e⟩
  keeps := fun _ _ _ ⟨K, hK, c⟩ k => ⟨K, PySem.W.Frag.In.keeps hK k, c⟩
theorem obsF_eq {n : Nat} {fa : List He.Fa} {fn : List He.DefD} {ex : PySem.W.Frag → Bool} {ts : List Tb} {g : Addr → Option Obj} {s : Shared} (h : ∀ a, g a = s.heap.get? a) : obsF n fa fn ex ts g = (hookF n fa fn ex ts).obs s := by
  have e : g = s.heap.get? := funext h
  rw [e]; rfl
theorem tab_at {ts : List Tb} {w : World} {K : PySem.W.Frag} (c : tabF ts K = tabV ts w) (i : Nat) {t : Tb} (h : ts[i]? = some t := by rfl) : He.dicW K (He.ga K t.1) = some (He.keysIn w.params t.2) := by
  have e : (tabF ts K)[i]? = (tabV ts w)[i]? := by rw [c]
  unfold tabF tabV at e
  rw [List.getElem?_map, List.getElem?_map, h] at e
  exact Option.some.inj e
end Lf

/-! Lf: an expression under which a dict in a box stands still -/
namespace Lf
open PySem PySem.Spec PyProof.Rows L2
mutual
def nodW : W → Bool
  | .tup xs => nodWs xs
  | .lst xs => nodWs xs
  | .kt xs => nodWs xs
  | .dK _ => false
  | .dT _ => false
  | _ => true
def nodWs : List W → Bool
  | [] => true
  | x :: xs => nodW x && nodWs xs
end
def nodOb : Ob → Bool
  | .ins _ fs => nodWs (fs.map Prod.snd)
  | .box (.lst ws) => nodWs ws
  | .box (.dK kvs) => nodWs (kvs.map Prod.snd)
  | .box (.dT kvs) => nodWs (kvs.map Prod.snd)
  | .dead => true
  | .nd _ => false
def rmv (F : Hp) (p : Addr) : Hp := fun b => if b = p then none else F b
theorem rmv_ne {F : Hp} {p b : Addr} (h : b ≠ p) : rmv F p b = F b := by unfold rmv; rw [if_neg h]
theorem rmv_eq {F : Hp} {p : Addr} : rmv F p p = none := by unfold rmv; rw [if_pos rfl]
section
variable {K : PySem.W.Frag} {F : Hp} {φ : List Addr} {p : Addr} {ds : List (List Key × V)}
theorem rmv_lst {a : Addr} {vs : List V} (hp : F p = some (.dT ds)) (h : F a = some (.lst vs)) : rmv F p a = some (.lst vs) := by
  rw [rmv_ne (fun z => by subst z; rw [hp] at h; cases h)]; exact h
theorem rmv_tup {a : Addr} {vs : List V} (hp : F p = some (.dT ds)) (h : TupAt K F a vs) : TupAt K (rmv F p) a vs := by
  unfold TupAt at h ⊢
  rw [rmv_ne (fun z => by subst z; rw [hp] at h; cases h)]; exact h
theorem rmv_sql {a : Addr} {vs : List V} (hp : F p = some (.dT ds)) (h : SqL K F a vs) : SqL K (rmv F p) a vs := by
  rcases h with (h | ⟨o, h⟩) | h
  · exact .inl (.inl (rmv_lst hp h))
  · exact .inl (.inr ⟨o, by rw [rmv_ne (fun z => by subst z; rw [hp] at h; cases h)]; exact h⟩)
  · exact .inr h
mutual
theorem R.nod (hp : F p = some (.dT ds)) : ∀ {w : W} {v : V}, nodW w = true → R K F φ w v → R K (rmv F p) φ w v
  | _, _, _, .non => .non
  | _, _, _, .bl b => .bl b
  | _, _, _, .int i => .int i
  | _, _, _, .str x => .str x
  | _, _, _, .ty n => .ty n
  | _, _, h, .tup g hs => .tup (rmv_tup hp g) (Rs.nod hp (by unfold nodW at h; exact h) hs)
  | _, _, h, .lst g hs => .lst (rmv_lst hp g) (Rs.nod hp (by unfold nodW at h; exact h) hs)
  | _, _, h, .kt g hs => .kt g (Rs.nod hp (by unfold nodW at h; exact h) hs)
  | _, _, h, .dK _ _ _ => by unfold nodW at h; cases h
  | _, _, h, .dT _ _ _ => by unfold nodW at h; cases h
  | _, _, _, .ob g => .ob g
  | _, _, _, .scr g => .scr (rmv_sql hp g)
theorem Rs.nod (hp : F p = some (.dT ds)) : ∀ {ws : List W} {vs : List V}, nodWs ws = true → Rs K F φ ws vs → Rs K (rmv F p) φ ws vs
  | _, _, _, .nil => .nil
  | _, _, h, .cons g hs => by
    unfold nodWs at h
    rw [Bool.and_eq_true] at h
    exact .cons (R.nod hp h.1 g) (Rs.nod hp h.2 hs)
end
theorem ObOk.nod {mg : Str → Option Value} {H : Hp} {a : Addr} {o : Ob} (hp : F p = some (.dT ds)) (ho : nodOb o = true) (h : ObOk K mg F φ H a o) : ObOk K mg (rmv F p) φ H a o := by
  have dn : F a = none → rmv F p a = none := fun e => by
    by_cases q : a = p
    · subst q; exact rmv_eq
    · rw [rmv_ne q]; exact e
  cases o with
  | ins c fs =>
    obtain ⟨n, C, dx, vs, h1, h2, h3, h4⟩ := h
    unfold nodOb at ho
    exact ⟨dn n, C, dx, vs, h1, h2, h3, h4.nod hp ho⟩
  | box m =>
    obtain ⟨n, u, h1, h2⟩ := h
    refine ⟨dn n, u, h1, ?_⟩
    cases m <;> cases u <;> unfold nodOb at ho <;> first | exact h2.elim | exact Rs.nod hp ho h2 | exact ⟨h2.1, h2.2.nod hp ho⟩
  | dead => exact True.intro
  | nd kvs => unfold nodOb at ho; cases ho
end
def cSnapE (i : Nat) (f : EF) : EF := fun ρ L => match ρ[i]? with
  | some (.va (.ob j)) => (match L[j]? with
    | some (.box (.dT kvs)) => (match f (ρ.set i (.va (.dT kvs))) (L.set j .dead) with
      | some (w, L') => if L'.all nodOb = true ∧ nodW w = true then some (w, L'.set j (.box (.dT kvs))) else none
      | none => none)
    | _ => none)
  | _ => none
theorem Hs.back {K : PySem.W.Frag} {mg : Str → Option Value} {Z F F2 H2 : Hp} {φ φ2 : List Addr} {L2 : Lg} {j : Nat} {a : Addr} {kvs : List (List Key × W)} {ds : List (List Key × V)}
    (nF : F a = none) (mk : MOk K F φ (.dT kvs) (.dT ds)) (s2 : Sub F F2) (hF2 : F2 a = some (.dT ds)) (hj : φ2[j]? = some a) (p2 : φ <+: φ2) (hs2 : Hs K mg Z F2 φ2 L2 H2) (fl : L2.all nodOb = true) :
    Hs K mg Z (rmv F2 a) φ2 (L2.set j (.box (.dT kvs))) H2 := by
  have sr : Sub F (rmv F2 a) := fun b u e => by
    rw [rmv_ne (fun z => by subst z; rw [nF] at e; cases e)]; exact s2 b u e
  refine ⟨fun b u e => ?_, fun b u e => ?_, by rw [List.length_set]; exact hs2.len, hs2.nd, hs2.has, fun i u b e1 e2 => ?_⟩
  · by_cases q : b = a
    · subst q; rw [rmv_eq] at e; cases e
    · rw [rmv_ne q] at e; exact hs2.sub b u e
  · obtain ⟨g1, g2, g3, g4⟩ := hs2.ext b u e
    refine ⟨g1, ?_, g3, g4⟩
    by_cases q : b = a
    · subst q; exact rmv_eq
    · rw [rmv_ne q]; exact g2
  · by_cases q : j = i
    · subst q
      have lt : j < L2.length := by rw [← hs2.len]; exact (List.getElem?_eq_some_iff.mp hj).1
      rw [List.getElem?_set_self lt] at e1
      cases e1
      rw [hj] at e2
      cases e2
      exact ⟨rmv_eq, _, hs2.sub _ _ hF2, mk.mono sr p2⟩
    · rw [List.getElem?_set_ne q] at e1
      exact (hs2.objs i u b e1 e2).nod hF2 (List.all_eq_true.mp fl u (List.mem_of_getElem? e1))
section
variable {X : Cx} {e : Expr}
theorem IE.snapE {f : EF} (i : Nat) (h : IE X e f) : IE X e (cSnapE i f) := by
  refine ⟨fun {Zx Z F φ L ρ σ H w L'} hs ss h' Q q => ?_⟩
  unfold cSnapE at h'
  split at h'
  · rename_i j e1
    split at h'
    · rename_i kvs e2
      split at h'
      · rename_i w2 L2 e3
        split at h'
        · rename_i fl
          simp only [Option.some.injEq, Prod.mk.injEq] at h'
          obtain ⟨rfl, rfl⟩ := h'
          obtain ⟨v, h1, h2⟩ := ss.va i _ e1
          cases h2 with
          | ob hj =>
            rename_i a
            obtain ⟨nF, o, hH, mk⟩ := hs.objs _ _ _ e2 hj
            cases o <;> first | exact mk.elim | skip
            rename_i ds
            have am : a ∈ φ := List.mem_of_getElem? hj
            have sb : Sub F (upd F a (.dT ds)) := Sub.new nF
            have hs1 : Hs X.K X.mg Z (upd F a (.dT ds)) φ (L.set j .dead) H := by
              refine ⟨fun b u e => ?_, fun b u e => ?_, by rw [List.length_set]; exact hs.len, hs.nd, hs.has, fun i u b e1 e2 => ?_⟩
              · by_cases q : b = a
                · subst q; rw [upd_same] at e; cases e; exact hH
                · rw [upd_ne q] at e; exact hs.sub b u e
              · obtain ⟨g1, g2, g3, g4⟩ := hs.ext b u e
                have q : b ≠ a := fun q => g3 (q ▸ am)
                exact ⟨g1, by rw [upd_ne q]; exact g2, g3, g4⟩
              · by_cases q : j = i
                · subst q
                  rw [List.getElem?_set_self (by rw [← hs.len]; exact (List.getElem?_eq_some_iff.mp hj).1)] at e1
                  cases e1
                  exact True.intro
                · rw [List.getElem?_set_ne q] at e1
                  have qb : b ≠ a := fun z => by
                    subst z
                    exact q ((List.getElem?_inj (List.getElem?_eq_some_iff.mp hj).1 hs.nd).mp (hj.trans e2.symm))
                  exact (hs.objs i u b e1 e2).mono sb (List.prefix_refl φ) (fun z => by rw [upd_ne qb]; exact z) fun u e => e
            have r1 : R X.K (upd F a (.dT ds)) φ (.dT kvs) (.ref a) := (mk.mono sb (List.prefix_refl φ)).fz upd_same
            refine h.run hs1 ((ss.mono sb (List.prefix_refl φ)).reva ⟨_, e1⟩ h1 r1) e3 Q fun F2 φ2 H2 v2 s2 p2 hs2 r2 => ?_
            have hF2 := s2 a _ upd_same
            have s3 := sb.trans s2
            refine q (rmv F2 a) φ2 H2 v2 (fun b u e => ?_) p2 (hs2.back nF mk s3 hF2 (pre_get p2 hj) p2 fl.1) (r2.nod hF2 fl.2)
            rw [rmv_ne (fun z => by subst z; rw [nF] at e; cases e)]
            exact s3 b u e
        · cases h'
      · cases h'
    · cases h'
  · cases h'
end
@[simp] theorem e_cSnapE (i : Nat) (f : EF) (ρ : Ro) (L : Lg) : cSnapE i f ρ L = (match ρ[i]? with
  | some (.va (.ob j)) => (match L[j]? with
    | some (.box (.dT kvs)) => (match f (ρ.set i (.va (.dT kvs))) (L.set j .dead) with
      | some (w, L') => if L'.all nodOb = true ∧ nodW w = true then some (w, L'.set j (.box (.dT kvs))) else none
      | none => none)
    | _ => none)
  | _ => none) := id rfl
end Lf

set_option maxHeartbeats 4000000
/-! Lf, part BA: exceptions of an own class whose __init__ gives them two ints as fields. -/
namespace Lf
open PySem PySem.Spec PyProof.Rows L2
/-- what is told of an exception: its fields -/
abbrev XP := List (Str × Int)
def xdV (p : XP) : List (Str × V) := p.map fun x => (x.1, V.int x.2)
def PayZ (p : XP) (d : Addr) (Z : Hp) : Prop := Z d = some (.xd (xdV p))
abbrev DP := List W → Lg → Option (Except XP W × Lg)
def ReOkP (K : PySem.W.Frag) (mg : Str → Option Value) (Z F : Hp) (φ : List Addr) (Q : VK) (E : Option Addr → Hp → Prop) : Except XP W × Lg → Prop
  | (.ok w, L') => ∀ (Z' F' : Hp) (φ' : List Addr) (H' : Hp) (v : V), Sub F F' → φ <+: φ' → Sub Z Z' → Hs K mg Z' F' φ' L' H' → R K F' φ' w v → Q v H'
  | (.error p, L') => ∀ (Z' F' : Hp) (φ' : List Addr) (H' : Hp) (d : Addr), Sub F F' → φ <+: φ' → Sub Z Z' → Hs K mg Z' F' φ' L' H' → PayZ p d Z' → E (some d) H'
def spP (K : PySem.W.Frag) (mg : Str → Option Value) (C : Addr) (n : Nat) (d : DP) : Sp := fun vs H Q E => ∃ (Z F : Hp) (φ : List Addr) (L : Lg) (ws : List W) (r : Except XP W × Lg), Hs K mg Z F φ L H ∧ Rs K F φ ws vs ∧ ws.length = n ∧ d ws L = some r ∧ ReOkP K mg Z F φ Q (E (.ref C)) r
/-- a def that may raise such an exception of the class at C -/
structure DefP (P : Program) (w : World) (K : PySem.W.Frag) (mg : Str → Option Value) (base : Heap) (k : Nat) (x : Str) (C : Addr) (ps : List Str) (d : DP) : Prop where
  ex : ∃ (f : Addr) (fd : FuncData), FnOk P w K mg base (L2.CX P w) k f fd ps (spP K mg C ps.length d) ∧ mg x = some (.ref f) ∧ PySem.W.keepIn K (.ref f) = true ∧ Binds K fd ps []
inductive OP where
  | ok (o : Out) | ex (p : XP) (L : Lg)
abbrev SP := Ro → Lg → Option OP
def EndP (X : Cx) (Zx F : Hp) (φ : List Addr) (D : Ends) (E : Option Addr → Hp → Prop) : OP → Prop
  | .ok o => EndOk X Zx F φ D o
  | .ex p L' => ∀ (Z' F' : Hp) (φ' : List Addr) (H' : Hp) (d : Addr), Sub F F' → φ <+: φ' → Sub Zx Z' → Hs X.K X.mg Z' F' φ' L' H' → PayZ p d Z' → E (some d) H'
theorem EndP.step {X : Cx} {Zx F F1 : Hp} {φ φ1 : List Addr} {D : Ends} {E : Option Addr → Hp → Prop} {o : OP} (s : Sub F F1) (p : φ <+: φ1) (h : EndP X Zx F φ D E o) : EndP X Zx F1 φ1 D E o := by
  cases o with
  | ok o => exact EndOk.step s p h
  | ex q L => exact fun Z' F' φ' H' d s' p' z hs => h Z' F' φ' H' d (s.trans s') (List.IsPrefix.trans p p') z hs
structure ISP (X : Cx) (C : Addr) (E : XK) (st : Stmt) (f : SP) : Prop where
  run : ∀ {Zx Z F : Hp} {φ : List Addr} {L : Lg} {ρ : Ro} {σ : L2.St} {H : Hp} {o : OP}, Hs X.K X.mg Z F φ L H → Ss X.K Zx Z F φ ρ σ → f ρ L = some o → ∀ D : Ends, EndP X Zx F φ D (E (.ref C)) o → WpS X st D σ H
structure ISsP (X : Cx) (C : Addr) (E : XK) (st : List Stmt) (f : SP) : Prop where
  run : ∀ {Zx Z F : Hp} {φ : List Addr} {L : Lg} {ρ : Ro} {σ : L2.St} {H : Hp} {o : OP}, Hs X.K X.mg Z F φ L H → Ss X.K Zx Z F φ ρ σ → f ρ L = some o → ∀ D : Ends, EndP X Zx F φ D (E (.ref C)) o → WpSs X st D σ H
section
variable {X : Cx} {C : Addr} {E : XK} {st : Stmt} {rest : List Stmt} {e a b : Expr} {es : List Expr} {pos : Pos}
def pOk (f : SF) : SP := fun ρ L => match f ρ L with
  | some o => some (.ok o)
  | none => none
theorem IS.isp {f : SF} (h : IS X st f) : ISP X C E st (pOk f) := by
  refine ⟨fun {Zx Z F φ L ρ σ H o} hs ss h' D q => ?_⟩
  unfold pOk at h'
  split at h'
  · rename_i o1 e1
    simp only [Option.some.injEq] at h'
    subst h'
    exact h.run hs ss e1 D q
  · cases h'
def pSeq (f g : SP) : SP := fun ρ L => match f ρ L with
  | some (.ok (.nx ρ1 L1)) => g ρ1 L1
  | o => o
def pNx : SP := fun ρ L => some (.ok (.nx ρ L))
theorem issp_nil : ISsP X C E [] pNx := by
  refine ⟨fun {Zx Z F φ L ρ σ H o} hs ss h D q => PSs.wp pss_nil ?_⟩
  simp only [pNx, Option.some.injEq] at h
  subst h
  exact q Z F φ σ H (Sub.refl F) (List.prefix_refl φ) hs ss
theorem issp_cons {f g : SP} (h1 : ISP X C E st f) (h2 : ISsP X C E rest g) : ISsP X C E (st :: rest) (pSeq f g) := by
  refine ⟨fun {Zx Z F φ L ρ σ H o} hs ss h D q => PSs.wp (pss_cons wpS wpSs) ?_⟩
  unfold pSeq at h
  cases e1 : f ρ L with
  | none => rw [e1] at h; cases h
  | some o1 =>
    rw [e1] at h
    refine h1.run hs ss e1 { D with nx := WpSs X rest D } ?_
    cases o1 with
    | ok o1 =>
      cases o1 with
      | nx ρ1 L1 => exact fun Z1 F1 φ1 σ1 H1 s1 p1 hs1 ss1 => h2.run hs1 ss1 h D (q.step s1 p1)
      | bk ρ1 L1 => cases h; exact q
      | ct ρ1 L1 => cases h; exact q
      | rt w L1 => cases h; exact q
    | ex p L1 => cases h; exact q
theorem issp_one {f : SP} (h1 : ISP X C E st f) : ISsP X C E [st] f := ⟨fun hs ss h D q => PSs.wp (pss_one wpS) (h1.run hs ss h D q)⟩
def pIf (t : TF) (f g : SP) : SP := fun ρ L => match t ρ L with
  | none => none
  | some (true, L') => f ρ L'
  | some (false, L') => g ρ L'
theorem isp_if {c : Expr} {x y : List Stmt} {t : TF} {f g : SP} (hc : IT X c t) (ha : ISsP X C E x f) (hb : ISsP X C E y g) : ISP X C E (.If c x y pos) (pIf t f g) := by
  refine ⟨fun {Zx Z F φ L ρ σ H o} hs ss h D q => PS.wp (ps_if wpT wpSs wpSs) ?_⟩
  unfold pIf at h
  split at h
  · cases h
  · rename_i L1 e1
    refine hc.run hs ss e1 _ fun F1 φ1 H1 s1 p1 hs1 => ?_
    rw [if_pos rfl]
    exact ha.run hs1 (ss.mono s1 p1) h D (q.step s1 p1)
  · rename_i L1 e1
    refine hc.run hs ss e1 _ fun F1 φ1 H1 s1 p1 hs1 => ?_
    rw [if_neg (by decide)]
    exact hb.run hs1 (ss.mono s1 p1) h D (q.step s1 p1)
/-- f(..) as a statement, f may raise -/
def pCall (d : DP) (g : AF) : SP := fun ρ L => match g ρ L with
  | none => none
  | some (ws, L1) => match d ws L1 with
    | some (.ok _, L2) => some (.ok (.nx ρ L2))
    | some (.error p, L2) => some (.ex p L2)
    | none => none
theorem isp_call {k j : Nat} {x : Str} {p p2 : Pos} {ps : List Str} {d : DP} {g : AF} (G : DefP X.prog X.w X.K X.mg X.base k x C ps d) (hr : Room j X.A) (hkj : k ≤ j) (hg : Gl X x) (tk : Takes X (wE E)) (ha : IA X (e :: es) g) (hn : ∀ ρ L ws L', g ρ L = some (ws, L') → ws.length = ps.length)
    (hdb : (x == ("__debug__" : Str)) = false := by decide) (he : starEach (e :: es) X.env = (false, eval e X.env) :: starEach es X.env := by rfl) (hpl : (backTo pos (starEach es X.env)).any (·.1) = false := by rfl)
    (hs' : swapsWith (.Call (.Name x p) (e :: es) [] pos) none p2.line X.env = pure false := by rfl) :
    ISP X C E (.Expr (.Call (.Name x p) (e :: es) [] pos) p2) (pCall d g) := by
  obtain ⟨f, fd, F, hm, hk, hb⟩ := G.ex
  refine ⟨fun {Zx Z F1 φ L ρ σ H o} hs ss h D q => PS.wp (ps_expr (pe_callS (E := WE (wE E)) F (hr.mono hkj) hg hm hk hb (fun σ => passAt tk σ) wpA hdb he hpl) hs') ?_⟩
  unfold pCall at h
  split at h
  · cases h
  rename_i ws L1 e1
  refine ha.run hs ss e1 _ fun F2 φ2 H2 vs s2 p2 hs2 r2 => ?_
  cases e2 : d ws L1 with
  | none => rw [e2] at h; cases h
  | some r =>
    rw [e2] at h
    refine ⟨Z, F2, φ2, L1, ws, r, hs2, r2, hn _ _ _ _ e1, e2, ?_⟩
    obtain ⟨rw_, L'⟩ := r
    cases rw_ with
    | ok w =>
      simp only [Option.some.injEq] at h
      subst h
      exact fun Z' F' φ' H' v s3 p3 z hs3 r3 => q Z F' φ' σ H' (s2.trans s3) (List.IsPrefix.trans p2 p3) (hs3.weak z) (ss.mono (s2.trans s3) (List.IsPrefix.trans p2 p3))
    | error p =>
      simp only [Option.some.injEq] at h
      subst h
      exact fun Z' F' φ' H' d' s3 p3 z hs3 pay => q Z' F' φ' H' d' (s2.trans s3) (List.IsPrefix.trans p2 p3) (ss.out.trans z) hs3 pay
/-- the same as an expression, where it does not raise -/
def cPCall (d : DP) (g : AF) : EF := fun ρ L => match g ρ L with
  | none => none
  | some (ws, L1) => match d ws L1 with
    | some (.ok w, L2) => some (w, L2)
    | _ => none
theorem ie_pcall {k j : Nat} {x : Str} {p : Pos} {ps : List Str} {d : DP} {g : AF} (G : DefP X.prog X.w X.K X.mg X.base k x C ps d) (hr : Room j X.A) (hkj : k ≤ j) (hg : Gl X x) (tk : Takes X fun _ _ _ _ => False) (ha : IA X (e :: es) g) (hn : ∀ ρ L ws L', g ρ L = some (ws, L') → ws.length = ps.length)
    (hdb : (x == ("__debug__" : Str)) = false := by decide) (he : starEach (e :: es) X.env = (false, eval e X.env) :: starEach es X.env := by rfl) (hpl : (backTo pos (starEach es X.env)).any (·.1) = false := by rfl) :
    IE X (.Call (.Name x p) (e :: es) [] pos) (cPCall d g) := by
  obtain ⟨f, fd, F, hm, hk, hb⟩ := G.ex
  refine ⟨fun {Zx Z F1 φ L ρ σ H w L'} hs ss h Q q => PE.wp (pe_callS (E := WE fun _ _ _ _ => False) F (hr.mono hkj) hg hm hk hb (fun σ => passAt tk σ) wpA hdb he hpl) ?_⟩
  unfold cPCall at h
  split at h
  · cases h
  rename_i ws L1 e1
  refine ha.run hs ss e1 _ fun F2 φ2 H2 vs s2 p2 hs2 r2 => ?_
  split at h
  · rename_i w1 L2 e2
    simp only [Option.some.injEq, Prod.mk.injEq] at h
    obtain ⟨rfl, rfl⟩ := h
    exact ⟨Z, F2, φ2, L1, ws, _, hs2, r2, hn _ _ _ _ e1, e2, fun Z' F' φ' H' v s3 p3 z hs3 r3 => q F' φ' H' v (s2.trans s3) (List.IsPrefix.trans p2 p3) (hs3.weak z) r3⟩
  · cases h
/-! loops -/
def forLoopP (g : GF) (body : SP) : List W → Ro → Lg → Option OP
  | [], ρ, L => some (.ok (.nx ρ L))
  | x :: xs, ρ, L => match g x ρ with
    | none => none
    | some ρ1 => match body ρ1 L with
      | none => none
      | some (.ok (.nx ρ2 L2)) => forLoopP g body xs ρ2 L2
      | some (.ok (.ct ρ2 L2)) => forLoopP g body xs ρ2 L2
      | some (.ok (.bk ρ2 L2)) => some (.ok (.nx ρ2 L2))
      | some (.ok (.rt w L2)) => some (.ok (.rt w L2))
      | some (.ex p L2) => some (.ex p L2)
def pFor (src : AF) (g : GF) (body : SP) : SP := fun ρ L => match src ρ L with
  | none => none
  | some (xs, L1) => forLoopP g body xs ρ L1
theorem isp_for {tg iter : Expr} {bd : List Stmt} {src : AF} {g : GF} {body : SP} {ix : List Nat} (hp : PassesOwn (model X.prog X.w) X.A X.env X.xe) (hc : X.calm = true) (hi : II X tg iter src) (hg : IG X tg ix g) (hb : ISsP X C E bd body)
    (hs' : ∀ x, foldedSetIterable iter X.env x = pure x := by intro _; rfl) : ISP X C E (.For tg iter bd [] pos) (pFor src g body) := by
  refine ⟨fun {Zx Z F φ L ρ σ H o} hs ss h D q => PS.wp (ps_for hp hc wpI wpG wpSs hs') ?_⟩
  unfold pFor at h
  split at h
  · cases h
  rename_i xs L1 e1
  refine hi.run hs ss e1 _ fun F1 φ1 H1 J s1 p1 hs1 itok => ?_
  refine ⟨fun i mm σ' H' => mm = xs.length - i ∧ i ≤ xs.length ∧ ∃ (Z2 F2 : Hp) (φ2 : List Addr) (ρ2 : Ro) (L2 : Lg), Sub F1 F2 ∧ φ1 <+: φ2 ∧ Hs X.K X.mg Z2 F2 φ2 L2 H' ∧ Ss X.K Zx Z2 F2 φ2 ρ2 σ' ∧ forLoopP g body (xs.drop i) ρ2 L2 = some o,
    ⟨xs.length, rfl, Nat.zero_le _, Z, F1, φ1, ρ, L1, Sub.refl F1, List.prefix_refl φ1, hs1, ss.mono s1 p1, by simpa using h⟩, ?_⟩
  rintro i mm σ' H' ⟨rfl, hi', Z2, F2, φ2, ρ2, L2, s2, p2, hs2, ss2, e2⟩
  obtain ⟨it1, it2⟩ := itok i s2 p2 hs2
  by_cases hlt : i < xs.length
  · obtain ⟨go, yl⟩ := it1 _ (List.getElem?_eq_getElem hlt)
    refine .inr ⟨go, fun σ' H' => ∃ (Z2 F2 : Hp) (φ2 : List Addr) (ρ2 : Ro) (L2 : Lg), Sub F1 F2 ∧ φ1 <+: φ2 ∧ Hs X.K X.mg Z2 F2 φ2 L2 H' ∧ Ss X.K Zx Z2 F2 φ2 ρ2 σ' ∧ forLoopP g body (xs.drop (i + 1)) ρ2 L2 = some o,
      fun σ' H' n => ⟨xs.length - (i + 1), by omega, rfl, hlt, n⟩, fun v H3 y => ?_⟩
    obtain ⟨F3, s3, hs3, r3⟩ := yl v H3 y
    rw [List.drop_eq_getElem_cons hlt] at e2
    unfold forLoopP at e2
    split at e2
    · cases e2
    rename_i ρ3 g1
    refine hg.run hs3 (ss2.mono s3 (List.prefix_refl φ2)) r3 g1 _ fun σ4 ss4 _ => ?_
    have s13 := s2.trans s3
    cases e5 : body ρ3 L2 with
    | none => rw [e5] at e2; cases e2
    | some o1 =>
      rw [e5] at e2
      refine hb.run hs3 ss4 e5 _ ?_
      cases o1 with
      | ok o1 =>
        cases o1 with
        | nx ρ5 L5 => exact fun Z5 F5 φ5 σ5 H5 s5 p5 hs5 ss5 => ⟨Z5, F5, φ5, ρ5, L5, s13.trans s5, List.IsPrefix.trans p2 p5, hs5, ss5, e2⟩
        | ct ρ5 L5 => exact fun Z5 F5 φ5 σ5 H5 s5 p5 hs5 ss5 => ⟨Z5, F5, φ5, ρ5, L5, s13.trans s5, List.IsPrefix.trans p2 p5, hs5, ss5, e2⟩
        | bk ρ5 L5 =>
          cases e2
          exact fun Z5 F5 φ5 σ5 H5 s5 p5 hs5 ss5 => q Z5 F5 φ5 σ5 H5 (s1.trans (s13.trans s5)) (List.IsPrefix.trans p1 (List.IsPrefix.trans p2 p5)) hs5 ss5
        | rt w L5 =>
          cases e2
          exact fun Z5 F5 φ5 H5 v5 s5 p5 z hs5 r5 => q Z5 F5 φ5 H5 v5 (s1.trans (s13.trans s5)) (List.IsPrefix.trans p1 (List.IsPrefix.trans p2 p5)) z hs5 r5
      | ex p L5 =>
        cases e2
        exact fun Z5 F5 φ5 H5 d5 s5 p5 z hs5 pay => q Z5 F5 φ5 H5 d5 (s1.trans (s13.trans s5)) (List.IsPrefix.trans p1 (List.IsPrefix.trans p2 p5)) z hs5 pay
  · have ei : i = xs.length := by omega
    subst ei
    refine .inl ⟨it2 (Nat.le_refl _), ?_⟩
    rw [List.drop_length] at e2
    simp only [forLoopP, Option.some.injEq] at e2
    subst e2
    exact q Z2 F2 φ2 σ' H' (s1.trans s2) (List.IsPrefix.trans p1 p2) hs2 ss2
end
def runDefP (N : Nat) (body : SP) : DP := fun ws L => match body (ws.map Sl.va ++ List.replicate (N - ws.length) .un) L with
  | some (.ok (.nx _ L')) => some (.ok .non, L')
  | some (.ok (.rt w L')) => some (.ok w, L')
  | some (.ex p L') => some (.error p, L')
  | _ => none
section
variable {P : Program} {w : World} {K : PySem.W.Frag} {mg : Str → Option Value} {base : Heap}
theorem fn_okP {x qual : Str} {st : Stmt} {f C : Addr} {fd : FuncData} {N ps : List Str} {k : Nat} {body : SP} (F : FunD K x qual (defArgs st) (defBody st) (defScope st) [] [] f fd) (S : FnScope N ps (defScope st))
    (hb : ∀ (cdv : Value) (A : Around) (outer : List Env) (s : Shared) (H : Hp) (E : XK), Room k (A.deeper (envOfC qual (defScope st) s.heap.objs.size f cdv)) → ISsP (cxOf (L2.CX P w) P w K mg base N qual (defScope st) f cdv A outer s H E) C E (defBody st) body) :
    FnOk P w K mg base (L2.CX P w) (k + 1) f fd ps (spP K mg C ps.length (runDefP N.length body)) := by
  refine F.ok S (fun vs H Q E h => ?_) (fun cdv A outer s H vs Q E hr h => ?_)
  · obtain ⟨Z, F, φ, L, ws, w, h1, h2, h3, _⟩ := h
    rw [← h2.length]; exact h3
  · obtain ⟨Z, F1, φ, L, ws, r, h1, h2, h3, h4, q⟩ := h
    refine ⟨_, wpSs, ?_⟩
    unfold runDefP at h4
    split at h4
    · rename_i ρ1 L1 e1
      simp only [Option.some.injEq] at h4
      subst h4
      exact (hb cdv A outer s H E hr).run h1 (Ss.start h2) e1 _ fun Z' F' φ' σ' H' s1 p1 hs1 ss1 => q Z' F' φ' H' .non s1 p1 ss1.out hs1 .non
    · rename_i w2 L1 e1
      simp only [Option.some.injEq] at h4
      subst h4
      exact (hb cdv A outer s H E hr).run h1 (Ss.start h2) e1 _ fun Z' F' φ' H' v s1 p1 z hs1 r1 => q Z' F' φ' H' v s1 p1 z hs1 r1
    · rename_i p L1 e1
      simp only [Option.some.injEq] at h4
      subst h4
      exact (hb cdv A outer s H E hr).run h1 (Ss.start h2) e1 _ fun Z' F' φ' H' d s1 p1 z hs1 pay => q Z' F' φ' H' d s1 p1 z hs1 pay
    · cases h4
end
end Lf

set_option maxHeartbeats 4000000
/-! Lf, part BB: such a class: its __init__ walked, and raised. -/
namespace Lf
open PySem PySem.Spec PyProof.Rows L2
/-- C.__init__(self, ..), C an own class that takes ValueError's -/
theorem pe_oinit {X : Cx} {e : Expr} {es : List Expr} {ta : TA} {x : Str} {B : Addr} {p1 p2 pos : Pos} {pl : Sem Bool} (hg : Gl X x) (hm : X.mg x = some (.ref B)) (r : ClX.CRead X.K B (.type "type")) (k : PySem.W.findCls X.K (.ref B) (.type "type") "__init__" = some (.val (.builtin "ValueError.__init__"))) (ha : PA X (e :: es) ta)
    (hdb : (x == ("__debug__" : Str)) = false := by decide)
    (hc : eval (.Call (.Attribute (.Name x p1) "__init__" p2) (e :: es) [] pos) X.env = (do
      let ov ← eval (.Name x p1) X.env
      standAt p2.atName
      let (f, first) ← holding [ov] (getMethod ov "__init__" pl)
      callWith pos f first (backTo pos (starEach (e :: es) X.env)) (backToKw pos (keywordEach [] X.env))) := by rfl)
    (he : starEach (e :: es) X.env = (false, eval e X.env) :: starEach es X.env := by rfl) (hpl : (backTo pos (starEach es X.env)).any (·.1) = false := by rfl) :
    PE X (.Call (.Attribute (.Name x p1) "__init__" p2) (e :: es) [] pos) (tVeI X.K ta) := by
  refine ⟨fun pins s σ H Q I h => ?_⟩
  refine PySem.W.methodCall_KW (ld_glob I hg hm ?_ hdb) hc
  refine PySem.W.method_cls I.kIn r.ga (PySem.W.cls_value I.kIn r.rd k rfl ?_)
  show wpAny _ _ (callWith pos (Value.builtin "ValueError.__init__") [] (backTo pos (starEach (e :: es) X.env)) []) _ _ _
  refine PyProof.Rows.callWith_method1 (thn (ha.run pos pins _ σ H _ (I.tok _) h) fun us s1 ⟨vs, H1, I1, r1, a, C, ws, ev, hl, T, ea, q⟩ => ?_) he hpl
  subst ev
  cases r1 with
  | @cons _ u0 _ ur ra rw' =>
    obtain rfl : u0 = Value.ref a := ra
    have hlen : ur.length ≤ sizeLine := by
      rw [← Paired.length rw', sizeLine_eq]
      omega
    exact oinit_ok T I1 ea hlen fun s' J => ⟨.non, H1, J, rfl, q⟩
theorem len_app (a b : Str) : (a ++ b).length = a.length + b.length := by
  rw [← mk_of a, ← mk_of b, mk_app, mk_len, mk_len, mk_len, List.length_append]
theorem len_int {i : Int} (h0 : 0 ≤ i) (h1 : i < 300) : (Str.ofString (toString i)).length ≤ 4 := by
  rw [PySem.ofString_length]
  exact int_text_length_le10 (k := 3) (by decide) (by omega)
theorem log_int {i : Int} (h0 : 0 ≤ i) (h1 : i < 300) : i.natAbs.log2 < 1920 := by
  have : i.natAbs.log2 ≤ i.natAbs := Nat.log2_le_self _
  omega
/-- what such an __init__ does -/
def spIni (K : PySem.W.Frag) (C : Addr) : Sp := fun vs H Q _ => ∃ (a : Addr) (r c : Int), vs = [.ref a, .int r, .int c] ∧ (0 ≤ r ∧ r < 300) ∧ (0 ≤ c ∧ c < 300) ∧ H a = some (exo a C none) ∧
  ∀ dx : Addr, H dx = none → dx ≠ a → Q .non (upd (upd (upd H dx (exd dx [("row", .int r)])) a (exo a C (some dx))) dx (exd dx [("column", .int c), ("row", .int r)]))
abbrev iniT (K : PySem.W.Frag) : TS := tSeq (tDrop (tVeI K (tCons (tVar 0) (tCons (fun σ H Q => tJs [tC (.str "row "), tFmt (tVar 1), tC (.str ", column "), tFmt (tVar 2)] Str.empty σ H fun out H1 => Q (.str out) H1) tNil)))) (tSeq (tOst K "row" (tVar 0) (tVar 1)) (tOst K "column" (tVar 0) (tVar 2)))
theorem ini_run {K : PySem.W.Frag} {C : Addr} (T : OexC K C) (n1 : PySem.W.findIn K (.ref C) "row" = some none) (n2 : PySem.W.findIn K (.ref C) "column" = some none) {N : List Str} (hN : N.length = 3) {vs : List V} {H : Hp} {Q : VK} {E : XK} (h : spIni K C vs H Q E) :
    iniT K { nx := fun _ H' => Q .non H', rt := Q } (L2.start N vs) H := by
  obtain ⟨a, r, c, rfl, hr, hc, ha, q⟩ := h
  have st : L2.start N [V.ref a, .int r, .int c] = [some (.ref a), some (.int r), some (.int c)] := by
    unfold L2.start
    rw [hN]
    rfl
  rw [st]
  have s0 : ([some (V.ref a), some (.int r), some (.int c)] : L2.St)[0]? = some (some (.ref a)) := rfl
  have s1 : ([some (V.ref a), some (.int r), some (.int c)] : L2.St)[1]? = some (some (.int r)) := rfl
  have s2 : ([some (V.ref a), some (.int r), some (.int c)] : L2.St)[2]? = some (some (.int c)) := rfl
  have lr := len_int hr.1 hr.2
  have lc := len_int hc.1 hc.2
  have l1 : ("row " : Str).length = 4 := by rfl
  have l2 : (", column " : Str).length = 9 := by rfl
  have l0 : (Str.empty).length = 0 := rfl
  refine ⟨_, s0, "row ", rfl, ?_⟩
  refine ⟨by rw [len_app, l1, l0, sizeLine_eq]; decide, ?_⟩
  refine ⟨_, s1, .inr ⟨r, rfl, log_int hr.1 hr.2, _, rfl, by rw [len_app, len_app, l1, l0, sizeLine_eq]; omega, ?_⟩⟩
  refine ⟨", column ", rfl, by rw [len_app, len_app, len_app, l1, l2, l0, sizeLine_eq]; omega, ?_⟩
  refine ⟨_, s2, .inr ⟨c, rfl, log_int hc.1 hc.2, _, rfl, by rw [len_app, len_app, len_app, len_app, l1, l2, l0, sizeLine_eq]; omega, ?_⟩⟩
  refine ⟨a, C, _, rfl, by simp, T, ha, ?_⟩
  refine ⟨_, s1, _, s0, a, C, rfl, T, n1, .inl ⟨ha, fun dx hdx hne => ?_⟩⟩
  exact ⟨_, s2, _, s0, a, C, rfl, T, n2, .inr ⟨dx, [("row", .int r)], upd_same, by rw [upd_ne hne, upd_same], by simp, q dx hdx hne⟩⟩
section
variable {P : Program} {w : World} {K : PySem.W.Frag} {mg : Str → Option Value} {base : Heap}
theorem fn_okI {x qual : Str} {st : Stmt} {f C : Addr} {fd : FuncData} {N ps : List Str} {k : Nat} (F : FunD K x qual (defArgs st) (defBody st) (defScope st) [] [] f fd) (S : FnScope N ps (defScope st)) (hN : N.length = 3) (hps : ps.length = 3) (T : OexC K C) (n1 : PySem.W.findIn K (.ref C) "row" = some none) (n2 : PySem.W.findIn K (.ref C) "column" = some none)
    (hb : ∀ (cdv : Value) (A : Around) (outer : List Env) (s : Shared) (H : Hp) (E : XK), Room k (A.deeper (envOfC qual (defScope st) s.heap.objs.size f cdv)) → PSs (cxOf CX0 P w K mg base N qual (defScope st) f cdv A outer s H E).nox (defBody st) (iniT K)) :
    FnOk P w K mg base CX0 (k + 1) f fd ps (spIni K C) := by
  refine F.ok S (fun vs H Q E h => ?_) (fun cdv A outer s H vs Q E hr h => ?_)
  · obtain ⟨a, r, c, rfl, _⟩ := h
    rw [hps]; rfl
  · exact ⟨_, PSs.nox (hb cdv A outer s H E hr), ini_run T n1 n2 hN h⟩
end
/-- what the head says of the class -/
structure IniD (P : Program) (w : World) (K : PySem.W.Frag) (mg : Str → Option Value) (base : Heap) (k : Nat) (x : Str) (C : Addr) : Prop where
  ex : ∃ (fI : Addr) (fd : FuncData) (ps : List Str), OexC K C ∧ PySem.W.findIn K (.ref C) "__init__" = some (some (.ref fI)) ∧ PySem.W.typeIn K (.ref fI) = some (.type "function") ∧ FnOk P w K mg base CX0 k fI fd ps (spIni K C) ∧ Binds K fd ps [] ∧ mg x = some (.ref C)
def pRaise (g : AF) : SP := fun ρ L => match g ρ L with
  | some ([.int r, .int c], L') => if (0 ≤ r ∧ r < 300) ∧ 0 ≤ c ∧ c < 300 then some (.ex [("column", c), ("row", r)] L') else none
  | _ => none
theorem isp_raise {X : Cx} {C : Addr} {E : XK} {x : Str} {k j : Nat} {e : Expr} {es : List Expr} {p p3 pos : Pos} {g : AF} (D : IniD X.prog X.w X.K X.mg X.base k x C) (hc : X.calm = true) (tk : Takes X (wE E)) (hr : Room j X.A) (hkj : k + 1 ≤ j) (hg : Gl X x) (ha : IA X (e :: es) g)
    (hdb : (x == ("__debug__" : Str)) = false := by decide) (he : starEach (e :: es) X.env = (false, eval e X.env) :: starEach es X.env := by rfl) (hpl : (backTo p3 (starEach es X.env)).any (·.1) = false := by rfl) :
    ISP X C E (.Raise (some (.Call (.Name x p) (e :: es) [] p3)) none pos) (pRaise g) := by
  obtain ⟨fI, fd, ps, T, iC, tI, F1, hb, hm⟩ := D.ex
  refine ⟨fun {Zx Z F φ L ρ σ H o} hs ss h D' q => PS.wp (ps_raise hc tk (pmk_oex (dvs := []) T iC tI F1 (hr.mono hkj) hb .nil (pass0 (X := X)) hg hm wpA hdb he hpl)) ?_⟩
  unfold pRaise at h
  split at h
  · rename_i r c L1 e1
    split at h
    · rename_i hrc
      simp only [Option.some.injEq] at h
      subst h
      refine ha.run hs ss e1 _ fun F2 φ2 H2 vs s2 p2 hs2 r2 => ⟨by rw [← r2.length]; simp, fun a hna => ?_⟩
      obtain rfl : vs = [.int r, .int c] := by
        cases r2 with
        | cons ra rr => cases rr with
          | cons rb rr => cases rr; cases ra; cases rb; rfl
      refine ⟨a, r, c, rfl, hrc.1, hrc.2, upd_same, fun dx hdx hne => ⟨rfl, dx, [("column", .int c), ("row", .int r)], by rw [upd_ne (Ne.symm hne), upd_same], upd_same, by rw [upd_ne hne] at hdx; exact hdx, ?_⟩⟩
      rw [upd_ne hne] at hdx
      have e2 : upd (del (upd (upd (upd (upd H2 a (exo a C none)) dx (exd dx [("row", .int r)])) a (exo a C (some dx))) dx (exd dx [("column", .int c), ("row", .int r)])) a) dx (.xd [("column", .int c), ("row", .int r)]) = upd H2 dx (.xd [("column", .int c), ("row", .int r)]) := by
        funext b
        by_cases h1 : b = dx
        · rw [h1, upd_same, upd_same]
        · rw [upd_ne h1, upd_ne h1]
          by_cases h2 : b = a
          · rw [h2, del_same, hna]
          · rw [del_ne h2, upd_ne h1, upd_ne h2, upd_ne h1, upd_ne h2]
      rw [e2]
      have hs3 := hs2.fresh hdx (o := .xd [("column", .int c), ("row", .int r)])
      have zf := (hs2.free hdx).2.1
      refine q _ F2 φ2 _ dx s2 p2 (fun b o hb => ?_) hs3 upd_same
      have hb2 := ss.out b o hb
      rw [upd_ne (fun z => by rw [z, zf] at hb2; cases hb2)]
      exact hb2
    · cases h
  · cases h
end Lf

set_option maxHeartbeats 4000000
/-! Lf, part BC: try: x = f(y) except C as n: a suite that reads n's fields and returns. -/
namespace Lf
open PySem PySem.Spec PyProof.Rows L2
/-! ### in the suite: the exception stands in slot i, its dict at d -/
structure JP (X : Cx) (i : Nat) (x d : Addr) (e : Expr) (f : XP → EF) : Prop where
  run : ∀ {Zx Z F : Hp} {φ : List Addr} {L : Lg} {ρ : Ro} {σ : L2.St} {H : Hp} {p : XP} {w : W} {L' : Lg}, Hs X.K X.mg Z F φ L H → Ss X.K Zx Z F φ ρ σ → σ[i]? = some (some (.ref x)) → PayZ p d Z → f p ρ L = some (w, L') →
    ∀ Q : VK, (∀ (F' : Hp) (φ' : List Addr) (H' : Hp) (v : V), Sub F F' → φ <+: φ' → Hs X.K X.mg Z F' φ' L' H' → R X.K F' φ' w v → Q v H') → Wp X e σ H Q
structure JPA (X : Cx) (i : Nat) (x d : Addr) (es : List Expr) (f : XP → AF) : Prop where
  run : ∀ {Zx Z F : Hp} {φ : List Addr} {L : Lg} {ρ : Ro} {σ : L2.St} {H : Hp} {p : XP} {ws : List W} {L' : Lg}, Hs X.K X.mg Z F φ L H → Ss X.K Zx Z F φ ρ σ → σ[i]? = some (some (.ref x)) → PayZ p d Z → f p ρ L = some (ws, L') →
    ∀ Q : List V → Hp → Prop, (∀ (F' : Hp) (φ' : List Addr) (H' : Hp) (vs : List V), Sub F F' → φ <+: φ' → Hs X.K X.mg Z F' φ' L' H' → Rs X.K F' φ' ws vs → Q vs H') → WpA X es σ H Q
structure JPR (X : Cx) (i : Nat) (x d : Addr) (sts : List Stmt) (f : XP → EF) : Prop where
  run : ∀ {Zx Z F : Hp} {φ : List Addr} {L : Lg} {ρ : Ro} {σ : L2.St} {H : Hp} {p : XP} {w : W} {L' : Lg}, Hs X.K X.mg Z F φ L H → Ss X.K Zx Z F φ ρ σ → σ[i]? = some (some (.ref x)) → PayZ p d Z → f p ρ L = some (w, L') →
    ∀ D : Ends, EndOk X Zx F φ D (.rt w L') → WpSs X sts D σ H
section
variable {X : Cx} {i : Nat} {x d : Addr} {e a b : Expr} {es : List Expr} {pos : Pos}
theorem jp_of {f : EF} (h : IE X e f) : JP X i x d e (fun _ => f) := ⟨fun hs ss _ _ h' Q q => h.run hs ss h' Q q⟩
theorem jp_not {f : XP → EF} (ha : JP X i x d a f) : JP X i x d (.UnaryOp .Not a pos) (fun p => cNotV (f p)) := by
  refine ⟨fun {Zx Z F φ L ρ σ H p w L'} hs ss hx hp h Q q => PE.wp (pe_not wpE) ?_⟩
  simp only [cNotV] at h
  split at h
  · rename_i k L1 e1
    simp only [Option.some.injEq, Prod.mk.injEq] at h
    obtain ⟨rfl, rfl⟩ := h
    refine ha.run hs ss hx hp e1 _ fun F' φ' H' v s1 p1 hs1 r1 => ?_
    cases r1
    exact ⟨k, rfl, q F' φ' H' _ s1 p1 hs1 (.bl _)⟩
  · cases h
theorem jp_one {op} {f : XP → EF} (ha : JP X i x d a f) : JP X i x d (.BoolOp op [a] pos) f := ⟨fun hs ss hx hp h Q q => PE.wp (pe_one wpE) (ha.run hs ss hx hp h Q q)⟩
theorem jp_and {f g : XP → EF} (ha : JP X i x d a f) (hb : JP X i x d (.BoolOp .And (b :: es) pos) g) : JP X i x d (.BoolOp .And (a :: b :: es) pos) (fun p => cAndV (f p) (g p)) := by
  refine ⟨fun {Zx Z F φ L ρ σ H p w L'} hs ss hx hp h Q q => PE.wp (pe_and wpE wpE) ?_⟩
  simp only [cAndV] at h
  split at h
  · rename_i L1 e1
    refine ha.run hs ss hx hp e1 _ fun F1 φ1 H1 v s1 p1 hs1 r1 => ?_
    cases r1
    refine ⟨true, rfl, ?_⟩
    rw [if_pos rfl]
    exact hb.run hs1 (ss.mono s1 p1) hx hp h Q fun F2 φ2 H2 v s2 p2 hs2 => q F2 φ2 H2 v (s1.trans s2) (List.IsPrefix.trans p1 p2) hs2
  · rename_i L1 e1
    simp only [Option.some.injEq, Prod.mk.injEq] at h
    obtain ⟨rfl, rfl⟩ := h
    refine ha.run hs ss hx hp e1 _ fun F1 φ1 H1 v s1 p1 hs1 r1 => ?_
    cases r1
    refine ⟨false, rfl, ?_⟩
    rw [if_neg (by decide)]
    exact q F1 φ1 H1 _ s1 p1 hs1 (.bl _)
  · cases h
theorem jp_or {f g : XP → EF} (ha : JP X i x d a f) (hb : JP X i x d (.BoolOp .Or (b :: es) pos) g) : JP X i x d (.BoolOp .Or (a :: b :: es) pos) (fun p => cOrV (f p) (g p)) := by
  refine ⟨fun {Zx Z F φ L ρ σ H p w L'} hs ss hx hp h Q q => PE.wp (pe_or wpE wpE) ?_⟩
  simp only [cOrV] at h
  split at h
  · rename_i L1 e1
    simp only [Option.some.injEq, Prod.mk.injEq] at h
    obtain ⟨rfl, rfl⟩ := h
    refine ha.run hs ss hx hp e1 _ fun F1 φ1 H1 v s1 p1 hs1 r1 => ?_
    cases r1
    refine ⟨true, rfl, ?_⟩
    rw [if_pos rfl]
    exact q F1 φ1 H1 _ s1 p1 hs1 (.bl _)
  · rename_i L1 e1
    refine ha.run hs ss hx hp e1 _ fun F1 φ1 H1 v s1 p1 hs1 r1 => ?_
    cases r1
    refine ⟨false, rfl, ?_⟩
    rw [if_neg (by decide)]
    exact hb.run hs1 (ss.mono s1 p1) hx hp h Q fun F2 φ2 H2 v s2 p2 hs2 => q F2 φ2 H2 v (s1.trans s2) (List.IsPrefix.trans p1 p2) hs2
  · cases h
theorem jpa_nil : JPA X i x d [] (fun _ => cNil) := ⟨fun hs ss _ _ h Q q => ia_nil.run hs ss h Q q⟩
theorem jpa_cons {f : XP → EF} {g : XP → AF} (ha : JP X i x d e f) (hr : JPA X i x d es g) (hs' : starEach (e :: es) X.env = (false, eval e X.env) :: starEach es X.env := by rfl) : JPA X i x d (e :: es) (fun p => cCons (f p) (g p)) := by
  refine ⟨fun {Zx Z F φ L ρ σ H p w L'} hs ss hx hp h Q q => PA.wp (pa_cons wpE wpA hs') ?_⟩
  simp only [cCons] at h
  split at h
  · cases h
  rename_i x1 L1 e1
  split at h
  · cases h
  rename_i xs L2 e2
  simp only [Option.some.injEq, Prod.mk.injEq] at h
  obtain ⟨rfl, rfl⟩ := h
  refine ha.run hs ss hx hp e1 _ fun F1 φ1 H1 v s1 p1 hs1 r1 => ?_
  exact hr.run hs1 (ss.mono s1 p1) hx hp e2 _ fun F2 φ2 H2 vs s2 p2 hs2 r2 => q F2 φ2 H2 (v :: vs) (s1.trans s2) (List.IsPrefix.trans p1 p2) hs2 (.cons (r1.mono s2 p2) r2)
theorem jp_tup {g : XP → AF} {k} (h : JPA X i x d es g) : JP X i x d (.Tuple es k pos) (fun p => cTup (g p)) := by
  refine ⟨fun {Zx Z F φ L ρ σ H p w L'} hs ss hx hp h' Q q => PE.wp (pe_tup wpA) ?_⟩
  simp only [cTup] at h'
  split at h'
  · cases h'
  rename_i ws L1 e1
  split at h'
  · rename_i hz
    simp only [Option.some.injEq, Prod.mk.injEq] at h'
    obtain ⟨rfl, rfl⟩ := h'
    refine h.run hs ss hx hp e1 _ fun F1 φ1 H1 vs s1 p1 hs1 r1 => ⟨by rw [← r1.length, sizeLine_eq]; omega, fun p hp => ?_⟩
    exact newT (Q := Q) hs1 r1 (fun F' H' v s2 hs2 r2 => q F' φ1 H' v (s1.trans s2) p1 hs2 r2) hp
  · cases h'
theorem jp_eq {f : XP → EF} {fb : EF} (hu : X.A.units + 64 < cLine) (ha : JP X i x d a f) (hb : IE X b fb) : JP X i x d (.Compare a [.Eq] [b] pos) (fun p => cOp eqW (f p) fb) := by
  refine ⟨fun {Zx Z F φ L ρ σ H p w L'} hs ss hx hp h Q q => PE.wp (pe_cmpR (orR op_eq (op_eqD hu)) wpE wpE (nomark _)) ?_⟩
  simp only [cOp] at h
  split at h
  · cases h
  rename_i w1 L1 e1
  split at h
  · cases h
  rename_i w2 L2 e2
  refine ha.run hs ss hx hp e1 _ fun F1 φ1 H1 v1 s1 p1 hs1 r1 => ?_
  refine hb.run hs1 (ss.mono s1 p1) e2 _ fun F2 φ2 H2 v2 s2 p2 hs2 r2 => ?_
  cases e3 : eqW w1 w2 with
  | none => rw [e3] at h; cases h
  | some w3 =>
    rw [e3] at h
    simp only [Option.some.injEq, Prod.mk.injEq] at h
    obtain ⟨rfl, rfl⟩ := h
    exact op2_eq hs2 (r1.mono s2 p2) r2 e3 Q fun F3 H3 v3 s3 hs3 r3 => q F3 φ2 H3 v3 (s1.trans (s2.trans s3)) (List.IsPrefix.trans p1 p2) hs3 r3
theorem jpr_two {f1 f2 : XP → EF} {j : Nat} {y : Str} {e1 e2 : Expr} {py p1 p2 : Pos} (ne : i ≠ j) (hN : X.N.Nodup) (hi : X.N[j]? = some y) (hy : Loc X.env.scope y) (h1 : JP X i x d e1 f1) (h2 : JP X i x d e2 f2) (hs' : swapsWith e1 (some (.Name y py)) p1.line X.env = pure false := by rfl)
    (hf : X.fn y = true ∨ X.env.scope.names.lookup y = some .local := by first | exact .inl rfl | exact .inr rfl | assumption) : JPR X i x d [.Assign [.Name y py] e1 p1, .Return (some e2) p2] (fun p => cSuite (f1 p) j (f2 p)) := by
  refine ⟨fun {Zx Z F φ L ρ σ H p w L'} hs ss hx hp h D q => PSs.wp (pss_cons (ps_set hN hi hy wpE hs' hf) (pss_one (ps_ret wpE))) ?_⟩
  simp only [cSuite] at h
  split at h
  · rename_i w1 L1 k1
    split at h
    · rename_i hj
      refine h1.run hs ss hx hp k1 _ fun F1 φ1 H1 v s1 p1 hs1 r1 => ?_
      refine h2.run hs1 ((ss.mono s1 p1).setva hj r1) (by rw [List.getElem?_set_ne (Ne.symm ne)]; exact hx) hp h _ fun F2 φ2 H2 v2 s2 p2 hs2 r2 => ?_
      exact q Z F2 φ2 H2 v2 (s1.trans s2) (List.IsPrefix.trans p1 p2) ss.out hs2 r2
    · cases h
  · cases h
end
/-- isinstance(e, c), e the exception that the suite holds, its dict at dd -/
def rIsD (K : PySem.W.Frag) (D a dd : Addr) : List V → Hp → VK → Prop := fun xs H Q => ∃ (c : V) (cv : Value) (b : Bool) (fs : List (Str × V)), xs = [.ref a, c] ∧ (∀ u, RelV c u → u = cv) ∧ PySem.W.kitOne K (.ref D) cv = some b ∧ H dd = some (.xd fs) ∧ Q (.bl b) H
theorem call_isD {X : Cx} {a D dd : Addr} {oe : Obj} {pn : List (Addr × Obj)} (C : ExcC X.K D) (hz : Zc (.ref D) (some dd) oe) (hf : ∃ vs, oe.data = .fields vs) : CallR (X.suite a ((a, oe) :: pn)) (.builtin "isinstance") (rIsD X.K D a dd) := by
  intro pins s σ H xs us Q I r h
  obtain ⟨c, cv, b, fs, rfl, hcv, e, hdd, q⟩ := h
  cases r with
  | cons rx rr =>
    cases rr with
    | cons rt rr =>
      cases rr
      cases rx
      have ec := hcv _ rt
      subst ec
      obtain ⟨hget, _⟩ := I.pin (a, oe) (List.mem_append.mpr (.inl List.mem_cons_self))
      obtain ⟨vs, hv⟩ := hf
      have hx : ObjOk X.prog X.w H s.heap dd (.xd fs) := I.hok dd _ hdd
      obtain ⟨mA, hns, hr⟩ := hx
      obtain ⟨od, ho, hl⟩ := lookIn_ns hns
      have J : PySem.W.InstAt s.heap a oe D (some od) := ⟨hget, hz.1, by unfold PySem.W.notCls; rw [hv] <;> rfl, by rw [hz.2]; exact ho⟩
      obtain ⟨cd, hcd, _⟩ := PySem.W.any_some C.hd
      exact PySem.W.kia_one (PySem.W.kitx_exc (od := some od) (by rw [hcd]; rfl) C.hg C.hk C.hs C.ha C.hn C.ht C.hm) I.kIn J e (fun z => nomatch z) fun tk => ⟨.bl b, H, I.kept (t' := tk) fun _ _ z => z, rfl, q⟩
section
variable {X : Cx} {a D dd : Addr} {oe : Obj} {pn : List (Addr × Obj)} {pos : Pos}
theorem jp_isO {i : Nat} {n c : Str} {C : Addr} {b : Bool} {p p1 p2 : Pos} (Cx_ : ExcC X.K D) (hz : Zc (.ref D) (some dd) oe) (hf : ∃ vs, oe.data = .fields vs) (hg : Gl X "isinstance") (hm : X.mg "isinstance" = none) (hN : X.N[i]? = some n) (hv : Vis X.env.scope n) (hgc : Gl X c) (hc : X.mg c = some (.ref C)) (k : PySem.W.kitOne X.K (.ref D) (.ref C) = some b)
    (hd : (n == ("__debug__" : Str)) = false := by decide) (hcd : (n == ("__classdict__" : Str)) = false := by decide) (hdc : (c == ("__debug__" : Str)) = false := by decide) :
    JP (X.suite a ((a, oe) :: pn)) i a dd (.Call (.Name "isinstance" p) [.Name n p1, .Name c p2] [] pos) (fun _ => cK (.bl b)) := by
  refine ⟨fun {Zx Z F φ L ρ σ H q w L'} hs ss hx hp h Q qq => PE.wp (pe_callB (X := X.suite a ((a, oe) :: pn)) (call_isD Cx_ hz hf) hg hm (by decide +kernel) (pa_cons (pe_var (i := i) hN hv hd hcd) (pa_cons (pe_glob (v := .ref C) hgc hc rfl hdc) pa_nil))) ?_⟩
  simp only [cK, Option.some.injEq, Prod.mk.injEq] at h
  obtain ⟨rfl, rfl⟩ := h
  exact ⟨_, hx, .ref C, .ref C, b, _, rfl, fun u hu => hu, k, (hs.ext _ _ hp).1, qq F φ H _ (Sub.refl F) (List.prefix_refl φ) hs (.bl b)⟩
theorem jp_isT {i : Nat} {n c : Str} {T : String} {b : Bool} {p p1 p2 : Pos} (Cx_ : ExcC X.K D) (hz : Zc (.ref D) (some dd) oe) (hf : ∃ vs, oe.data = .fields vs) (hg : Gl X "isinstance") (hm : X.mg "isinstance" = none) (hN : X.N[i]? = some n) (hv : Vis X.env.scope n) (hgc : Gl X c) (hc : X.mg c = none) (hb : bootBuiltins c = some (.type T)) (k : PySem.W.kitOne X.K (.ref D) (.type T) = some b)
    (hd : (n == ("__debug__" : Str)) = false := by decide) (hcd : (n == ("__classdict__" : Str)) = false := by decide) (hdc : (c == ("__debug__" : Str)) = false := by decide) (hnn : c ≠ "__name__" := by decide) :
    JP (X.suite a ((a, oe) :: pn)) i a dd (.Call (.Name "isinstance" p) [.Name n p1, .Name c p2] [] pos) (fun _ => cK (.bl b)) := by
  refine ⟨fun {Zx Z F φ L ρ σ H q w L'} hs ss hx hp h Q qq => PE.wp (pe_callB (X := X.suite a ((a, oe) :: pn)) (call_isD Cx_ hz hf) hg hm (by decide +kernel) (pa_cons (pe_var (i := i) hN hv hd hcd) (pa_cons (pe_bltn (v := .ty T) hgc hc hb rfl hnn hdc) pa_nil))) ?_⟩
  simp only [cK, Option.some.injEq, Prod.mk.injEq] at h
  obtain ⟨rfl, rfl⟩ := h
  exact ⟨_, hx, .ty T, .type T, b, _, rfl, fun u hu => hu, k, (hs.ext _ _ hp).1, qq F φ H _ (Sub.refl F) (List.prefix_refl φ) hs (.bl b)⟩
def cXf (f : Str) : XP → EF := fun p _ L => match p.lookup f with
  | some i => some (.int i, L)
  | none => none
theorem xd_lookup (f : Str) : ∀ (p : XP), (xdV p).lookup f = (p.lookup f).map V.int
  | [] => rfl
  | (g, i) :: p => by
    have ih := xd_lookup f p
    unfold xdV at *
    simp only [List.map_cons, List.lookup]
    cases h : f == g
    · exact ih
    · rfl
/-- n.f -/
theorem jp_fld {i : Nat} {n f : Str} {p1 : Pos} (T : XfC X.K D) (hno : PySem.W.findIn X.K (.ref D) f = some none) (hz : Zc (.ref D) (some dd) oe) (hf : ∃ vs, oe.data = .fields vs) (hN : X.N[i]? = some n) (hv : Vis X.env.scope n)
    (hd : (n == ("__debug__" : Str)) = false := by decide) (hcd : (n == ("__classdict__" : Str)) = false := by decide)
    (hb : attributeBase (.Name n p1) f X.env (eval (.Name n p1) X.env) = eval (.Name n p1) X.env := by rfl) :
    JP (X.suite a ((a, oe) :: pn)) i a dd (.Attribute (.Name n p1) f pos) (cXf f) := by
  refine ⟨fun {Zx Z F φ L ρ σ H q w L'} hs ss hx hp h Q qq => PE.wp (pe_xf (X := X) T hno hz hf (pe_var (X := X.suite a ((a, oe) :: pn)) (i := i) hN hv hd hcd) hb) ?_⟩
  unfold cXf at h
  split at h
  · rename_i k hk
    simp only [Option.some.injEq, Prod.mk.injEq] at h
    obtain ⟨rfl, rfl⟩ := h
    exact ⟨_, hx, rfl, rfl, dd, _, .int k, rfl, (hs.ext _ _ hp).1, by rw [xd_lookup, hk]; rfl, qq F φ H _ (Sub.refl F) (List.prefix_refl φ) hs (.int k)⟩
  · cases h
end
/-! ### try -/
def cTryP (d : DP) (y j i : Nat) (fs : XP → EF) : SF := fun ρ L => match ρ[y]?, ρ[i]? with
  | some (.va w), some .un => (match d [w] L with
    | some (.ok v, L') => if j < ρ.length then some (.nx (ρ.set j (.va v)) L') else none
    | some (.error p, L') => (match fs p ρ L' with
      | some (v, L2) => some (.rt v L2)
      | none => none)
    | none => none)
  | _, _ => none
section
variable {X : Cx}
theorem is_tryP {x n fn xj xy : Str} {c : Value} {C : Addr} {i j y k k' : Nat} {ps : List Str} {d : DP} {b0 : Stmt} {suite : List Stmt} {fs : XP → EF} {np pos pos' pf pc py pj pa : Pos}
    (hst : X.stack = X.env :: X.outer) (hf : X.env.frame = some X.env.locals) (hN : X.N.Nodup) (hi : X.N[i]? = some n) (hln : X.env.kindOf n = some .local) (hc : Names X x c) (tk0 : Takes X fun _ _ _ _ => False)
    (G : DefP X.prog X.w X.K X.mg X.base k fn C ps d) (hp : ps.length = 1) (hr : Room k' X.A) (hkk : k ≤ k') (hgf : Gl X fn) (hdf : (fn == ("__debug__" : Str)) = false)
    (hy : X.N[y]? = some xy) (hvy : Vis X.env.scope xy) (hdy : (xy == ("__debug__" : Str)) = false) (hcy : (xy == ("__classdict__" : Str)) = false)
    (hj : X.N[j]? = some xj) (hlj : Loc X.env.scope xj) (hfj : X.fn xj = true ∨ X.env.scope.names.lookup xj = some .local)
    (hsw : ∀ env : Env, env = X.env → swapsWith (.Call (.Name fn pf) [.Name xy py] [] pc) (some (.Name xj pj)) pa.line env = pure false)
    (hex : PySem.W.exmOne X.K (.ref C) c = some true)
    (hsu : ∀ (a dd : Addr) (oe : Obj) (pn : List (Addr × Obj)), Zc (.ref C) (some dd) oe → (∃ vs, oe.data = .fields vs) → JPR (X.suite a ((a, oe) :: pn)) i a dd (b0 :: suite) fs) :
    IS X (.Try [.Assign [.Name xj pj] (.Call (.Name fn pf) [.Name xy py] [] pc) pa] [.ExceptHandler (some (.Name x np)) (some n) (b0 :: suite) pos'] [] [] pos) (cTryP d y j i fs) := by
  obtain ⟨f, fd, F0, hm, hk, hb⟩ := G.ex
  refine ⟨fun {Zx Z F φ L ρ σ H o} hs ss h D q => PS.wp (ps_try_as (tb := fun W => tAsg (tCallS (spP X.K X.mg C ps.length d) (WE W) (tCons (tVar y) tNil)) (gName j))
    (ts := fun a cls dd D σ H => ∀ (oe : Obj) (pn : List (Addr × Obj)), Zc cls dd oe → (∃ vs, oe.data = .fields vs) → WpSs (X.suite a ((a, oe) :: pn)) (b0 :: suite) D σ H) (Wout := fun _ _ _ _ => False) hst hf hN hi hln hc tk0
    (fun W pn xe tk _ => pss_one (ps_set (X := X.tr pn xe) hN hj hlj (pe_callS (X := X.tr pn xe) (E := WE W) F0 (hr.mono hkk) hgf hm hk hb (fun σ => passAt tk σ) (pa_cons (pe_var (i := y) hy hvy hdy hcy) pa_nil) hdf) (hsw _ rfl) hfj))
    (fun a oe cls dd pn hz hv => ⟨fun pins s σ H D I t => wpSs.run pins s σ H D I (t oe pn hz hv)⟩)) ?_⟩
  unfold cTryP at h
  split at h
  · rename_i w k1 k2
    obtain ⟨v, hv, rv⟩ := ss.va y w k1
    have key : ∀ r, d [w] L = some r → ReOkP X.K X.mg Z F φ (fun v H1 => D.nx (σ.set j (some v)) H1) (wAs X.K c i (fun a cls dd D σ H => ∀ (oe : Obj) (pn : List (Addr × Obj)), Zc cls dd oe → (∃ vs, oe.data = .fields vs) → WpSs (X.suite a ((a, oe) :: pn)) (b0 :: suite) D σ H) (fun _ _ _ _ => False) D (.ref C) · σ ·) r →
        tAsg (tCallS (spP X.K X.mg C ps.length d) (WE (wAs X.K c i (fun a cls dd D σ H => ∀ (oe : Obj) (pn : List (Addr × Obj)), Zc cls dd oe → (∃ vs, oe.data = .fields vs) → WpSs (X.suite a ((a, oe) :: pn)) (b0 :: suite) D σ H) (fun _ _ _ _ => False) D)) (tCons (tVar y) tNil)) (gName j) D σ H := fun r e1 ok =>
      ⟨v, hv, Z, F, φ, L, [w], r, hs, Rs.one rv, by rw [hp]; rfl, e1, ok⟩
    cases e1 : d [w] L with
    | none => rw [e1] at h; cases h
    | some r =>
      rw [e1] at h
      refine key r e1 ?_
      obtain ⟨rw_, L'⟩ := r
      cases rw_ with
      | ok w2 =>
        simp only at h
        split at h
        · rename_i hjl
          simp only [Option.some.injEq] at h
          subst h
          exact fun Z' F' φ' H' v2 s1 p1 z hs1 r1 => q Z F' φ' _ H' s1 p1 (hs1.weak z) ((ss.mono s1 p1).setva hjl r1)
        · cases h
      | error p =>
        simp only at h
        split at h
        · rename_i v2 L2 e2
          simp only [Option.some.injEq] at h
          subst h
          intro Z' F' φ' H' dd s1 p1 z hs1 pay
          refine ⟨true, hex, fun _ a0 ha => ?_, fun z => nomatch z⟩
          intro oe pn hz hvv
          have hil : i < σ.length := by
            rw [← ss.len]; exact (List.getElem?_eq_some_iff.mp k2).1
          refine (hsu a0 dd oe pn hz hvv).run (Zx := Zx) hs1 (((ss.mono s1 p1).upZ z).setun k2) (by rw [List.getElem?_set_self hil]) pay e2 _ ?_
          exact EndOk.step s1 p1 q
        · cases h
  · cases h
end
end Lf

set_option maxHeartbeats 4000000
/-! Lf, part BD: what the head must say for such a class; equations. -/
namespace Lf
open PySem PySem.Spec PyProof.Rows L2
def oexB (K : PySem.W.Frag) (C : Addr) : Bool :=
  (match K.lookup C with
    | some ⟨.type "type", _, .cls cd, sl⟩ => (match cd.mro, sl.toList with
      | .ref C' :: bm, [_, _, _, _, some (.builtin n), _] => C' == C && n == "ValueError.__new__" && !cd.hasDel && cd.hasDict && PySem.HandSPX.refsVE bm
      | _, _ => false)
    | _ => false) && (decide (PySem.W.findIn K (.ref C) "__setattr__" = some (some (.builtin "object.__setattr__"))) && (decide (PySem.W.subIn K (.ref C) (.type "BaseException") = some true) && (decide (PySem.W.typeIn K (.ref C) = some (.type "type")) && PySem.W.keepIn K (.ref C))))
theorem oexB_ok {K : PySem.W.Frag} {C : Addr} (h : oexB K C = true) : OexC K C := by
  unfold oexB at h
  rw [Bool.and_eq_true, Bool.and_eq_true, Bool.and_eq_true, Bool.and_eq_true] at h
  obtain ⟨q, h1, h2, h3, h4⟩ := h
  refine ⟨?_, of_decide_eq_true h1, of_decide_eq_true h2, of_decide_eq_true h3, h4⟩
  split at q
  · rename_i dd cd sl ho
    split at q
    · rename_i C' bm k0 k1 k2 k3 n k5 hm hs
      simp only [Bool.and_eq_true, beq_iff_eq, Bool.not_eq_true'] at q
      obtain ⟨⟨⟨⟨rfl, rfl⟩, hdel⟩, hdic⟩, ht⟩ := q
      obtain ⟨nm, bs, mro, ns, qn, hd, sn, sub, ab, col, del⟩ := cd
      dsimp only at hm hdel hdic
      subst hm hdel hdic
      have hsl : sl = #[k0, k1, k2, k3, some (.builtin "ValueError.__new__"), k5] := by
        obtain ⟨l⟩ := sl
        simp only at hs
        rw [hs]
      subst hsl
      exact ⟨nm, qn, ns, bs, bm, sn, sub, ab, col, dd, k0, k1, k2, k3, k5, ho, ht⟩
    · cases q
  · cases q
/-- the class whose __init__ is called by name -/
structure BaseC (K : PySem.W.Frag) (B : Addr) : Prop where
  r : ClX.CRead K B (.type "type")
  k : PySem.W.findCls K (.ref B) (.type "type") "__init__" = some (.val (.builtin "ValueError.__init__"))
def baseB (K : PySem.W.Frag) (B : Addr) : Bool := PySem.W.readsIn K B (.type "type") && (decide (PySem.W.specialIn K (.ref B) "__getattribute__" = some (some (.builtin "type.__getattribute__"))) &&
  (match PySem.W.findCls K (.ref B) (.type "type") "__init__" with
    | some (.val (.builtin n)) => n == "ValueError.__init__"
    | _ => false))
theorem baseB_ok {K : PySem.W.Frag} {B : Addr} (h : baseB K B = true) : BaseC K B := by
  unfold baseB at h
  rw [Bool.and_eq_true, Bool.and_eq_true] at h
  obtain ⟨h1, h2, h3⟩ := h
  refine ⟨⟨h1, of_decide_eq_true h2⟩, ?_⟩
  split at h3
  · rename_i n e
    rw [e, beq_iff_eq.mp h3]
  · cases h3
theorem iniD_of {P : Program} {w : World} {K : PySem.W.Frag} {mg : Str → Option Value} {base : Heap} {k : Nat} {x : Str} {C f : Addr} {fd : FuncData} {ps : List Str} (hm : mg x = some (.ref C)) (T : OexC K C) (M : Meth K C "__init__" f) (F : FnOk P w K mg base CX0 k f fd ps (spIni K C)) (B : Binds K fd ps []) : IniD P w K mg base k x C :=
  ⟨f, fd, ps, T, M.at_, beq_iff_eq.mp M.fn, F, B, hm⟩
/-! ### the head, with the machine's own class statics in sight -/
def asG (g : Addr → Option Obj) (n : Nat) : List Addr := He.asD g n ++ [cStatics]
def obsG (n : Nat) (fa : List He.Fa) (fn : List He.DefD) (ex : PySem.W.Frag → Bool) (g : Addr → Option Obj) : AlE := (He.obsD fa fn (He.frG g (asG g n)), ex (He.frG g (asG g n)))
def hookG (n : Nat) (fa : List He.Fa) (fn : List He.DefD) (ex : PySem.W.Frag → Bool) : PySem.W.Hook where
  α := AlE
  obs := fun s => obsG n fa fn ex s.heap.get?
  val := fun _ => (He.valD fn, true)
  says := fun _ h => ∃ K : PySem.W.Frag, K.In h ∧ (He.SaysD fa fn K ∧ ex K = true)
  of := fun _ _ e => ⟨_, He.frG_in, congrArg Prod.fst e, congrArg Prod.snd e⟩
  keeps := fun _ _ _ ⟨K, hK, c⟩ k => ⟨K, PySem.W.Frag.In.keeps hK k, c⟩
theorem obsG_eq {n : Nat} {fa : List He.Fa} {fn : List He.DefD} {ex : PySem.W.Frag → Bool} {g : Addr → Option Obj} {s : Shared} (h : ∀ a, g a = s.heap.get? a) : obsG n fa fn ex g = (hookG n fa fn ex).obs s := by
  have e : g = s.heap.get? := funext h
  rw [e]; rfl
/-! as equations -/
@[simp] theorem e_pOk (f : SF) (ρ : Ro) (L : Lg) : pOk f ρ L = (match f ρ L with
  | some o => some (.ok o)
  | none => none) := id rfl
@[simp] theorem e_pSeq (f g : SP) (ρ : Ro) (L : Lg) : pSeq f g ρ L = (match f ρ L with
  | some (.ok (.nx ρ1 L1)) => g ρ1 L1
  | o => o) := id rfl
@[simp] theorem e_pNx (ρ : Ro) (L : Lg) : pNx ρ L = some (.ok (.nx ρ L)) := id rfl
@[simp] theorem e_pIf (t : TF) (f g : SP) (ρ : Ro) (L : Lg) : pIf t f g ρ L = (match t ρ L with
  | none => none
  | some (true, L') => f ρ L'
  | some (false, L') => g ρ L') := id rfl
@[simp] theorem e_pCall (d : DP) (g : AF) (ρ : Ro) (L : Lg) : pCall d g ρ L = (match g ρ L with
  | none => none
  | some (ws, L1) => match d ws L1 with
    | some (.ok _, L2) => some (.ok (.nx ρ L2))
    | some (.error p, L2) => some (.ex p L2)
    | none => none) := id rfl
@[simp] theorem e_cPCall (d : DP) (g : AF) (ρ : Ro) (L : Lg) : cPCall d g ρ L = (match g ρ L with
  | none => none
  | some (ws, L1) => match d ws L1 with
    | some (.ok w, L2) => some (w, L2)
    | _ => none) := id rfl
@[simp] theorem e_pRaise (g : AF) (ρ : Ro) (L : Lg) : pRaise g ρ L = (match g ρ L with
  | some ([.int r, .int c], L') => if (0 ≤ r ∧ r < 300) ∧ 0 ≤ c ∧ c < 300 then some (.ex [("column", c), ("row", r)] L') else none
  | _ => none) := id rfl
@[simp] theorem e_pFor (src : AF) (g : GF) (body : SP) (ρ : Ro) (L : Lg) : pFor src g body ρ L = (match src ρ L with
  | none => none
  | some (xs, L1) => forLoopP g body xs ρ L1) := id rfl
theorem e_runDefP (N : Nat) (body : SP) (ws : List W) (L : Lg) : runDefP N body ws L = (match body (ws.map Sl.va ++ List.replicate (N - ws.length) .un) L with
  | some (.ok (.nx _ L')) => some (.ok .non, L')
  | some (.ok (.rt w L')) => some (.ok w, L')
  | some (.ex p L') => some (.error p, L')
  | _ => none) := id rfl
@[simp] theorem e_cXf (f : Str) (p : XP) (ρ : Ro) (L : Lg) : cXf f p ρ L = (match p.lookup f with
  | some i => some (.int i, L)
  | none => none) := id rfl
@[simp] theorem e_cTryP (d : DP) (y j i : Nat) (fs : XP → EF) (ρ : Ro) (L : Lg) : cTryP d y j i fs ρ L = (match ρ[y]?, ρ[i]? with
  | some (.va w), some .un => (match d [w] L with
    | some (.ok v, L') => if j < ρ.length then some (.nx (ρ.set j (.va v)) L') else none
    | some (.error p, L') => (match fs p ρ L' with
      | some (v, L2) => some (.rt v L2)
      | none => none)
    | none => none)
  | _, _ => none) := id rfl
theorem forP_nx {g : GF} {body : SP} {x : W} {xs : List W} {ρ ρ1 ρ2 : Ro} {L L2 : Lg} (h1 : g x ρ = some ρ1) (h2 : body ρ1 L = some (.ok (.nx ρ2 L2))) : forLoopP g body (x :: xs) ρ L = forLoopP g body xs ρ2 L2 := by
  simp only [forLoopP, h1, h2]
theorem forP_ex {g : GF} {body : SP} {x : W} {xs : List W} {ρ ρ1 : Ro} {p : XP} {L L2 : Lg} (h1 : g x ρ = some ρ1) (h2 : body ρ1 L = some (.ex p L2)) : forLoopP g body (x :: xs) ρ L = some (.ex p L2) := by
  simp only [forLoopP, h1, h2]
theorem pseq_nx {f g : SP} {ρ ρ1 : Ro} {L L1 : Lg} (h : f ρ L = some (.ok (.nx ρ1 L1))) : pSeq f g ρ L = g ρ1 L1 := by rw [e_pSeq, h]
theorem pseq_ex {f g : SP} {ρ : Ro} {p : XP} {L L1 : Lg} (h : f ρ L = some (.ex p L1)) : pSeq f g ρ L = some (.ex p L1) := by rw [e_pSeq, h]
end Lf

/-! the law k05: its text by places, what each def computes, and that it does. Printed by a program of ours. -/
namespace Law
open PySem PySem.Spec PyProof.Rows L2 Lf
def top (i : Nat) : Stmt := PySem.Challenge.pw_longlife_k05_pictures_and_their_faults.main.body.getD i (.Pass ⟨0, 0, 0, 0⟩)
def clsBody : Stmt → List Stmt
  | .ClassDef _ _ _ b _ _ _ _ _ _ _ => b
  | _ => []
abbrev s_law_integer : Stmt := top 16
abbrev N_law_integer : List Str := ["value"]
abbrev p_law_integer : List Str := ["value"]
abbrev s_law_cells : Stmt := top 17
abbrev N_law_cells : List Str := ["value", "cell"]
abbrev p_law_cells : List Str := ["value"]
abbrev s_InvalidPicture_init : Stmt := ((clsBody (top 4)).getD 0 (.Pass ⟨0, 0, 0, 0⟩))
abbrev N_InvalidPicture_init : List Str := ["self", "row", "column"]
abbrev p_InvalidPicture_init : List Str := ["self", "row", "column"]
abbrev s_check_string : Stmt := top 11
abbrev N_check_string : List Str := ["strings", "row", "string", "column", "sign"]
abbrev p_check_string : List Str := ["strings", "row"]
abbrev s_read_picture : Stmt := top 12
abbrev N_read_picture : List Str := ["strings", "result", "row", "string", "column", "sign"]
abbrev p_read_picture : List Str := ["strings"]
abbrev s_law_due : Stmt := top 19
abbrev N_law_due : List Str := ["strings", "found", "r", "c"]
abbrev p_law_due : List Str := ["strings"]
abbrev s_law_cell : Stmt := top 14
abbrev N_law_cell : List Str := ["script", "k"]
abbrev p_law_cell : List Str := ["script", "k"]
abbrev s_law_row : Stmt := top 15
abbrev N_law_row : List Str := ["cell", "count", "bound", "rest", "mixed", "row", "k"]
abbrev p_law_row : List Str := ["cell", "count", "bound"]
abbrev s_picture_rows : Stmt := top 9
abbrev N_picture_rows : List Str := ["cells", "height", "width", "rows", "row", "column", "_"]
abbrev p_picture_rows : List Str := ["cells", "height", "width"]
abbrev s_pattern : Stmt := top 6
abbrev N_pattern : List Str := ["cells"]
abbrev p_pattern : List Str := ["cells"]
abbrev s_moved : Stmt := top 7
abbrev N_moved : List Str := ["cells", "rows", "columns", "row", "column"]
abbrev p_moved : List Str := ["cells", "rows", "columns"]
abbrev s_home : Stmt := top 8
abbrev N_home : List Str := ["cells", "top", "left", "row", "_", "column"]
abbrev p_home : List Str := ["cells"]
abbrev s_picture : Stmt := top 10
abbrev N_picture : List Str := ["cells", "found", "height", "width", "row", "_", "column"]
abbrev p_picture : List Str := ["cells"]
abbrev s_law_some : Stmt := top 18
abbrev N_law_some : List Str := ["cell", "count", "height", "width", "x", "found", "y", "place"]
abbrev p_law_some : List Str := ["cell", "count", "height", "width"]
abbrev s_law : Stmt := top 20
abbrev N_law : List Str := ["script", "first", "cells", "strings", "top", "left", "due", "r", "width", "other", "k", "x", "at", "found", "fault", "handed", "told", "error", "others", "c"]
abbrev p_law : List Str := ["script"]
structure Txt (K : PySem.W.Frag) (mg : Str → Option Value) : Prop where
  ValueError : mg "ValueError" = none
  abs : mg "abs" = none
  bool : mg "bool" = none
  enumerate : mg "enumerate" = none
  int : mg "int" = none
  isinstance : mg "isinstance" = none
  len : mg "len" = none
  list : mg "list" = none
  max : mg "max" = none
  min : mg "min" = none
  range : mg "range" = none
  set : mg "set" = none
  sorted : mg "sorted" = none
  tuple : mg "tuple" = none
  exc_InvalidPicture : ExcC K (He.ga K "InvalidPicture")
  kit_InvalidPicture_InvalidText : PySem.W.kitOne K (.ref (He.ga K "InvalidPicture")) (.ref (He.ga K "InvalidText")) = some false
  glo_InvalidText : mg "InvalidText" = some (.ref (He.ga K "InvalidText"))
  kit_InvalidPicture_InvalidRule : PySem.W.kitOne K (.ref (He.ga K "InvalidPicture")) (.ref (He.ga K "InvalidRule")) = some false
  glo_InvalidRule : mg "InvalidRule" = some (.ref (He.ga K "InvalidRule"))
  kit_InvalidPicture_ValueError : PySem.W.kitOne K (.ref (He.ga K "InvalidPicture")) (.type "ValueError") = some true
  kit_InvalidPicture_InvalidPicture : PySem.W.kitOne K (.ref (He.ga K "InvalidPicture")) (.ref (He.ga K "InvalidPicture")) = some true
  glo_InvalidPicture : mg "InvalidPicture" = some (.ref (He.ga K "InvalidPicture"))
  xfc_InvalidPicture : XfC K (He.ga K "InvalidPicture")
  nof_InvalidPicture_column : PySem.W.findIn K (.ref (He.ga K "InvalidPicture")) "column" = some none
  nof_InvalidPicture_row : PySem.W.findIn K (.ref (He.ga K "InvalidPicture")) "row" = some none
  glo_LifeError : mg "LifeError" = some (.ref (He.ga K "LifeError"))
  exm_InvalidPicture_LifeError : PySem.W.exmOne K (.ref (He.ga K "InvalidPicture")) (.ref (He.ga K "LifeError")) = some true
  oex_InvalidPicture : OexC K (He.ga K "InvalidPicture")
  bas_LifeError : BaseC K (He.ga K "LifeError")
abbrev FnP (K : PySem.W.Frag) (x y : Str) (st : Stmt) (f : Addr) (fd : FuncData) : Prop := FunD K x y (defArgs st) (defBody st) (defScope st) [] [] f fd
def b_law_integer : SF :=
      (cRet (cAndV (cN (isiW "int") (cCons (cVar 0) (cCons (cK (.ty "int")) cNil))) (cNotV (cN (isiW "bool") (cCons (cVar 0) (cCons (cK (.ty "bool")) cNil))))))
theorem ub_law_integer (ρ : Ro) (L : Lg) : b_law_integer ρ L = (cRet (cAndV (cN (isiW "int") (cCons (cVar 0) (cCons (cK (.ty "int")) cNil))) (cNotV (cN (isiW "bool") (cCons (cVar 0) (cCons (cK (.ty "bool")) cNil)))))) ρ L := id rfl
def d_law_integer : DF := runDef 1 b_law_integer
theorem ud_law_integer (ws : List W) (L : Lg) : d_law_integer ws L = runDef 1 b_law_integer ws L := id rfl
def for_law_cells1 : SF :=
      (cIfS (cOr (cNot (cTru (cN (isiW "tuple") (cCons (cVar 1) (cCons (cK (.ty "tuple")) cNil))))) (cOr (asT (cOp neW (cC lenW (cNm 1)) (cK (.int 2)))) (cOr (cNot (cTru (cCall d_law_integer (cCons (cIx ixW (cNm 1) (cK (.int 0))) cNil)))) (cNot (cTru (cCall d_law_integer (cCons (cIx ixW (cNm 1) (cK (.int 1))) cNil))))))) (cRet (cK (.bl false))) cNx)
theorem ufor_law_cells1 (ρ : Ro) (L : Lg) : for_law_cells1 ρ L = (cIfS (cOr (cNot (cTru (cN (isiW "tuple") (cCons (cVar 1) (cCons (cK (.ty "tuple")) cNil))))) (cOr (asT (cOp neW (cC lenW (cNm 1)) (cK (.int 2)))) (cOr (cNot (cTru (cCall d_law_integer (cCons (cIx ixW (cNm 1) (cK (.int 0))) cNil)))) (cNot (cTru (cCall d_law_integer (cCons (cIx ixW (cNm 1) (cK (.int 1))) cNil))))))) (cRet (cK (.bl false))) cNx) ρ L := id rfl
def b_law_cells : SF :=
      (cSeq (cIfS (cNot (cTru (cN (isiW "list") (cCons (cVar 0) (cCons (cK (.ty "list")) cNil))))) (cRet (cK (.bl false))) cNx)
      (cSeq (cFor (sLst (cVar 0)) (gN 1) for_law_cells1)
      (cRet (cOp eqW (cVar 0) (cFz (nSort (cNm 0)))))))
theorem ub_law_cells (ρ : Ro) (L : Lg) : b_law_cells ρ L = (cSeq (cIfS (cNot (cTru (cN (isiW "list") (cCons (cVar 0) (cCons (cK (.ty "list")) cNil))))) (cRet (cK (.bl false))) cNx)
      (cSeq (cFor (sLst (cVar 0)) (gN 1) for_law_cells1)
      (cRet (cOp eqW (cVar 0) (cFz (nSort (cNm 0))))))) ρ L := id rfl
def d_law_cells : DF := runDef 2 b_law_cells
theorem ud_law_cells (ws : List W) (L : Lg) : d_law_cells ws L = runDef 2 b_law_cells ws L := id rfl
def for_check_string1 : SP :=
      (pIf (cAnd (asT (cOp neW (cVar 4) (cK (.str ".")))) (asT (cOp neW (cVar 4) (cK (.str "O"))))) (pRaise (cCons (cVar 1) (cCons (cVar 3) cNil))) pNx)
theorem ufor_check_string1 (ρ : Ro) (L : Lg) : for_check_string1 ρ L = (pIf (cAnd (asT (cOp neW (cVar 4) (cK (.str ".")))) (asT (cOp neW (cVar 4) (cK (.str "O"))))) (pRaise (cCons (cVar 1) (cCons (cVar 3) cNil))) pNx) ρ L := id rfl
def b_check_string : SP :=
      (pSeq (pOk (cSet 2 (cIx ixW (cNm 0) (cVar 1))))
      (pSeq (pFor (sEnS (cVar 2)) (gTupW 2 (gsC (gN 3) (gsC (gN 4) gsN))) for_check_string1)
      (pIf (asT (cOp neW (cC lenW (cNm 2)) (cC lenW (cOf (cIx ixW (cNm 0) (cK (.int 0))))))) (pRaise (cCons (cVar 1) (cCons (cN minW2 (cCons (cC lenW (cNm 2)) (cCons (cC lenW (cOf (cIx ixW (cNm 0) (cK (.int 0))))) cNil))) cNil))) pNx)))
theorem ub_check_string (ρ : Ro) (L : Lg) : b_check_string ρ L = (pSeq (pOk (cSet 2 (cIx ixW (cNm 0) (cVar 1))))
      (pSeq (pFor (sEnS (cVar 2)) (gTupW 2 (gsC (gN 3) (gsC (gN 4) gsN))) for_check_string1)
      (pIf (asT (cOp neW (cC lenW (cNm 2)) (cC lenW (cOf (cIx ixW (cNm 0) (cK (.int 0))))))) (pRaise (cCons (cVar 1) (cCons (cN minW2 (cCons (cC lenW (cNm 2)) (cCons (cC lenW (cOf (cIx ixW (cNm 0) (cK (.int 0))))) cNil))) cNil))) pNx))) ρ L := id rfl
def d_check_string : DP := runDefP 5 b_check_string
theorem ud_check_string (ws : List W) (L : Lg) : d_check_string ws L = runDefP 5 b_check_string ws L := id rfl
def for_read_picture1 : SP :=
      (pIf (asT (cOp eqW (cVar 5) (cK (.str "O")))) (pOk (cApp 1 (cTup (cCons (cVar 2) (cCons (cVar 4) cNil))))) pNx)
theorem ufor_read_picture1 (ρ : Ro) (L : Lg) : for_read_picture1 ρ L = (pIf (asT (cOp eqW (cVar 5) (cK (.str "O")))) (pOk (cApp 1 (cTup (cCons (cVar 2) (cCons (cVar 4) cNil))))) pNx) ρ L := id rfl
def for_read_picture2 : SP :=
      (pSeq (pCall d_check_string (cCons (cVar 0) (cCons (cVar 2) cNil)))
      (pFor (sEnS (cVar 3)) (gTupW 2 (gsC (gN 4) (gsC (gN 5) gsN))) for_read_picture1))
theorem ufor_read_picture2 (ρ : Ro) (L : Lg) : for_read_picture2 ρ L = (pSeq (pCall d_check_string (cCons (cVar 0) (cCons (cVar 2) cNil)))
      (pFor (sEnS (cVar 3)) (gTupW 2 (gsC (gN 4) (gsC (gN 5) gsN))) for_read_picture1)) ρ L := id rfl
def b_read_picture : SP :=
      (pSeq (pOk (cSetO 1 (cLst cNil)))
      (pSeq (pFor (sEn (cVar 0)) (gTupW 2 (gsC (gN 2) (gsC (gN 3) gsN))) for_read_picture2)
      (pOk (cFr 1 (cRet (cVar 1))))))
theorem ub_read_picture (ρ : Ro) (L : Lg) : b_read_picture ρ L = (pSeq (pOk (cSetO 1 (cLst cNil)))
      (pSeq (pFor (sEn (cVar 0)) (gTupW 2 (gsC (gN 2) (gsC (gN 3) gsN))) for_read_picture2)
      (pOk (cFr 1 (cRet (cVar 1)))))) ρ L := id rfl
def d_read_picture : DP := runDefP 6 b_read_picture
theorem ud_read_picture (ws : List W) (L : Lg) : d_read_picture ws L = runDefP 6 b_read_picture ws L := id rfl
def for_law_due1 : SF :=
      (cSeq (cIfS (asT (cOp (inSW true) (cIx ixW (cOf (cIx ixW (cNm 0) (cVar 2))) (cVar 3)) (cK (.str ".O")))) (cFr 1 (cRet (cTup (cCons (cVar 1) (cCons (cTup (cCons (cVar 2) (cCons (cVar 3) cNil))) cNil))))) cNx)
      (cIfS (asT (cOp eqW (cIx ixW (cOf (cIx ixW (cNm 0) (cVar 2))) (cVar 3)) (cK (.str "O")))) (cApp 1 (cTup (cCons (cVar 2) (cCons (cVar 3) cNil)))) cNx))
theorem ufor_law_due1 (ρ : Ro) (L : Lg) : for_law_due1 ρ L = (cSeq (cIfS (asT (cOp (inSW true) (cIx ixW (cOf (cIx ixW (cNm 0) (cVar 2))) (cVar 3)) (cK (.str ".O")))) (cFr 1 (cRet (cTup (cCons (cVar 1) (cCons (cTup (cCons (cVar 2) (cCons (cVar 3) cNil))) cNil))))) cNx)
      (cIfS (asT (cOp eqW (cIx ixW (cOf (cIx ixW (cNm 0) (cVar 2))) (cVar 3)) (cK (.str "O")))) (cApp 1 (cTup (cCons (cVar 2) (cCons (cVar 3) cNil)))) cNx)) ρ L := id rfl
def for_law_due2 : SF :=
      (cSeq (cFor (sRange1 (cCons (cC lenW (cOf (cIx ixW (cNm 0) (cVar 2)))) cNil)) (gN 3) for_law_due1)
      (cIfS (asT (cOp neW (cC lenW (cOf (cIx ixW (cNm 0) (cVar 2)))) (cC lenW (cOf (cIx ixW (cNm 0) (cK (.int 0))))))) (cFr 1 (cRet (cTup (cCons (cVar 1) (cCons (cTup (cCons (cVar 2) (cCons (cN minW2 (cCons (cC lenW (cOf (cIx ixW (cNm 0) (cVar 2)))) (cCons (cC lenW (cOf (cIx ixW (cNm 0) (cK (.int 0))))) cNil))) cNil))) cNil))))) cNx))
theorem ufor_law_due2 (ρ : Ro) (L : Lg) : for_law_due2 ρ L = (cSeq (cFor (sRange1 (cCons (cC lenW (cOf (cIx ixW (cNm 0) (cVar 2)))) cNil)) (gN 3) for_law_due1)
      (cIfS (asT (cOp neW (cC lenW (cOf (cIx ixW (cNm 0) (cVar 2)))) (cC lenW (cOf (cIx ixW (cNm 0) (cK (.int 0))))))) (cFr 1 (cRet (cTup (cCons (cVar 1) (cCons (cTup (cCons (cVar 2) (cCons (cN minW2 (cCons (cC lenW (cOf (cIx ixW (cNm 0) (cVar 2)))) (cCons (cC lenW (cOf (cIx ixW (cNm 0) (cK (.int 0))))) cNil))) cNil))) cNil))))) cNx)) ρ L := id rfl
def b_law_due : SF :=
      (cSeq (cSetO 1 (cLst cNil))
      (cSeq (cFor (sRange1 (cCons (cC lenW (cNm 0)) cNil)) (gN 2) for_law_due2)
      (cFr 1 (cRet (cTup (cCons (cVar 1) (cCons (cK .non) cNil)))))))
theorem ub_law_due (ρ : Ro) (L : Lg) : b_law_due ρ L = (cSeq (cSetO 1 (cLst cNil))
      (cSeq (cFor (sRange1 (cCons (cC lenW (cNm 0)) cNil)) (gN 2) for_law_due2)
      (cFr 1 (cRet (cTup (cCons (cVar 1) (cCons (cK .non) cNil))))))) ρ L := id rfl
def d_law_due : DF := runDef 4 b_law_due
theorem ud_law_due (ws : List W) (L : Lg) : d_law_due ws L = runDef 4 b_law_due ws L := id rfl
def b_law_cell : SF :=
      (cSeq (cIfS (asT (cOp (cmpI fun i j => decide (i < j)) (cVar 1) (cC lenW (cNm 0)))) (cRet (cN intW (cCons (cIx ixW (cNm 0) (cVar 1)) cNil))) cNx)
      (cRet (cK (.int 0))))
theorem ub_law_cell (ρ : Ro) (L : Lg) : b_law_cell ρ L = (cSeq (cIfS (asT (cOp (cmpI fun i j => decide (i < j)) (cVar 1) (cC lenW (cNm 0)))) (cRet (cN intW (cCons (cIx ixW (cNm 0) (cVar 1)) cNil))) cNx)
      (cRet (cK (.int 0)))) ρ L := id rfl
def d_law_cell : DF := runDef 2 b_law_cell
theorem ud_law_cell (ws : List W) (L : Lg) : d_law_cell ws L = runDef 2 b_law_cell ws L := id rfl
def for_law_row1 : SF :=
      (cIfS (asT (cOp (cmpI fun i j => decide (j ≤ i)) (cVar 3) (cVar 2))) (cSeq (cApp 5 (cOp modW (cN intW (cCons (cVar 3) cNil)) (cVar 2)))
      (cSet 3 (cOp fdivW (cVar 3) (cVar 2)))) (cSeq (cSet 4 (cOp modW (cN intW (cCons (cOp addW (cOp addW (cOp mulW (cVar 4) (cK (.int 48271))) (cOp mulW (cK (.int 11)) (cVar 6))) (cK (.int 7))) cNil)) (cK (.int 2147483647))))
      (cApp 5 (cOp modW (cN intW (cCons (cOp fdivW (cOp mulW (cVar 4) (cK (.int 2862933555777941757))) (cK (.int 1024))) cNil)) (cVar 2)))))
theorem ufor_law_row1 (ρ : Ro) (L : Lg) : for_law_row1 ρ L = (cIfS (asT (cOp (cmpI fun i j => decide (j ≤ i)) (cVar 3) (cVar 2))) (cSeq (cApp 5 (cOp modW (cN intW (cCons (cVar 3) cNil)) (cVar 2)))
      (cSet 3 (cOp fdivW (cVar 3) (cVar 2)))) (cSeq (cSet 4 (cOp modW (cN intW (cCons (cOp addW (cOp addW (cOp mulW (cVar 4) (cK (.int 48271))) (cOp mulW (cK (.int 11)) (cVar 6))) (cK (.int 7))) cNil)) (cK (.int 2147483647))))
      (cApp 5 (cOp modW (cN intW (cCons (cOp fdivW (cOp mulW (cVar 4) (cK (.int 2862933555777941757))) (cK (.int 1024))) cNil)) (cVar 2))))) ρ L := id rfl
def b_law_row : SF :=
      (cSeq (cSet 3 (cN absW (cCons (cN intW (cCons (cVar 0) cNil)) cNil)))
      (cSeq (cSet 4 (cOp addW (cOp modW (cN intW (cCons (cVar 0) cNil)) (cK (.int 1000003))) (cK (.int 1))))
      (cSeq (cSetO 5 (cLst cNil))
      (cSeq (cFor (sRange1 (cCons (cVar 1) cNil)) (gN 6) for_law_row1)
      (cFr 5 (cRet (cVar 5)))))))
theorem ub_law_row (ρ : Ro) (L : Lg) : b_law_row ρ L = (cSeq (cSet 3 (cN absW (cCons (cN intW (cCons (cVar 0) cNil)) cNil)))
      (cSeq (cSet 4 (cOp addW (cOp modW (cN intW (cCons (cVar 0) cNil)) (cK (.int 1000003))) (cK (.int 1))))
      (cSeq (cSetO 5 (cLst cNil))
      (cSeq (cFor (sRange1 (cCons (cVar 1) cNil)) (gN 6) for_law_row1)
      (cFr 5 (cRet (cVar 5))))))) ρ L := id rfl
def d_law_row : DF := runDef 7 b_law_row
theorem ud_law_row (ws : List W) (L : Lg) : d_law_row ws L = runDef 7 b_law_row ws L := id rfl
def for_picture_rows1 : SF :=
      (cLPutE (cIx ixW (cNm 3) (cVar 4)) (cVar 5) (cK (.str "O")))
theorem ufor_picture_rows1 (ρ : Ro) (L : Lg) : for_picture_rows1 ρ L = (cLPutE (cIx ixW (cNm 3) (cVar 4)) (cVar 5) (cK (.str "O"))) ρ L := id rfl
def b_picture_rows : SF :=
      (cSeq (cFz2 3 (cSetO 3 (cLc (sRange1 (cCons (cVar 1) cNil)) (gN 6) cYes (cBox (nRep (cLst (cCons (cK (.str ".")) cNil)) (cVar 2))) (List.map (fun x => x.2) ([("_", 6)] : List (Str × Nat))))))
      (cSeq (cFor (sLst (cVar 0)) (gTupW 2 (gsC (gN 4) (gsC (gN 5) gsN))) for_picture_rows1)
      (cRet (cFz (cLc (sLst (cVar 3)) (gN 4) cYes (cJoin (cK (.str "")) (cNm 4)) (List.map (fun x => x.2) ([("row", 4)] : List (Str × Nat))))))))
theorem ub_picture_rows (ρ : Ro) (L : Lg) : b_picture_rows ρ L = (cSeq (cFz2 3 (cSetO 3 (cLc (sRange1 (cCons (cVar 1) cNil)) (gN 6) cYes (cBox (nRep (cLst (cCons (cK (.str ".")) cNil)) (cVar 2))) (List.map (fun x => x.2) ([("_", 6)] : List (Str × Nat))))))
      (cSeq (cFor (sLst (cVar 0)) (gTupW 2 (gsC (gN 4) (gsC (gN 5) gsN))) for_picture_rows1)
      (cRet (cFz (cLc (sLst (cVar 3)) (gN 4) cYes (cJoin (cK (.str "")) (cNm 4)) (List.map (fun x => x.2) ([("row", 4)] : List (Str × Nat)))))))) ρ L := id rfl
def d_picture_rows : DF := runDef 7 b_picture_rows
theorem ud_picture_rows (ws : List W) (L : Lg) : d_picture_rows ws L = runDef 7 b_picture_rows ws L := id rfl
def b_pattern : SF :=
      (cRet (cFz (nSsetG (cNm 0))))
theorem ub_pattern (ρ : Ro) (L : Lg) : b_pattern ρ L = (cRet (cFz (nSsetG (cNm 0)))) ρ L := id rfl
def d_pattern : DF := runDef 1 b_pattern
theorem ud_pattern (ws : List W) (L : Lg) : d_pattern ws L = runDef 1 b_pattern ws L := id rfl
def b_moved : SF :=
      (cRet (cCall d_pattern (cCons (cFz (cLc (sLst (cVar 0)) (gTupW 2 (gsC (gN 3) (gsC (gN 4) gsN))) cYes (cTup (cCons (cOp addW (cVar 3) (cVar 1)) (cCons (cOp addW (cVar 4) (cVar 2)) cNil))) (List.map (fun x => x.2) ([("row", 3), ("column", 4)] : List (Str × Nat))))) cNil)))
theorem ub_moved (ρ : Ro) (L : Lg) : b_moved ρ L = (cRet (cCall d_pattern (cCons (cFz (cLc (sLst (cVar 0)) (gTupW 2 (gsC (gN 3) (gsC (gN 4) gsN))) cYes (cTup (cCons (cOp addW (cVar 3) (cVar 1)) (cCons (cOp addW (cVar 4) (cVar 2)) cNil))) (List.map (fun x => x.2) ([("row", 3), ("column", 4)] : List (Str × Nat))))) cNil))) ρ L := id rfl
def d_moved : DF := runDef 5 b_moved
theorem ud_moved (ws : List W) (L : Lg) : d_moved ws L = runDef 5 b_moved ws L := id rfl
def b_home : SF :=
      (cSeq (cIfS (cNot (cTruO (cNm 0))) (cRet (cFz (cLst cNil))) cNx)
      (cSeq (cSet 1 (cC minW1 (cOf (cFz (cLc (sLst (cVar 0)) (gTupW 2 (gsC (gN 3) (gsC (gN 4) gsN))) cYes (cVar 3) (List.map (fun x => x.2) ([("row", 3), ("_", 4)] : List (Str × Nat))))))))
      (cSeq (cSet 2 (cC minW1 (cOf (cFz (cLc (sLst (cVar 0)) (gTupW 2 (gsC (gN 4) (gsC (gN 5) gsN))) cYes (cVar 5) (List.map (fun x => x.2) ([("_", 4), ("column", 5)] : List (Str × Nat))))))))
      (cRet (cCall d_moved (cCons (cVar 0) (cCons (cUn negW (cVar 1)) (cCons (cUn negW (cVar 2)) cNil))))))))
theorem ub_home (ρ : Ro) (L : Lg) : b_home ρ L = (cSeq (cIfS (cNot (cTruO (cNm 0))) (cRet (cFz (cLst cNil))) cNx)
      (cSeq (cSet 1 (cC minW1 (cOf (cFz (cLc (sLst (cVar 0)) (gTupW 2 (gsC (gN 3) (gsC (gN 4) gsN))) cYes (cVar 3) (List.map (fun x => x.2) ([("row", 3), ("_", 4)] : List (Str × Nat))))))))
      (cSeq (cSet 2 (cC minW1 (cOf (cFz (cLc (sLst (cVar 0)) (gTupW 2 (gsC (gN 4) (gsC (gN 5) gsN))) cYes (cVar 5) (List.map (fun x => x.2) ([("_", 4), ("column", 5)] : List (Str × Nat))))))))
      (cRet (cCall d_moved (cCons (cVar 0) (cCons (cUn negW (cVar 1)) (cCons (cUn negW (cVar 2)) cNil)))))))) ρ L := id rfl
def d_home : DF := runDef 6 b_home
theorem ud_home (ws : List W) (L : Lg) : d_home ws L = runDef 6 b_home ws L := id rfl
def b_picture : SF :=
      (cSeq (cSet 1 (cCall d_home (cCons (cVar 0) cNil)))
      (cSeq (cIfS (cNot (cTruO (cNm 1))) (cRet (cFz (cLst cNil))) cNx)
      (cSeq (cSet 2 (cOp addW (cK (.int 1)) (cC maxW1 (cOf (cFz (cLc (sLst (cVar 1)) (gTupW 2 (gsC (gN 4) (gsC (gN 5) gsN))) cYes (cVar 4) (List.map (fun x => x.2) ([("row", 4), ("_", 5)] : List (Str × Nat)))))))))
      (cSeq (cSet 3 (cOp addW (cK (.int 1)) (cC maxW1 (cOf (cFz (cLc (sLst (cVar 1)) (gTupW 2 (gsC (gN 5) (gsC (gN 6) gsN))) cYes (cVar 6) (List.map (fun x => x.2) ([("_", 5), ("column", 6)] : List (Str × Nat)))))))))
      (cRet (cCall d_picture_rows (cCons (cVar 1) (cCons (cVar 2) (cCons (cVar 3) cNil)))))))))
theorem ub_picture (ρ : Ro) (L : Lg) : b_picture ρ L = (cSeq (cSet 1 (cCall d_home (cCons (cVar 0) cNil)))
      (cSeq (cIfS (cNot (cTruO (cNm 1))) (cRet (cFz (cLst cNil))) cNx)
      (cSeq (cSet 2 (cOp addW (cK (.int 1)) (cC maxW1 (cOf (cFz (cLc (sLst (cVar 1)) (gTupW 2 (gsC (gN 4) (gsC (gN 5) gsN))) cYes (cVar 4) (List.map (fun x => x.2) ([("row", 4), ("_", 5)] : List (Str × Nat)))))))))
      (cSeq (cSet 3 (cOp addW (cK (.int 1)) (cC maxW1 (cOf (cFz (cLc (sLst (cVar 1)) (gTupW 2 (gsC (gN 5) (gsC (gN 6) gsN))) cYes (cVar 6) (List.map (fun x => x.2) ([("_", 5), ("column", 6)] : List (Str × Nat)))))))))
      (cRet (cCall d_picture_rows (cCons (cVar 1) (cCons (cVar 2) (cCons (cVar 3) cNil))))))))) ρ L := id rfl
def d_picture : DF := runDef 7 b_picture
theorem ud_picture (ws : List W) (L : Lg) : d_picture ws L = runDef 7 b_picture ws L := id rfl
def for_law_some1 : SF :=
      (cPut 5 (cTup (cCons (cOp fdivW (cVar 6) (cVar 3)) (cCons (cOp modW (cVar 6) (cVar 3)) cNil))) (cK (.bl true)))
theorem ufor_law_some1 (ρ : Ro) (L : Lg) : for_law_some1 ρ L = (cPut 5 (cTup (cCons (cOp fdivW (cVar 6) (cVar 3)) (cCons (cOp modW (cVar 6) (cVar 3)) cNil))) (cK (.bl true))) ρ L := id rfl
def b_law_some : SF :=
      (cSeq (cSet 4 (cN absW (cCons (cN intW (cCons (cVar 0) cNil)) cNil)))
      (cSeq (cSetO 5 (fun _ L => some (.dT [], L)))
      (cSeq (cFor (sLst (cCall d_law_row (cCons (cVar 0) (cCons (cVar 1) (cCons (cOp mulW (cVar 2) (cVar 3)) cNil))))) (gN 6) for_law_some1)
      (cFr 5 (cRet (cFz (nSort (cOf (cFz (cLc (sKeys 5) (gN 7) cYes (cVar 7) (List.map (fun x => x.2) ([("place", 7)] : List (Str × Nat)))))))))))))
theorem ub_law_some (ρ : Ro) (L : Lg) : b_law_some ρ L = (cSeq (cSet 4 (cN absW (cCons (cN intW (cCons (cVar 0) cNil)) cNil)))
      (cSeq (cSetO 5 (fun _ L => some (.dT [], L)))
      (cSeq (cFor (sLst (cCall d_law_row (cCons (cVar 0) (cCons (cVar 1) (cCons (cOp mulW (cVar 2) (cVar 3)) cNil))))) (gN 6) for_law_some1)
      (cFr 5 (cRet (cFz (nSort (cOf (cFz (cLc (sKeys 5) (gN 7) cYes (cVar 7) (List.map (fun x => x.2) ([("place", 7)] : List (Str × Nat))))))))))))) ρ L := id rfl
def d_law_some : DF := runDef 8 b_law_some
theorem ud_law_some (ws : List W) (L : Lg) : d_law_some ws L = runDef 8 b_law_some ws L := id rfl
def for_law1 : SF :=
      (cSeq (cSet 11 (cN absW (cCons (cCall d_law_cell (cCons (cVar 0) (cCons (cOp addW (cK (.int 3)) (cVar 10)) cNil))) cNil)))
      (cIfS (asT (cOp (cmpI fun i j => decide (j < i)) (cC lenW (cNm 9)) (cK (.int 0)))) (cSeq (cSet 7 (cOp modW (cVar 11) (cC lenW (cNm 9))))
      (cSeq (cSet 12 (cOp modW (cOp fdivW (cVar 11) (cK (.int 7))) (cOp addW (cC lenW (cOf (cIx ixW (cNm 9) (cVar 7)))) (cK (.int 1)))))
      (cLPut 9 (cVar 7) (cOp addW (cOp addW (cSl (cOf (cIx ixW (cNm 9) (cVar 7))) cNoP (cPart (cVar 12))) (cIx ixW (cOf (cFz (cLst (cCons (cK (.str " ")) (cCons (cK (.str "o")) (cCons (cK (.str "OO")) (cCons (cK (.str "")) (cCons (cK (.str ".")) (cCons (cK (.str "x.")) cNil))))))))) (cOp modW (cOp fdivW (cVar 11) (cK (.int 70))) (cK (.int 6))))) (cSl (cOf (cIx ixW (cNm 9) (cVar 7))) (cPart (cOp addW (cVar 12) (cOp modW (cOp fdivW (cVar 11) (cK (.int 420))) (cK (.int 2))))) cNoP))))) cNx))
theorem ufor_law1 (ρ : Ro) (L : Lg) : for_law1 ρ L = (cSeq (cSet 11 (cN absW (cCons (cCall d_law_cell (cCons (cVar 0) (cCons (cOp addW (cK (.int 3)) (cVar 10)) cNil))) cNil)))
      (cIfS (asT (cOp (cmpI fun i j => decide (j < i)) (cC lenW (cNm 9)) (cK (.int 0)))) (cSeq (cSet 7 (cOp modW (cVar 11) (cC lenW (cNm 9))))
      (cSeq (cSet 12 (cOp modW (cOp fdivW (cVar 11) (cK (.int 7))) (cOp addW (cC lenW (cOf (cIx ixW (cNm 9) (cVar 7)))) (cK (.int 1)))))
      (cLPut 9 (cVar 7) (cOp addW (cOp addW (cSl (cOf (cIx ixW (cNm 9) (cVar 7))) cNoP (cPart (cVar 12))) (cIx ixW (cOf (cFz (cLst (cCons (cK (.str " ")) (cCons (cK (.str "o")) (cCons (cK (.str "OO")) (cCons (cK (.str "")) (cCons (cK (.str ".")) (cCons (cK (.str "x.")) cNil))))))))) (cOp modW (cOp fdivW (cVar 11) (cK (.int 70))) (cK (.int 6))))) (cSl (cOf (cIx ixW (cNm 9) (cVar 7))) (cPart (cOp addW (cVar 12) (cOp modW (cOp fdivW (cVar 11) (cK (.int 420))) (cK (.int 2))))) cNoP))))) cNx)) ρ L := id rfl
def for_law2 : SF :=
      (cApp 9 (cJoin (cK (.str "")) (cOf (cFz (cLc (sLst (cCall d_law_row (cCons (cOp addW (cCall d_law_cell (cCons (cVar 0) (cCons (cK (.int 2)) cNil))) (cVar 10)) (cCons (cVar 8) (cCons (cK (.int 64)) cNil))))) (gN 11) cYes (cIx ixW (cOf (cK (.str ".O"))) (cOp modW (cVar 11) (cK (.int 2)))) (List.map (fun x => x.2) ([("x", 11)] : List (Str × Nat))))))))
theorem ufor_law2 (ρ : Ro) (L : Lg) : for_law2 ρ L = (cApp 9 (cJoin (cK (.str "")) (cOf (cFz (cLc (sLst (cCall d_law_row (cCons (cOp addW (cCall d_law_cell (cCons (cVar 0) (cCons (cK (.int 2)) cNil))) (cVar 10)) (cCons (cVar 8) (cCons (cK (.int 64)) cNil))))) (gN 11) cYes (cIx ixW (cOf (cK (.str ".O"))) (cOp modW (cVar 11) (cK (.int 2)))) (List.map (fun x => x.2) ([("x", 11)] : List (Str × Nat)))))))) ρ L := id rfl
def for_law3 : SF :=
      (cApp 6 (cJoin (cK (.str "")) (cOf (cFz (cLc (sRange2 (cCons (cVar 5) (cCons (cOp addW (cC maxW1 (cOf (cFz (cLc (sLst (cVar 2)) (gTupW 2 (gsC (gN 7) (gsC (gN 19) gsN))) cYes (cVar 19) (List.map (fun x => x.2) ([("r", 7), ("c", 19)] : List (Str × Nat))))))) (cK (.int 1))) cNil))) (gN 19) cYes (cIx ixW (cOf (cK (.str ".O"))) (cN intW (cCons (cOpC (inW false) (cTup (cCons (cVar 7) (cCons (cVar 19) cNil))) (cNm 2)) cNil))) (List.map (fun x => x.2) ([("c", 19)] : List (Str × Nat))))))))
theorem ufor_law3 (ρ : Ro) (L : Lg) : for_law3 ρ L = (cApp 6 (cJoin (cK (.str "")) (cOf (cFz (cLc (sRange2 (cCons (cVar 5) (cCons (cOp addW (cC maxW1 (cOf (cFz (cLc (sLst (cVar 2)) (gTupW 2 (gsC (gN 7) (gsC (gN 19) gsN))) cYes (cVar 19) (List.map (fun x => x.2) ([("r", 7), ("c", 19)] : List (Str × Nat))))))) (cK (.int 1))) cNil))) (gN 19) cYes (cIx ixW (cOf (cK (.str ".O"))) (cN intW (cCons (cOpC (inW false) (cTup (cCons (cVar 7) (cCons (cVar 19) cNil))) (cNm 2)) cNil))) (List.map (fun x => x.2) ([("c", 19)] : List (Str × Nat)))))))) ρ L := id rfl
def b_law : SF :=
      (cSeq (cSet 1 (cCall d_law_cell (cCons (cVar 0) (cCons (cK (.int 0)) cNil))))
      (cSeq (cSet 2 (cFz (cLc (sLst (cCall d_law_some (cCons (cCall d_law_cell (cCons (cVar 0) (cCons (cK (.int 1)) cNil))) (cCons (cOp modW (cVar 1) (cK (.int 21))) (cCons (cK (.int 6)) (cCons (cK (.int 8)) cNil)))))) (gTupW 2 (gsC (gN 7) (gsC (gN 19) gsN))) cYes (cTup (cCons (cOp subW (cVar 7) (cK (.int 5))) (cCons (cOp addW (cVar 19) (cK (.int 3))) cNil))) (List.map (fun x => x.2) ([("r", 7), ("c", 19)] : List (Str × Nat))))))
      (cSeq (cSet 3 (cCall d_picture (cCons (cFz (listW (cNm 2))) cNil)))
      (cSeq (cIfS (cOr (cNot (cTru (cN (isiW "list") (cCons (cVar 3) (cCons (cK (.ty "list")) cNil))))) (asT (cOp neW (cOp eqW (cVar 2) (cFz (cLst cNil))) (cOp eqW (cVar 3) (cFz (cLst cNil)))))) (cRet (cK (.bl false))) cNx)
      (cSeq (cIfS (asT (cOp neW (cVar 2) (cFz (cLst cNil)))) (cSeq (cSet 4 (cC minW1 (cOf (cFz (cLc (sLst (cVar 2)) (gTupW 2 (gsC (gN 7) (gsC (gN 19) gsN))) cYes (cVar 7) (List.map (fun x => x.2) ([("r", 7), ("c", 19)] : List (Str × Nat))))))))
      (cSeq (cSet 5 (cC minW1 (cOf (cFz (cLc (sLst (cVar 2)) (gTupW 2 (gsC (gN 7) (gsC (gN 19) gsN))) cYes (cVar 19) (List.map (fun x => x.2) ([("r", 7), ("c", 19)] : List (Str × Nat))))))))
      (cSeq (cSetO 6 (cLst cNil))
      (cSeq (cFor (sRange2 (cCons (cVar 4) (cCons (cOp addW (cC maxW1 (cOf (cFz (cLc (sLst (cVar 2)) (gTupW 2 (gsC (gN 7) (gsC (gN 19) gsN))) cYes (cVar 7) (List.map (fun x => x.2) ([("r", 7), ("c", 19)] : List (Str × Nat))))))) (cK (.int 1))) cNil))) (gN 7) for_law3)
      (cFr 6 (cIfS (cOr (asT (cOp neW (cVar 3) (cVar 6))) (asT (cOp neW (cPCall d_read_picture (cCons (cVar 3) cNil)) (cFz (cLc (sLst (cVar 2)) (gTupW 2 (gsC (gN 7) (gsC (gN 19) gsN))) cYes (cTup (cCons (cOp subW (cVar 7) (cVar 4)) (cCons (cOp subW (cVar 19) (cVar 5)) cNil))) (List.map (fun x => x.2) ([("r", 7), ("c", 19)] : List (Str × Nat)))))))) (cRet (cK (.bl false))) cNx)))))) cNx)
      (cSeq (cSet 8 (cOp modW (cOp fdivW (cVar 1) (cK (.int 21))) (cK (.int 9))))
      (cSeq (cSetO 9 (cLst cNil))
      (cSeq (cFor (sRange1 (cCons (cOp modW (cOp fdivW (cVar 1) (cK (.int 189))) (cK (.int 7))) cNil)) (gN 10) for_law2)
      (cSeq (cFor (sRange1 (cCons (cOp modW (cOp fdivW (cVar 1) (cK (.int 1323))) (cK (.int 3))) cNil)) (gN 10) for_law1)
      (cSeq (cFr 9 (cAsg (gTupW 2 (gsC (gN 13) (gsC (gN 14) gsN))) (cCall d_law_due (cCons (cVar 9) cNil))))
      (cSeq (cSet 15 (cFz (listW (cNm 9))))
      (cSeq (cTryP d_read_picture 15 16 17 (fun p => cSuite (cOrV (cK (.bl false)) (cOrV (cK (.bl false)) (cNotV (cK (.bl true))))) 18 (cAndV (cK (.bl true)) (cAndV (cNotV (cVar 18)) (cAndV (cOp eqW (cTup (cCons (cXf "row" p) (cCons (cXf "column" p) cNil))) (cVar 14)) (cOp eqW (cVar 15) (cVar 9)))))))
      (cFr 9 (cRet (cAndV (cOp isW (cVar 14) (cK .non)) (cAndV (cCall d_law_cells (cCons (cVar 16) cNil)) (cAndV (cOp eqW (cVar 16) (cVar 13)) (cOp eqW (cVar 15) (cVar 9)))))))))))))))))))
theorem ub_law (ρ : Ro) (L : Lg) : b_law ρ L = (cSeq (cSet 1 (cCall d_law_cell (cCons (cVar 0) (cCons (cK (.int 0)) cNil))))
      (cSeq (cSet 2 (cFz (cLc (sLst (cCall d_law_some (cCons (cCall d_law_cell (cCons (cVar 0) (cCons (cK (.int 1)) cNil))) (cCons (cOp modW (cVar 1) (cK (.int 21))) (cCons (cK (.int 6)) (cCons (cK (.int 8)) cNil)))))) (gTupW 2 (gsC (gN 7) (gsC (gN 19) gsN))) cYes (cTup (cCons (cOp subW (cVar 7) (cK (.int 5))) (cCons (cOp addW (cVar 19) (cK (.int 3))) cNil))) (List.map (fun x => x.2) ([("r", 7), ("c", 19)] : List (Str × Nat))))))
      (cSeq (cSet 3 (cCall d_picture (cCons (cFz (listW (cNm 2))) cNil)))
      (cSeq (cIfS (cOr (cNot (cTru (cN (isiW "list") (cCons (cVar 3) (cCons (cK (.ty "list")) cNil))))) (asT (cOp neW (cOp eqW (cVar 2) (cFz (cLst cNil))) (cOp eqW (cVar 3) (cFz (cLst cNil)))))) (cRet (cK (.bl false))) cNx)
      (cSeq (cIfS (asT (cOp neW (cVar 2) (cFz (cLst cNil)))) (cSeq (cSet 4 (cC minW1 (cOf (cFz (cLc (sLst (cVar 2)) (gTupW 2 (gsC (gN 7) (gsC (gN 19) gsN))) cYes (cVar 7) (List.map (fun x => x.2) ([("r", 7), ("c", 19)] : List (Str × Nat))))))))
      (cSeq (cSet 5 (cC minW1 (cOf (cFz (cLc (sLst (cVar 2)) (gTupW 2 (gsC (gN 7) (gsC (gN 19) gsN))) cYes (cVar 19) (List.map (fun x => x.2) ([("r", 7), ("c", 19)] : List (Str × Nat))))))))
      (cSeq (cSetO 6 (cLst cNil))
      (cSeq (cFor (sRange2 (cCons (cVar 4) (cCons (cOp addW (cC maxW1 (cOf (cFz (cLc (sLst (cVar 2)) (gTupW 2 (gsC (gN 7) (gsC (gN 19) gsN))) cYes (cVar 7) (List.map (fun x => x.2) ([("r", 7), ("c", 19)] : List (Str × Nat))))))) (cK (.int 1))) cNil))) (gN 7) for_law3)
      (cFr 6 (cIfS (cOr (asT (cOp neW (cVar 3) (cVar 6))) (asT (cOp neW (cPCall d_read_picture (cCons (cVar 3) cNil)) (cFz (cLc (sLst (cVar 2)) (gTupW 2 (gsC (gN 7) (gsC (gN 19) gsN))) cYes (cTup (cCons (cOp subW (cVar 7) (cVar 4)) (cCons (cOp subW (cVar 19) (cVar 5)) cNil))) (List.map (fun x => x.2) ([("r", 7), ("c", 19)] : List (Str × Nat)))))))) (cRet (cK (.bl false))) cNx)))))) cNx)
      (cSeq (cSet 8 (cOp modW (cOp fdivW (cVar 1) (cK (.int 21))) (cK (.int 9))))
      (cSeq (cSetO 9 (cLst cNil))
      (cSeq (cFor (sRange1 (cCons (cOp modW (cOp fdivW (cVar 1) (cK (.int 189))) (cK (.int 7))) cNil)) (gN 10) for_law2)
      (cSeq (cFor (sRange1 (cCons (cOp modW (cOp fdivW (cVar 1) (cK (.int 1323))) (cK (.int 3))) cNil)) (gN 10) for_law1)
      (cSeq (cFr 9 (cAsg (gTupW 2 (gsC (gN 13) (gsC (gN 14) gsN))) (cCall d_law_due (cCons (cVar 9) cNil))))
      (cSeq (cSet 15 (cFz (listW (cNm 9))))
      (cSeq (cTryP d_read_picture 15 16 17 (fun p => cSuite (cOrV (cK (.bl false)) (cOrV (cK (.bl false)) (cNotV (cK (.bl true))))) 18 (cAndV (cK (.bl true)) (cAndV (cNotV (cVar 18)) (cAndV (cOp eqW (cTup (cCons (cXf "row" p) (cCons (cXf "column" p) cNil))) (cVar 14)) (cOp eqW (cVar 15) (cVar 9)))))))
      (cFr 9 (cRet (cAndV (cOp isW (cVar 14) (cK .non)) (cAndV (cCall d_law_cells (cCons (cVar 16) cNil)) (cAndV (cOp eqW (cVar 16) (cVar 13)) (cOp eqW (cVar 15) (cVar 9))))))))))))))))))) ρ L := id rfl
def d_law : DF := runDef 20 b_law
theorem ud_law (ws : List W) (L : Lg) : d_law ws L = runDef 20 b_law ws L := id rfl

section
variable {P : Program} {w : World} {K : PySem.W.Frag} {mg : Str → Option Value} {base : Heap}
theorem sc_law_integer : FnScope N_law_integer p_law_integer (defScope s_law_integer) := ⟨rfl, rfl, rfl, by decide +kernel, rfl, by decide +kernel, by decide +kernel⟩
theorem ok_law_integer {f : Addr} {fd : FuncData} (F : FnP K "_law_integer" "_law_integer" s_law_integer f fd) (T : Txt K mg)  : FnOk P w K mg base CX0 1 f fd p_law_integer (spI K mg 1 d_law_integer) := by
  have sc := sc_law_integer
  refine fn_okD (k := 0) (N := N_law_integer) (ps := p_law_integer) (body := b_law_integer) F sc fun cdv A outer s H E hr => ?_
  exact (iss_one (is_ret (ie_and (ie_isi rfl T.isinstance (ia_cons (ie_var 0) (ia_cons (ie_ty rfl T.int (by decide +kernel)) ia_nil))) (ie_one (ie_not (ie_isi rfl T.isinstance (ia_cons (ie_var 0) (ia_cons (ie_ty rfl T.bool (by decide +kernel)) ia_nil))))))))
theorem def_law_integer {f : Addr} {fd : FuncData} (F : FnP K "_law_integer" "_law_integer" s_law_integer f fd) (T : Txt K mg) (hm : mg "_law_integer" = some (.ref f))  : Def P w K mg base 1 "_law_integer" p_law_integer d_law_integer :=
  ⟨f, fd, ok_law_integer F T , hm, F.kp, F.bindsN fun _ _ _ _ _ _ us hl => match us, hl with | [_], _ => rfl⟩
theorem sc_law_cells : FnScope N_law_cells p_law_cells (defScope s_law_cells) := ⟨rfl, rfl, rfl, by decide +kernel, rfl, by decide +kernel, by decide +kernel⟩
theorem ok_law_cells {f : Addr} {fd : FuncData} (F : FnP K "_law_cells" "_law_cells" s_law_cells f fd) (T : Txt K mg) (G_law_integer : Def P w K mg base 1 "_law_integer" p_law_integer d_law_integer) : FnOk P w K mg base CX0 2 f fd p_law_cells (spI K mg 1 d_law_cells) := by
  have sc := sc_law_cells
  refine fn_okD (k := 1) (N := N_law_cells) (ps := p_law_cells) (body := b_law_cells) F sc fun cdv A outer s H E hr => ?_
  exact (iss_cons (is_if (it_not (it_tru (ie_isi rfl T.isinstance (ia_cons (ie_var 0) (ia_cons (ie_ty rfl T.list (by decide +kernel)) ia_nil))))) (iss_one (is_ret ie_bl)) iss_nil)
      (iss_cons (is_for PassesOwn.never rfl (ii_list (ie_var 0)) (ig_name 1 sc.nd rfl (Or.inl rfl)) (iss_one (is_if (IW.it (iw_or (it_not (it_tru (ie_isi rfl T.isinstance (ia_cons (ie_var 1) (ia_cons (ie_ty rfl T.tuple (by decide +kernel)) ia_nil))))) (iw_or (it_ne hr.units (ie_len rfl T.len (io_nm 1)) ie_int) (iw_or (it_not (it_tru (ie_callD G_law_integer hr (by decide) rfl (ia_cons (ie_ix (io_nm 1) ie_int) ia_nil) (len_cons len_nil)))) (iw_or1 (it_not (it_tru (ie_callD G_law_integer hr (by decide) rfl (ia_cons (ie_ix (io_nm 1) ie_int) ia_nil) (len_cons len_nil))))))))) (iss_one (is_ret ie_bl)) iss_nil)))
      (iss_one (is_ret (ie_eq hr.units (ie_var 0) (IN.fz (in_sorted (u100 hr) rfl T.sorted (io_nm 0))))))))
theorem def_law_cells {f : Addr} {fd : FuncData} (F : FnP K "_law_cells" "_law_cells" s_law_cells f fd) (T : Txt K mg) (hm : mg "_law_cells" = some (.ref f)) (G_law_integer : Def P w K mg base 1 "_law_integer" p_law_integer d_law_integer) : Def P w K mg base 2 "_law_cells" p_law_cells d_law_cells :=
  ⟨f, fd, ok_law_cells F T G_law_integer, hm, F.kp, F.bindsN fun _ _ _ _ _ _ us hl => match us, hl with | [_], _ => rfl⟩
theorem sc_InvalidPicture_init : FnScope N_InvalidPicture_init p_InvalidPicture_init (defScope s_InvalidPicture_init) := ⟨rfl, rfl, rfl, by decide +kernel, rfl, by decide +kernel, by decide +kernel⟩
theorem ok_InvalidPicture_init {f : Addr} {fd : FuncData} (F : FnP K "__init__" "InvalidPicture.__init__" s_InvalidPicture_init f fd) (T : Txt K mg) : FnOk P w K mg base CX0 1 f fd p_InvalidPicture_init (spIni K (He.ga K "InvalidPicture")) := by
  have sc := sc_InvalidPicture_init
  refine fn_okI (k := 0) (N := N_InvalidPicture_init) (ps := p_InvalidPicture_init) F sc rfl rfl T.oex_InvalidPicture T.nof_InvalidPicture_row T.nof_InvalidPicture_column fun cdv A outer s H E hr => ?_
  exact (pss_cons (ps_expr (pe_oinit rfl T.glo_LifeError T.bas_LifeError.r T.bas_LifeError.k (pa_cons (pe_var (i := 0) rfl (by first | exact Or.inl rfl | exact Or.inr (Or.inl rfl) | exact Or.inr (Or.inr rfl))) (pa_cons (pe_joined (.cons pe_str (.cons (pe_fmt (pe_var (i := 1) rfl (by first | exact Or.inl rfl | exact Or.inr (Or.inl rfl) | exact Or.inr (Or.inr rfl)))) (.cons pe_str (.cons (pe_fmt (pe_var (i := 2) rfl (by first | exact Or.inl rfl | exact Or.inr (Or.inl rfl) | exact Or.inr (Or.inr rfl)))) .nil))))) pa_nil))))
      (pss_cons (ps_ost (pe_var (i := 0) rfl (by first | exact Or.inl rfl | exact Or.inr (Or.inl rfl) | exact Or.inr (Or.inr rfl))) (pe_var (i := 1) rfl (by first | exact Or.inl rfl | exact Or.inr (Or.inl rfl) | exact Or.inr (Or.inr rfl)))) (pss_one (ps_ost (pe_var (i := 0) rfl (by first | exact Or.inl rfl | exact Or.inr (Or.inl rfl) | exact Or.inr (Or.inr rfl))) (pe_var (i := 2) rfl (by first | exact Or.inl rfl | exact Or.inr (Or.inl rfl) | exact Or.inr (Or.inr rfl)))))))
theorem sc_check_string : FnScope N_check_string p_check_string (defScope s_check_string) := ⟨rfl, rfl, rfl, by decide +kernel, rfl, by decide +kernel, by decide +kernel⟩
theorem ok_check_string {f : Addr} {fd : FuncData} (F : FnP K "check_string" "check_string" s_check_string f fd) (T : Txt K mg) (I_InvalidPicture : IniD P w K mg base 1 "InvalidPicture" (He.ga K "InvalidPicture")) : FnOk P w K mg base (L2.CX P w) 3 f fd p_check_string (spP K mg (He.ga K "InvalidPicture") 2 d_check_string) := by
  have sc := sc_check_string
  refine fn_okP (k := 2) (N := N_check_string) (ps := p_check_string) (body := b_check_string) F sc fun cdv A outer s H E hr => ?_
  exact (issp_cons (IS.isp (is_set 2 sc.nd rfl (Or.inl rfl) (ie_ix (io_nm 0) (ie_var 1))))
      (issp_cons (isp_for (passes_of rfl) rfl (ii_enumS rfl T.enumerate (ie_var 2)) (ig_tup rfl (igs_cons (ig_name 3 sc.nd rfl (Or.inl rfl)) (igs_cons (ig_name 4 sc.nd rfl (Or.inl rfl)) igs_nil))) (issp_one (isp_if (IW.it (iw_and (it_ne hr.units (ie_var 4) ie_str) (iw_and1 (it_ne hr.units (ie_var 4) ie_str)))) (issp_one (isp_raise I_InvalidPicture rfl (takes_of rfl rfl rfl rfl) hr (by decide) rfl (ia_cons (ie_var 1) (ia_cons (ie_var 3) ia_nil)))) issp_nil)))
      (issp_one (isp_if (it_ne hr.units (ie_len rfl T.len (io_nm 2)) (ie_len rfl T.len (IE.io (ie_ix (io_nm 0) ie_int)))) (issp_one (isp_raise I_InvalidPicture rfl (takes_of rfl rfl rfl rfl) hr (by decide) rfl (ia_cons (ie_var 1) (ia_cons (ie_min2 rfl rfl T.min (ia_cons (ie_len rfl T.len (io_nm 2)) (ia_cons (ie_len rfl T.len (IE.io (ie_ix (io_nm 0) ie_int))) ia_nil))) ia_nil)))) issp_nil))))
theorem def_check_string {f : Addr} {fd : FuncData} (F : FnP K "check_string" "check_string" s_check_string f fd) (T : Txt K mg) (hm : mg "check_string" = some (.ref f)) (I_InvalidPicture : IniD P w K mg base 1 "InvalidPicture" (He.ga K "InvalidPicture")) : DefP P w K mg base 3 "check_string" (He.ga K "InvalidPicture") p_check_string d_check_string :=
  ⟨f, fd, ok_check_string F T I_InvalidPicture, hm, F.kp, F.bindsN fun _ _ _ _ _ _ us hl => match us, hl with | [_, _], _ => rfl⟩
theorem sc_read_picture : FnScope N_read_picture p_read_picture (defScope s_read_picture) := ⟨rfl, rfl, rfl, by decide +kernel, rfl, by decide +kernel, by decide +kernel⟩
theorem ok_read_picture {f : Addr} {fd : FuncData} (F : FnP K "read_picture" "read_picture" s_read_picture f fd) (T : Txt K mg) (G_check_string : DefP P w K mg base 3 "check_string" (He.ga K "InvalidPicture") p_check_string d_check_string) : FnOk P w K mg base (L2.CX P w) 4 f fd p_read_picture (spP K mg (He.ga K "InvalidPicture") 1 d_read_picture) := by
  have sc := sc_read_picture
  refine fn_okP (k := 3) (N := N_read_picture) (ps := p_read_picture) (body := b_read_picture) F sc fun cdv A outer s H E hr => ?_
  exact (issp_cons (IS.isp (is_setO 1 sc.nd rfl (Or.inl rfl) (in_lst ia_nil)))
      (issp_cons (isp_for (passes_of rfl) rfl (ii_enum rfl T.enumerate (ie_var 0)) (ig_tup rfl (igs_cons (ig_name 2 sc.nd rfl (Or.inl rfl)) (igs_cons (ig_name 3 sc.nd rfl (Or.inl rfl)) igs_nil))) (issp_cons (isp_call G_check_string hr (by decide) rfl (takes_of rfl rfl rfl rfl) (ia_cons (ie_var 0) (ia_cons (ie_var 2) ia_nil)) (len_cons (len_cons len_nil)))
      (issp_one (isp_for (passes_of rfl) rfl (ii_enumS rfl T.enumerate (ie_var 3)) (ig_tup rfl (igs_cons (ig_name 4 sc.nd rfl (Or.inl rfl)) (igs_cons (ig_name 5 sc.nd rfl (Or.inl rfl)) igs_nil))) (issp_one (isp_if (it_eq hr.units (ie_var 5) ie_str) (issp_one (IS.isp (is_app 1 (ie_tup (ia_cons (ie_var 2) (ia_cons (ie_var 4) ia_nil)))))) issp_nil))))))
      (issp_one (IS.isp (IS.frz 1 (is_ret (ie_var 1)))))))
theorem def_read_picture {f : Addr} {fd : FuncData} (F : FnP K "read_picture" "read_picture" s_read_picture f fd) (T : Txt K mg) (hm : mg "read_picture" = some (.ref f)) (G_check_string : DefP P w K mg base 3 "check_string" (He.ga K "InvalidPicture") p_check_string d_check_string) : DefP P w K mg base 4 "read_picture" (He.ga K "InvalidPicture") p_read_picture d_read_picture :=
  ⟨f, fd, ok_read_picture F T G_check_string, hm, F.kp, F.bindsN fun _ _ _ _ _ _ us hl => match us, hl with | [_], _ => rfl⟩
theorem sc_law_due : FnScope N_law_due p_law_due (defScope s_law_due) := ⟨rfl, rfl, rfl, by decide +kernel, rfl, by decide +kernel, by decide +kernel⟩
theorem ok_law_due {f : Addr} {fd : FuncData} (F : FnP K "_law_due" "_law_due" s_law_due f fd) (T : Txt K mg)  : FnOk P w K mg base CX0 1 f fd p_law_due (spI K mg 1 d_law_due) := by
  have sc := sc_law_due
  refine fn_okD (k := 0) (N := N_law_due) (ps := p_law_due) (body := b_law_due) F sc fun cdv A outer s H E hr => ?_
  exact (iss_cons (is_setO 1 sc.nd rfl (Or.inl rfl) (in_lst ia_nil))
      (iss_cons (is_for PassesOwn.never rfl (ii_range1 rfl T.range (ia_cons (ie_len rfl T.len (io_nm 0)) ia_nil)) (ig_name 2 sc.nd rfl (Or.inl rfl)) (iss_cons (is_for PassesOwn.never rfl (ii_range1 rfl T.range (ia_cons (ie_len rfl T.len (IE.io (ie_ix (io_nm 0) (ie_var 2)))) ia_nil)) (ig_name 3 sc.nd rfl (Or.inl rfl)) (iss_cons (is_if (it_notinS (ie_ix (IE.io (ie_ix (io_nm 0) (ie_var 2))) (ie_var 3)) ie_str) (iss_one (IS.frz 1 (is_ret (ie_tup (ia_cons (ie_var 1) (ia_cons (ie_tup (ia_cons (ie_var 2) (ia_cons (ie_var 3) ia_nil))) ia_nil)))))) iss_nil)
      (iss_one (is_if (it_eq hr.units (ie_ix (IE.io (ie_ix (io_nm 0) (ie_var 2))) (ie_var 3)) ie_str) (iss_one (is_app 1 (ie_tup (ia_cons (ie_var 2) (ia_cons (ie_var 3) ia_nil))))) iss_nil))))
      (iss_one (is_if (it_ne hr.units (ie_len rfl T.len (IE.io (ie_ix (io_nm 0) (ie_var 2)))) (ie_len rfl T.len (IE.io (ie_ix (io_nm 0) ie_int)))) (iss_one (IS.frz 1 (is_ret (ie_tup (ia_cons (ie_var 1) (ia_cons (ie_tup (ia_cons (ie_var 2) (ia_cons (ie_min2 rfl rfl T.min (ia_cons (ie_len rfl T.len (IE.io (ie_ix (io_nm 0) (ie_var 2)))) (ia_cons (ie_len rfl T.len (IE.io (ie_ix (io_nm 0) ie_int))) ia_nil))) ia_nil))) ia_nil)))))) iss_nil))))
      (iss_one (IS.frz 1 (is_ret (ie_tup (ia_cons (ie_var 1) (ia_cons ie_non ia_nil))))))))
theorem def_law_due {f : Addr} {fd : FuncData} (F : FnP K "_law_due" "_law_due" s_law_due f fd) (T : Txt K mg) (hm : mg "_law_due" = some (.ref f))  : Def P w K mg base 1 "_law_due" p_law_due d_law_due :=
  ⟨f, fd, ok_law_due F T , hm, F.kp, F.bindsN fun _ _ _ _ _ _ us hl => match us, hl with | [_], _ => rfl⟩
theorem sc_law_cell : FnScope N_law_cell p_law_cell (defScope s_law_cell) := ⟨rfl, rfl, rfl, by decide +kernel, rfl, by decide +kernel, by decide +kernel⟩
theorem ok_law_cell {f : Addr} {fd : FuncData} (F : FnP K "_law_cell" "_law_cell" s_law_cell f fd) (T : Txt K mg)  : FnOk P w K mg base CX0 1 f fd p_law_cell (spI K mg 2 d_law_cell) := by
  have sc := sc_law_cell
  refine fn_okD (k := 0) (N := N_law_cell) (ps := p_law_cell) (body := b_law_cell) F sc fun cdv A outer s H E hr => ?_
  exact (iss_cons (is_if (it_lt (ie_var 1) (ie_len rfl T.len (io_nm 0))) (iss_one (is_ret (ie_int1 rfl T.int (ia_cons (ie_ix (io_nm 0) (ie_var 1)) ia_nil)))) iss_nil)
      (iss_one (is_ret ie_int)))
theorem def_law_cell {f : Addr} {fd : FuncData} (F : FnP K "_law_cell" "_law_cell" s_law_cell f fd) (T : Txt K mg) (hm : mg "_law_cell" = some (.ref f))  : Def P w K mg base 1 "_law_cell" p_law_cell d_law_cell :=
  ⟨f, fd, ok_law_cell F T , hm, F.kp, F.bindsN fun _ _ _ _ _ _ us hl => match us, hl with | [_, _], _ => rfl⟩
theorem sc_law_row : FnScope N_law_row p_law_row (defScope s_law_row) := ⟨rfl, rfl, rfl, by decide +kernel, rfl, by decide +kernel, by decide +kernel⟩
theorem ok_law_row {f : Addr} {fd : FuncData} (F : FnP K "_law_row" "_law_row" s_law_row f fd) (T : Txt K mg)  : FnOk P w K mg base CX0 1 f fd p_law_row (spI K mg 3 d_law_row) := by
  have sc := sc_law_row
  refine fn_okD (k := 0) (N := N_law_row) (ps := p_law_row) (body := b_law_row) F sc fun cdv A outer s H E hr => ?_
  exact (iss_cons (is_set 3 sc.nd rfl (Or.inl rfl) (ie_abs rfl T.abs (ia_cons (ie_int1 rfl T.int (ia_cons (ie_var 0) ia_nil)) ia_nil)))
      (iss_cons (is_set 4 sc.nd rfl (Or.inl rfl) (ie_add (ie_mod (ie_int1 rfl T.int (ia_cons (ie_var 0) ia_nil)) ie_int) ie_int))
      (iss_cons (is_setO 5 sc.nd rfl (Or.inl rfl) (in_lst ia_nil))
      (iss_cons (is_for PassesOwn.never rfl (ii_range1 rfl T.range (ia_cons (ie_var 1) ia_nil)) (ig_name 6 sc.nd rfl (Or.inl rfl)) (iss_one (is_if (it_ge (ie_var 3) (ie_var 2)) (iss_cons (is_app 5 (ie_mod (ie_int1 rfl T.int (ia_cons (ie_var 3) ia_nil)) (ie_var 2)))
      (iss_one (is_set 3 sc.nd rfl (Or.inl rfl) (ie_fdiv (ie_var 3) (ie_var 2))))) (iss_cons (is_set 4 sc.nd rfl (Or.inl rfl) (ie_mod (ie_int1 rfl T.int (ia_cons (ie_add (ie_add (ie_mul (ie_var 4) ie_int) (ie_mul ie_int (ie_var 6))) ie_int) ia_nil)) ie_int))
      (iss_one (is_app 5 (ie_mod (ie_int1 rfl T.int (ia_cons (ie_fdiv (ie_mul (ie_var 4) ie_int) ie_int) ia_nil)) (ie_var 2))))))))
      (iss_one (IS.frz 5 (is_ret (ie_var 5))))))))
theorem def_law_row {f : Addr} {fd : FuncData} (F : FnP K "_law_row" "_law_row" s_law_row f fd) (T : Txt K mg) (hm : mg "_law_row" = some (.ref f))  : Def P w K mg base 1 "_law_row" p_law_row d_law_row :=
  ⟨f, fd, ok_law_row F T , hm, F.kp, F.bindsN fun _ _ _ _ _ _ us hl => match us, hl with | [_, _, _], _ => rfl⟩
theorem sc_picture_rows : FnScope N_picture_rows p_picture_rows (defScope s_picture_rows) := ⟨rfl, rfl, rfl, by decide +kernel, rfl, by decide +kernel, by decide +kernel⟩
theorem ok_picture_rows {f : Addr} {fd : FuncData} (F : FnP K "picture_rows" "picture_rows" s_picture_rows f fd) (T : Txt K mg)  : FnOk P w K mg base CX0 1 f fd p_picture_rows (spI K mg 3 d_picture_rows) := by
  have sc := sc_picture_rows
  refine fn_okD (k := 0) (N := N_picture_rows) (ps := p_picture_rows) (body := b_picture_rows) F sc fun cdv A outer s H E hr => ?_
  exact (iss_cons (IS.fz2 3 (ps_setLcW (i := 3) (own := [("_", 6)]) rfl sc.nd rfl rfl (sw_true rfl rfl rfl (by decide +kernel)) (ii_range1 rfl T.range (ia_cons (ie_var 1) ia_nil)) (blkOk_by (own := [("_", 6)]) (N := N_picture_rows) (sc := defScope s_picture_rows) (by decide +kernel)) (by decide) (fun _ _ _ _ _ => (ig_name 6 sc.nd rfl (Or.inl rfl))) (fun _ _ _ _ _ => its_nil) (fun _ _ _ _ _ => (IN.box (in_rep (in_lst (ia_cons ie_str ia_nil)) (ie_var 2))))))
      (iss_cons (is_for PassesOwn.never rfl (ii_list (ie_var 0)) (ig_tup rfl (igs_cons (ig_name 4 sc.nd rfl (Or.inl rfl)) (igs_cons (ig_name 5 sc.nd rfl (Or.inl rfl)) igs_nil))) (iss_one (is_lputE (ie_ix (io_nm 3) (ie_var 4)) (ie_var 5) ie_str)))
      (iss_one (is_ret (IN.fz (in_lc (own := [("row", 4)]) rfl sc.nd (ii_list (ie_var 3)) (blkOk_by (own := [("row", 4)]) (N := N_picture_rows) (sc := defScope s_picture_rows) (by decide +kernel)) (by decide) (fun _ _ _ _ _ => (ig_name 4 sc.nd rfl (Or.inl rfl))) (fun _ _ _ _ _ => its_nil) (fun _ _ _ _ _ => (ie_join ie_str (io_nm 4)))))))))
theorem def_picture_rows {f : Addr} {fd : FuncData} (F : FnP K "picture_rows" "picture_rows" s_picture_rows f fd) (T : Txt K mg) (hm : mg "picture_rows" = some (.ref f))  : Def P w K mg base 1 "picture_rows" p_picture_rows d_picture_rows :=
  ⟨f, fd, ok_picture_rows F T , hm, F.kp, F.bindsN fun _ _ _ _ _ _ us hl => match us, hl with | [_, _, _], _ => rfl⟩
theorem sc_pattern : FnScope N_pattern p_pattern (defScope s_pattern) := ⟨rfl, rfl, rfl, by decide +kernel, rfl, by decide +kernel, by decide +kernel⟩
theorem ok_pattern {f : Addr} {fd : FuncData} (F : FnP K "pattern" "pattern" s_pattern f fd) (T : Txt K mg)  : FnOk P w K mg base CX0 1 f fd p_pattern (spI K mg 1 d_pattern) := by
  have sc := sc_pattern
  refine fn_okD (k := 0) (N := N_pattern) (ps := p_pattern) (body := b_pattern) F sc fun cdv A outer s H E hr => ?_
  exact (iss_one (is_ret (IN.fz (in_ssetG rfl (u100 hr) rfl T.sorted rfl T.set (io_nm 0)))))
theorem def_pattern {f : Addr} {fd : FuncData} (F : FnP K "pattern" "pattern" s_pattern f fd) (T : Txt K mg) (hm : mg "pattern" = some (.ref f))  : Def P w K mg base 1 "pattern" p_pattern d_pattern :=
  ⟨f, fd, ok_pattern F T , hm, F.kp, F.bindsN fun _ _ _ _ _ _ us hl => match us, hl with | [_], _ => rfl⟩
theorem sc_moved : FnScope N_moved p_moved (defScope s_moved) := ⟨rfl, rfl, rfl, by decide +kernel, rfl, by decide +kernel, by decide +kernel⟩
theorem ok_moved {f : Addr} {fd : FuncData} (F : FnP K "moved" "moved" s_moved f fd) (T : Txt K mg) (G_pattern : Def P w K mg base 1 "pattern" p_pattern d_pattern) : FnOk P w K mg base CX0 2 f fd p_moved (spI K mg 3 d_moved) := by
  have sc := sc_moved
  refine fn_okD (k := 1) (N := N_moved) (ps := p_moved) (body := b_moved) F sc fun cdv A outer s H E hr => ?_
  exact (iss_one (is_ret (ie_callD G_pattern hr (by decide) rfl (ia_cons (IN.fz (in_lc (own := [("row", 3), ("column", 4)]) rfl sc.nd (ii_list (ie_var 0)) (blkOk_by (own := [("row", 3), ("column", 4)]) (N := N_moved) (sc := defScope s_moved) (by decide +kernel)) (by decide) (fun _ _ _ _ _ => (ig_tup rfl (igs_cons (ig_name 3 sc.nd rfl (Or.inl rfl)) (igs_cons (ig_name 4 sc.nd rfl (Or.inl rfl)) igs_nil)))) (fun _ _ _ _ _ => its_nil) (fun _ _ _ _ _ => (ie_tup (ia_cons (ie_add (ie_var 3) (ie_var 1)) (ia_cons (ie_add (ie_var 4) (ie_var 2)) ia_nil)))))) ia_nil) (len_cons len_nil))))
theorem def_moved {f : Addr} {fd : FuncData} (F : FnP K "moved" "moved" s_moved f fd) (T : Txt K mg) (hm : mg "moved" = some (.ref f)) (G_pattern : Def P w K mg base 1 "pattern" p_pattern d_pattern) : Def P w K mg base 2 "moved" p_moved d_moved :=
  ⟨f, fd, ok_moved F T G_pattern, hm, F.kp, F.bindsN fun _ _ _ _ _ _ us hl => match us, hl with | [_, _, _], _ => rfl⟩
theorem sc_home : FnScope N_home p_home (defScope s_home) := ⟨rfl, rfl, rfl, by decide +kernel, rfl, by decide +kernel, by decide +kernel⟩
theorem ok_home {f : Addr} {fd : FuncData} (F : FnP K "home" "home" s_home f fd) (T : Txt K mg) (G_moved : Def P w K mg base 2 "moved" p_moved d_moved) : FnOk P w K mg base CX0 3 f fd p_home (spI K mg 1 d_home) := by
  have sc := sc_home
  refine fn_okD (k := 2) (N := N_home) (ps := p_home) (body := b_home) F sc fun cdv A outer s H E hr => ?_
  exact (iss_cons (is_if (it_not (it_truO (io_nm 0))) (iss_one (is_ret (IN.fz (in_lst ia_nil)))) iss_nil)
      (iss_cons (is_set 1 sc.nd rfl (Or.inl rfl) (ie_min1 rfl rfl T.min (IE.io (IN.fz (in_lc (own := [("row", 3), ("_", 4)]) rfl sc.nd (ii_list (ie_var 0)) (blkOk_by (own := [("row", 3), ("_", 4)]) (N := N_home) (sc := defScope s_home) (by decide +kernel)) (by decide) (fun _ _ _ _ _ => (ig_tup rfl (igs_cons (ig_name 3 sc.nd rfl (Or.inl rfl)) (igs_cons (ig_name 4 sc.nd rfl (Or.inl rfl)) igs_nil)))) (fun _ _ _ _ _ => its_nil) (fun _ _ _ _ _ => (ie_var 3)))))))
      (iss_cons (is_set 2 sc.nd rfl (Or.inl rfl) (ie_min1 rfl rfl T.min (IE.io (IN.fz (in_lc (own := [("_", 4), ("column", 5)]) rfl sc.nd (ii_list (ie_var 0)) (blkOk_by (own := [("_", 4), ("column", 5)]) (N := N_home) (sc := defScope s_home) (by decide +kernel)) (by decide) (fun _ _ _ _ _ => (ig_tup rfl (igs_cons (ig_name 4 sc.nd rfl (Or.inl rfl)) (igs_cons (ig_name 5 sc.nd rfl (Or.inl rfl)) igs_nil)))) (fun _ _ _ _ _ => its_nil) (fun _ _ _ _ _ => (ie_var 5)))))))
      (iss_one (is_ret (ie_callD G_moved hr (by decide) rfl (ia_cons (ie_var 0) (ia_cons (ie_neg (ie_var 1)) (ia_cons (ie_neg (ie_var 2)) ia_nil))) (len_cons (len_cons (len_cons len_nil)))))))))
theorem def_home {f : Addr} {fd : FuncData} (F : FnP K "home" "home" s_home f fd) (T : Txt K mg) (hm : mg "home" = some (.ref f)) (G_moved : Def P w K mg base 2 "moved" p_moved d_moved) : Def P w K mg base 3 "home" p_home d_home :=
  ⟨f, fd, ok_home F T G_moved, hm, F.kp, F.bindsN fun _ _ _ _ _ _ us hl => match us, hl with | [_], _ => rfl⟩
theorem sc_picture : FnScope N_picture p_picture (defScope s_picture) := ⟨rfl, rfl, rfl, by decide +kernel, rfl, by decide +kernel, by decide +kernel⟩
theorem ok_picture {f : Addr} {fd : FuncData} (F : FnP K "picture" "picture" s_picture f fd) (T : Txt K mg) (G_picture_rows : Def P w K mg base 1 "picture_rows" p_picture_rows d_picture_rows) (G_home : Def P w K mg base 3 "home" p_home d_home) : FnOk P w K mg base CX0 4 f fd p_picture (spI K mg 1 d_picture) := by
  have sc := sc_picture
  refine fn_okD (k := 3) (N := N_picture) (ps := p_picture) (body := b_picture) F sc fun cdv A outer s H E hr => ?_
  exact (iss_cons (is_set 1 sc.nd rfl (Or.inl rfl) (ie_callD G_home hr (by decide) rfl (ia_cons (ie_var 0) ia_nil) (len_cons len_nil)))
      (iss_cons (is_if (it_not (it_truO (io_nm 1))) (iss_one (is_ret (IN.fz (in_lst ia_nil)))) iss_nil)
      (iss_cons (is_set 2 sc.nd rfl (Or.inl rfl) (ie_add ie_int (ie_max1 rfl rfl T.max (IE.io (IN.fz (in_lc (own := [("row", 4), ("_", 5)]) rfl sc.nd (ii_list (ie_var 1)) (blkOk_by (own := [("row", 4), ("_", 5)]) (N := N_picture) (sc := defScope s_picture) (by decide +kernel)) (by decide) (fun _ _ _ _ _ => (ig_tup rfl (igs_cons (ig_name 4 sc.nd rfl (Or.inl rfl)) (igs_cons (ig_name 5 sc.nd rfl (Or.inl rfl)) igs_nil)))) (fun _ _ _ _ _ => its_nil) (fun _ _ _ _ _ => (ie_var 4))))))))
      (iss_cons (is_set 3 sc.nd rfl (Or.inl rfl) (ie_add ie_int (ie_max1 rfl rfl T.max (IE.io (IN.fz (in_lc (own := [("_", 5), ("column", 6)]) rfl sc.nd (ii_list (ie_var 1)) (blkOk_by (own := [("_", 5), ("column", 6)]) (N := N_picture) (sc := defScope s_picture) (by decide +kernel)) (by decide) (fun _ _ _ _ _ => (ig_tup rfl (igs_cons (ig_name 5 sc.nd rfl (Or.inl rfl)) (igs_cons (ig_name 6 sc.nd rfl (Or.inl rfl)) igs_nil)))) (fun _ _ _ _ _ => its_nil) (fun _ _ _ _ _ => (ie_var 6))))))))
      (iss_one (is_ret (ie_callD G_picture_rows hr (by decide) rfl (ia_cons (ie_var 1) (ia_cons (ie_var 2) (ia_cons (ie_var 3) ia_nil))) (len_cons (len_cons (len_cons len_nil))))))))))
theorem def_picture {f : Addr} {fd : FuncData} (F : FnP K "picture" "picture" s_picture f fd) (T : Txt K mg) (hm : mg "picture" = some (.ref f)) (G_picture_rows : Def P w K mg base 1 "picture_rows" p_picture_rows d_picture_rows) (G_home : Def P w K mg base 3 "home" p_home d_home) : Def P w K mg base 4 "picture" p_picture d_picture :=
  ⟨f, fd, ok_picture F T G_picture_rows G_home, hm, F.kp, F.bindsN fun _ _ _ _ _ _ us hl => match us, hl with | [_], _ => rfl⟩
theorem sc_law_some : FnScope N_law_some p_law_some (defScope s_law_some) := ⟨rfl, rfl, rfl, by decide +kernel, rfl, by decide +kernel, by decide +kernel⟩
theorem ok_law_some {f : Addr} {fd : FuncData} (F : FnP K "_law_some" "_law_some" s_law_some f fd) (T : Txt K mg) (G_law_row : Def P w K mg base 1 "_law_row" p_law_row d_law_row) : FnOk P w K mg base CX0 2 f fd p_law_some (spI K mg 4 d_law_some) := by
  have sc := sc_law_some
  refine fn_okD (k := 1) (N := N_law_some) (ps := p_law_some) (body := b_law_some) F sc fun cdv A outer s H E hr => ?_
  exact (iss_cons (is_set 4 sc.nd rfl (Or.inl rfl) (ie_abs rfl T.abs (ia_cons (ie_int1 rfl T.int (ia_cons (ie_var 0) ia_nil)) ia_nil)))
      (iss_cons (is_setO 5 sc.nd rfl (Or.inl rfl) in_dictT)
      (iss_cons (is_for PassesOwn.never rfl (ii_list (ie_callD G_law_row hr (by decide) rfl (ia_cons (ie_var 0) (ia_cons (ie_var 1) (ia_cons (ie_mul (ie_var 2) (ie_var 3)) ia_nil))) (len_cons (len_cons (len_cons len_nil))))) (ig_name 6 sc.nd rfl (Or.inl rfl)) (iss_one (is_put 5 (hu_of hr) (ie_tup (ia_cons (ie_fdiv (ie_var 6) (ie_var 3)) (ia_cons (ie_mod (ie_var 6) (ie_var 3)) ia_nil))) ie_bl)))
      (iss_one (IS.frz 5 (is_ret (IN.fz (in_sorted (u100 hr) rfl T.sorted (IE.io (IN.fz (in_lcD (own := [("place", 7)]) 5 rfl sc.nd (blkOk_by (own := [("place", 7)]) (N := N_law_some) (sc := defScope s_law_some) (by decide +kernel)) (by decide) (fun _ _ _ _ _ => (ig_name 7 sc.nd rfl (Or.inl rfl))) (fun _ _ _ _ _ => its_nil) (fun _ _ _ _ _ => (ie_var 7)))))))))))))
theorem def_law_some {f : Addr} {fd : FuncData} (F : FnP K "_law_some" "_law_some" s_law_some f fd) (T : Txt K mg) (hm : mg "_law_some" = some (.ref f)) (G_law_row : Def P w K mg base 1 "_law_row" p_law_row d_law_row) : Def P w K mg base 2 "_law_some" p_law_some d_law_some :=
  ⟨f, fd, ok_law_some F T G_law_row, hm, F.kp, F.bindsN fun _ _ _ _ _ _ us hl => match us, hl with | [_, _, _, _], _ => rfl⟩
theorem sc_law : FnScope N_law p_law (defScope s_law) := ⟨rfl, rfl, rfl, by decide +kernel, rfl, by decide +kernel, by decide +kernel⟩
theorem ok_law {f : Addr} {fd : FuncData} (F : FnP K "law" "law" s_law f fd) (T : Txt K mg) (G_law_cells : Def P w K mg base 2 "_law_cells" p_law_cells d_law_cells) (G_read_picture : DefP P w K mg base 4 "read_picture" (He.ga K "InvalidPicture") p_read_picture d_read_picture) (G_law_due : Def P w K mg base 1 "_law_due" p_law_due d_law_due) (G_law_cell : Def P w K mg base 1 "_law_cell" p_law_cell d_law_cell) (G_law_row : Def P w K mg base 1 "_law_row" p_law_row d_law_row) (G_picture : Def P w K mg base 4 "picture" p_picture d_picture) (G_law_some : Def P w K mg base 2 "_law_some" p_law_some d_law_some) : FnOk P w K mg base CX0 5 f fd p_law (spI K mg 1 d_law) := by
  have sc := sc_law
  refine fn_okD (k := 4) (N := N_law) (ps := p_law) (body := b_law) F sc fun cdv A outer s H E hr => ?_
  exact (iss_cons (is_set 1 sc.nd rfl (Or.inl rfl) (ie_callD G_law_cell hr (by decide) rfl (ia_cons (ie_var 0) (ia_cons ie_int ia_nil)) (len_cons (len_cons len_nil))))
      (iss_cons (is_set 2 sc.nd rfl (Or.inr rfl) (IN.fz (in_lc (own := [("r", 7), ("c", 19)]) rfl sc.nd (ii_list (ie_callD G_law_some hr (by decide) rfl (ia_cons (ie_callD G_law_cell hr (by decide) rfl (ia_cons (ie_var 0) (ia_cons ie_int ia_nil)) (len_cons (len_cons len_nil))) (ia_cons (ie_mod (ie_var 1) ie_int) (ia_cons ie_int (ia_cons ie_int ia_nil)))) (len_cons (len_cons (len_cons (len_cons len_nil)))))) (blkOk_by (own := [("r", 7), ("c", 19)]) (N := N_law) (sc := defScope s_law) (by decide +kernel)) (by decide) (fun _ _ _ _ _ => (ig_tup rfl (igs_cons (ig_name 7 sc.nd rfl (Or.inl rfl)) (igs_cons (ig_name 19 sc.nd rfl (Or.inl rfl)) igs_nil)))) (fun _ _ _ _ _ => its_nil) (fun _ _ _ _ _ => (ie_tup (ia_cons (ie_sub (ie_var 7) ie_int) (ia_cons (ie_add (ie_var 19) ie_int) ia_nil)))))))
      (iss_cons (is_set 3 sc.nd rfl (Or.inl rfl) (ie_callD G_picture hr (by decide) rfl (ia_cons (IN.fz (in_list rfl T.list (io_nm 2))) ia_nil) (len_cons len_nil)))
      (iss_cons (is_if (IW.it (iw_or (it_not (it_tru (ie_isi rfl T.isinstance (ia_cons (ie_var 3) (ia_cons (ie_ty rfl T.list (by decide +kernel)) ia_nil))))) (iw_or1 (it_ne hr.units (ie_eq hr.units (ie_var 2) (IN.fz (in_lst ia_nil))) (ie_eq hr.units (ie_var 3) (IN.fz (in_lst ia_nil))))))) (iss_one (is_ret ie_bl)) iss_nil)
      (iss_cons (is_if (it_ne hr.units (ie_var 2) (IN.fz (in_lst ia_nil))) (iss_cons (is_set 4 sc.nd rfl (Or.inr rfl) (ie_min1 rfl rfl T.min (IE.io (IN.fz (in_lc (own := [("r", 7), ("c", 19)]) rfl sc.nd (ii_list (ie_var 2)) (blkOk_by (own := [("r", 7), ("c", 19)]) (N := N_law) (sc := defScope s_law) (by decide +kernel)) (by decide) (fun _ _ _ _ _ => (ig_tup rfl (igs_cons (ig_name 7 sc.nd rfl (Or.inl rfl)) (igs_cons (ig_name 19 sc.nd rfl (Or.inl rfl)) igs_nil)))) (fun _ _ _ _ _ => its_nil) (fun _ _ _ _ _ => (ie_var 7)))))))
      (iss_cons (is_set 5 sc.nd rfl (Or.inr rfl) (ie_min1 rfl rfl T.min (IE.io (IN.fz (in_lc (own := [("r", 7), ("c", 19)]) rfl sc.nd (ii_list (ie_var 2)) (blkOk_by (own := [("r", 7), ("c", 19)]) (N := N_law) (sc := defScope s_law) (by decide +kernel)) (by decide) (fun _ _ _ _ _ => (ig_tup rfl (igs_cons (ig_name 7 sc.nd rfl (Or.inl rfl)) (igs_cons (ig_name 19 sc.nd rfl (Or.inl rfl)) igs_nil)))) (fun _ _ _ _ _ => its_nil) (fun _ _ _ _ _ => (ie_var 19)))))))
      (iss_cons (is_setO 6 sc.nd rfl (Or.inl rfl) (in_lst ia_nil))
      (iss_cons (is_for PassesOwn.never rfl (ii_range2 rfl T.range (ia_cons (ie_var 4) (ia_cons (ie_add (ie_max1 rfl rfl T.max (IE.io (IN.fz (in_lc (own := [("r", 7), ("c", 19)]) rfl sc.nd (ii_list (ie_var 2)) (blkOk_by (own := [("r", 7), ("c", 19)]) (N := N_law) (sc := defScope s_law) (by decide +kernel)) (by decide) (fun _ _ _ _ _ => (ig_tup rfl (igs_cons (ig_name 7 sc.nd rfl (Or.inl rfl)) (igs_cons (ig_name 19 sc.nd rfl (Or.inl rfl)) igs_nil)))) (fun _ _ _ _ _ => its_nil) (fun _ _ _ _ _ => (ie_var 7)))))) ie_int) ia_nil))) (ig_name 7 sc.nd rfl (Or.inr rfl)) (iss_one (is_app 6 (ie_join ie_str (IE.io (IN.fz (in_lc (own := [("c", 19)]) rfl sc.nd (ii_range2 rfl T.range (ia_cons (ie_var 5) (ia_cons (ie_add (ie_max1 rfl rfl T.max (IE.io (IN.fz (in_lc (own := [("r", 7), ("c", 19)]) rfl sc.nd (ii_list (ie_var 2)) (blkOk_by (own := [("r", 7), ("c", 19)]) (N := N_law) (sc := defScope s_law) (by decide +kernel)) (by decide) (fun _ _ _ _ _ => (ig_tup rfl (igs_cons (ig_name 7 sc.nd rfl (Or.inl rfl)) (igs_cons (ig_name 19 sc.nd rfl (Or.inl rfl)) igs_nil)))) (fun _ _ _ _ _ => its_nil) (fun _ _ _ _ _ => (ie_var 19)))))) ie_int) ia_nil))) (blkOk_by (own := [("c", 19)]) (N := N_law) (sc := defScope s_law) (by decide +kernel)) (by decide) (fun _ _ _ _ _ => (ig_name 19 sc.nd rfl (Or.inl rfl))) (fun _ _ _ _ _ => its_nil) (fun _ _ _ _ _ => (ie_ix (IE.io ie_str) (ie_int1 rfl T.int (ia_cons (ie_in (u65 hr) (ie_tup (ia_cons (ie_var 7) (ia_cons (ie_var 19) ia_nil))) (io_nm 2)) ia_nil)))))))))))
      (iss_one (IS.frz 6 (is_if (IW.it (iw_or (it_ne hr.units (ie_var 3) (ie_var 6)) (iw_or1 (it_ne hr.units (ie_pcall G_read_picture hr (by decide) rfl takes0 (ia_cons (ie_var 3) ia_nil) (len_cons len_nil)) (IN.fz (in_lc (own := [("r", 7), ("c", 19)]) rfl sc.nd (ii_list (ie_var 2)) (blkOk_by (own := [("r", 7), ("c", 19)]) (N := N_law) (sc := defScope s_law) (by decide +kernel)) (by decide) (fun _ _ _ _ _ => (ig_tup rfl (igs_cons (ig_name 7 sc.nd rfl (Or.inl rfl)) (igs_cons (ig_name 19 sc.nd rfl (Or.inl rfl)) igs_nil)))) (fun _ _ _ _ _ => its_nil) (fun _ _ _ _ _ => (ie_tup (ia_cons (ie_sub (ie_var 7) (ie_var 4)) (ia_cons (ie_sub (ie_var 19) (ie_var 5)) ia_nil)))))))))) (iss_one (is_ret ie_bl)) iss_nil))))))) iss_nil)
      (iss_cons (is_set 8 sc.nd rfl (Or.inl rfl) (ie_mod (ie_fdiv (ie_var 1) ie_int) ie_int))
      (iss_cons (is_setO 9 sc.nd rfl (Or.inl rfl) (in_lst ia_nil))
      (iss_cons (is_for PassesOwn.never rfl (ii_range1 rfl T.range (ia_cons (ie_mod (ie_fdiv (ie_var 1) ie_int) ie_int) ia_nil)) (ig_name 10 sc.nd rfl (Or.inl rfl)) (iss_one (is_app 9 (ie_join ie_str (IE.io (IN.fz (in_lc (own := [("x", 11)]) rfl sc.nd (ii_list (ie_callD G_law_row hr (by decide) rfl (ia_cons (ie_add (ie_callD G_law_cell hr (by decide) rfl (ia_cons (ie_var 0) (ia_cons ie_int ia_nil)) (len_cons (len_cons len_nil))) (ie_var 10)) (ia_cons (ie_var 8) (ia_cons ie_int ia_nil))) (len_cons (len_cons (len_cons len_nil))))) (blkOk_by (own := [("x", 11)]) (N := N_law) (sc := defScope s_law) (by decide +kernel)) (by decide) (fun _ _ _ _ _ => (ig_name 11 sc.nd rfl (Or.inl rfl))) (fun _ _ _ _ _ => its_nil) (fun _ _ _ _ _ => (ie_ix (IE.io ie_str) (ie_mod (ie_var 11) ie_int))))))))))
      (iss_cons (is_for PassesOwn.never rfl (ii_range1 rfl T.range (ia_cons (ie_mod (ie_fdiv (ie_var 1) ie_int) ie_int) ia_nil)) (ig_name 10 sc.nd rfl (Or.inl rfl)) (iss_cons (is_set 11 sc.nd rfl (Or.inl rfl) (ie_abs rfl T.abs (ia_cons (ie_callD G_law_cell hr (by decide) rfl (ia_cons (ie_var 0) (ia_cons (ie_add ie_int (ie_var 10)) ia_nil)) (len_cons (len_cons len_nil))) ia_nil)))
      (iss_one (is_if (it_gt (ie_len rfl T.len (io_nm 9)) ie_int) (iss_cons (is_set 7 sc.nd rfl (Or.inr rfl) (ie_mod (ie_var 11) (ie_len rfl T.len (io_nm 9))))
      (iss_cons (is_set 12 sc.nd rfl (Or.inl rfl) (ie_mod (ie_fdiv (ie_var 11) ie_int) (ie_add (ie_len rfl T.len (IE.io (ie_ix (io_nm 9) (ie_var 7)))) ie_int)))
      (iss_one (is_lput 9 (ie_var 7) (ie_add (ie_add (ie_sl (IE.io (ie_ix (io_nm 9) (ie_var 7))) ip_none (ip_some (ie_var 12))) (ie_ix (IE.io (IN.fz (in_lst (ia_cons ie_str (ia_cons ie_str (ia_cons ie_str (ia_cons ie_str (ia_cons ie_str (ia_cons ie_str ia_nil))))))))) (ie_mod (ie_fdiv (ie_var 11) ie_int) ie_int))) (ie_sl (IE.io (ie_ix (io_nm 9) (ie_var 7))) (ip_some (ie_add (ie_var 12) (ie_mod (ie_fdiv (ie_var 11) ie_int) ie_int))) ip_none)))))) iss_nil))))
      (iss_cons (IS.frz 9 (is_asg (ie_callD G_law_due hr (by decide) rfl (ia_cons (ie_var 9) ia_nil) (len_cons len_nil)) (ig_tup rfl (igs_cons (ig_name 13 sc.nd rfl (Or.inl rfl)) (igs_cons (ig_name 14 sc.nd rfl (Or.inl rfl)) igs_nil)))))
      (iss_cons (is_set 15 sc.nd rfl (Or.inl rfl) (IN.fz (in_list rfl T.list (io_nm 9))))
      (iss_cons (is_tryP rfl rfl sc.nd rfl rfl ⟨rfl, by decide, .inl T.glo_LifeError⟩ takes0 G_read_picture rfl hr (by decide) rfl (by decide) rfl (by first | exact Or.inl rfl | exact Or.inr (Or.inl rfl) | exact Or.inr (Or.inr rfl)) (by decide) (by decide) rfl (Or.inl rfl) (by first | exact .inl rfl | exact .inr rfl) (fun _ h => by subst h; rfl) T.exm_InvalidPicture_LifeError (fun a dd oe pn hz hv => jpr_two (by decide) sc.nd rfl (Or.inl rfl) (jp_or (jp_isO T.exc_InvalidPicture hz hv rfl T.isinstance rfl (by first | exact Or.inl rfl | exact Or.inr (Or.inl rfl) | exact Or.inr (Or.inr rfl)) rfl T.glo_InvalidText T.kit_InvalidPicture_InvalidText) (jp_or (jp_isO T.exc_InvalidPicture hz hv rfl T.isinstance rfl (by first | exact Or.inl rfl | exact Or.inr (Or.inl rfl) | exact Or.inr (Or.inr rfl)) rfl T.glo_InvalidRule T.kit_InvalidPicture_InvalidRule) (jp_one (jp_not (jp_isT T.exc_InvalidPicture hz hv rfl T.isinstance rfl (by first | exact Or.inl rfl | exact Or.inr (Or.inl rfl) | exact Or.inr (Or.inr rfl)) rfl T.ValueError (by decide +kernel) T.kit_InvalidPicture_ValueError))))) (jp_and (jp_isO T.exc_InvalidPicture hz hv rfl T.isinstance rfl (by first | exact Or.inl rfl | exact Or.inr (Or.inl rfl) | exact Or.inr (Or.inr rfl)) rfl T.glo_InvalidPicture T.kit_InvalidPicture_InvalidPicture) (jp_and (jp_not (jp_of (ie_var 18))) (jp_and (jp_eq hr.units (jp_tup (jpa_cons (jp_fld T.xfc_InvalidPicture T.nof_InvalidPicture_row hz hv rfl (by first | exact Or.inl rfl | exact Or.inr (Or.inl rfl) | exact Or.inr (Or.inr rfl))) (jpa_cons (jp_fld T.xfc_InvalidPicture T.nof_InvalidPicture_column hz hv rfl (by first | exact Or.inl rfl | exact Or.inr (Or.inl rfl) | exact Or.inr (Or.inr rfl))) jpa_nil))) (ie_var 14)) (jp_one (jp_of (ie_eq hr.units (ie_var 15) (ie_var 9)))))))))
      (iss_one (IS.frz 9 (is_ret (ie_and (ie_is (ie_var 14) ie_non) (ie_and (ie_callD G_law_cells hr (by decide) rfl (ia_cons (ie_var 16) ia_nil) (len_cons len_nil)) (ie_and (ie_eq hr.units (ie_var 16) (ie_var 13)) (ie_one (ie_eq hr.units (ie_var 15) (ie_var 9)))))))))))))))))))))
theorem def_law {f : Addr} {fd : FuncData} (F : FnP K "law" "law" s_law f fd) (T : Txt K mg) (hm : mg "law" = some (.ref f)) (G_law_cells : Def P w K mg base 2 "_law_cells" p_law_cells d_law_cells) (G_read_picture : DefP P w K mg base 4 "read_picture" (He.ga K "InvalidPicture") p_read_picture d_read_picture) (G_law_due : Def P w K mg base 1 "_law_due" p_law_due d_law_due) (G_law_cell : Def P w K mg base 1 "_law_cell" p_law_cell d_law_cell) (G_law_row : Def P w K mg base 1 "_law_row" p_law_row d_law_row) (G_picture : Def P w K mg base 4 "picture" p_picture d_picture) (G_law_some : Def P w K mg base 2 "_law_some" p_law_some d_law_some) : Def P w K mg base 5 "law" p_law d_law :=
  ⟨f, fd, ok_law F T G_law_cells G_read_picture G_law_due G_law_cell G_law_row G_picture G_law_some, hm, F.kp, F.bindsN fun _ _ _ _ _ _ us hl => match us, hl with | [_], _ => rfl⟩
end
def D_ (x : Str) (st : Stmt) : He.DefD := ⟨(x, none), x, x, defArgs st, defBody st, defScope st, [], []⟩
def Dm_ (c x y : Str) (st : Stmt) : He.DefD := ⟨(c, some x), x, y, defArgs st, defBody st, defScope st, [], []⟩
def fn : List He.DefD := [D_ "_law_integer" s_law_integer, D_ "_law_cells" s_law_cells, Dm_ "InvalidPicture" "__init__" "InvalidPicture.__init__" s_InvalidPicture_init, D_ "check_string" s_check_string, D_ "read_picture" s_read_picture, D_ "_law_due" s_law_due, D_ "_law_cell" s_law_cell, D_ "_law_row" s_law_row, D_ "picture_rows" s_picture_rows, D_ "pattern" s_pattern, D_ "moved" s_moved, D_ "home" s_home, D_ "picture" s_picture, D_ "_law_some" s_law_some, D_ "law" s_law]
def fa : List He.Fa := [.glo "_law_integer", .glo "_law_cells", .meth "InvalidPicture" "__init__", .glo "check_string", .glo "read_picture", .glo "_law_due", .glo "_law_cell", .glo "_law_row", .glo "picture_rows", .glo "pattern", .glo "moved", .glo "home", .glo "picture", .glo "_law_some", .glo "law", .free "ValueError", .free "abs", .free "bool", .free "enumerate", .free "int", .free "isinstance", .free "len", .free "list", .free "max", .free "min", .free "range", .free "set", .free "sorted", .free "tuple", .glo "InvalidPicture", .glo "InvalidText", .glo "InvalidRule", .glo "LifeError"]
def exs : List (PySem.W.Frag → Bool) := [fun K => excB K (He.ga K "InvalidPicture"), fun K => decide (PySem.W.kitOne K (.ref (He.ga K "InvalidPicture")) (.ref (He.ga K "InvalidText")) = some false), fun K => decide (PySem.W.kitOne K (.ref (He.ga K "InvalidPicture")) (.ref (He.ga K "InvalidRule")) = some false), fun K => decide (PySem.W.kitOne K (.ref (He.ga K "InvalidPicture")) (.type "ValueError") = some true), fun K => decide (PySem.W.kitOne K (.ref (He.ga K "InvalidPicture")) (.ref (He.ga K "InvalidPicture")) = some true), fun K => xfB K (He.ga K "InvalidPicture"), fun K => decide (PySem.W.findIn K (.ref (He.ga K "InvalidPicture")) "column" = some none), fun K => decide (PySem.W.findIn K (.ref (He.ga K "InvalidPicture")) "row" = some none), fun K => decide (PySem.W.exmOne K (.ref (He.ga K "InvalidPicture")) (.ref (He.ga K "LifeError")) = some true), fun K => oexB K (He.ga K "InvalidPicture"), fun K => baseB K (He.ga K "LifeError")]
def ex (K : PySem.W.Frag) : Bool := exs.all fun f => f K
theorem ex_at {K : PySem.W.Frag} (h : ex K = true) (i : Nat) {f : PySem.W.Frag → Bool} (e : exs[i]? = some f := by rfl) : f K = true := List.all_eq_true.mp h f (List.mem_of_getElem? e)
abbrev R : PySem.W.OpenRow := PySem.W.OpenLaw.row PySem.Challenge.rw_longlife_k05_pictures_and_their_faults
abbrev hk : PySem.W.Hook := hookG 6 fa fn ex
def ob (s : PySem.W.SharedT) : AlE := obsG 6 fa fn ex (HandSHeadRun.getT s)
theorem ob_eq (s : PySem.W.SharedT) : ob s = hk.obs s.abs := obsG_eq (HandSHeadRun.getT_eq s)
theorem run (w : World) : HandSHeadRun.RunEq R (PySem.W.view R.prog [20]) hk ob 4000 ["pattern", "moved", "home", "picture_rows", "picture", "check_string", "read_picture", "_law_cell", "_law_row", "_law_integer", "_law_cells", "_law_some", "_law_due", "LifeError", "InvalidRule", "InvalidText", "InvalidPicture"] w := by
  intro os
  kernel_rfl
theorem facts {P : Program} {w : World} {K : PySem.W.Frag} {h : Heap} {mg : Str → Option Value} {f : Addr} (X : K.In h) (G : h.Ns mainGlobals mg) (hfa : mg ("law" : Str) = some (.ref f)) (cc : He.SaysD fa fn K ∧ ex K = true) :
    ∃ fd : FuncData, (∀ (s : Shared) (v : Value), BindsTo s fd ⟨[v], []⟩ [("script", v)]) ∧ ∀ base : Heap, K.In base → base.Ns mainGlobals mg → FnOk P w K mg base CX0 5 f fd ["script"] (spI K mg 1 d_law) := by
  obtain ⟨c, cx⟩ := cc
  obtain ⟨fd_law_integer, F_law_integer⟩ := c.def_ 0 (d := D_ "_law_integer" s_law_integer) rfl
  have m_law_integer := He.glo_ok X G (c.fact 0 (f := .glo "_law_integer") rfl)
  obtain ⟨fd_law_cells, F_law_cells⟩ := c.def_ 1 (d := D_ "_law_cells" s_law_cells) rfl
  have m_law_cells := He.glo_ok X G (c.fact 1 (f := .glo "_law_cells") rfl)
  obtain ⟨fd_InvalidPicture_init, F_InvalidPicture_init⟩ := c.def_ 2 (d := Dm_ "InvalidPicture" "__init__" "InvalidPicture.__init__" s_InvalidPicture_init) rfl
  have m_InvalidPicture_init := He.meth_ok (c.fact 2 (f := .meth "InvalidPicture" "__init__") rfl)
  obtain ⟨fd_check_string, F_check_string⟩ := c.def_ 3 (d := D_ "check_string" s_check_string) rfl
  have m_check_string := He.glo_ok X G (c.fact 3 (f := .glo "check_string") rfl)
  obtain ⟨fd_read_picture, F_read_picture⟩ := c.def_ 4 (d := D_ "read_picture" s_read_picture) rfl
  have m_read_picture := He.glo_ok X G (c.fact 4 (f := .glo "read_picture") rfl)
  obtain ⟨fd_law_due, F_law_due⟩ := c.def_ 5 (d := D_ "_law_due" s_law_due) rfl
  have m_law_due := He.glo_ok X G (c.fact 5 (f := .glo "_law_due") rfl)
  obtain ⟨fd_law_cell, F_law_cell⟩ := c.def_ 6 (d := D_ "_law_cell" s_law_cell) rfl
  have m_law_cell := He.glo_ok X G (c.fact 6 (f := .glo "_law_cell") rfl)
  obtain ⟨fd_law_row, F_law_row⟩ := c.def_ 7 (d := D_ "_law_row" s_law_row) rfl
  have m_law_row := He.glo_ok X G (c.fact 7 (f := .glo "_law_row") rfl)
  obtain ⟨fd_picture_rows, F_picture_rows⟩ := c.def_ 8 (d := D_ "picture_rows" s_picture_rows) rfl
  have m_picture_rows := He.glo_ok X G (c.fact 8 (f := .glo "picture_rows") rfl)
  obtain ⟨fd_pattern, F_pattern⟩ := c.def_ 9 (d := D_ "pattern" s_pattern) rfl
  have m_pattern := He.glo_ok X G (c.fact 9 (f := .glo "pattern") rfl)
  obtain ⟨fd_moved, F_moved⟩ := c.def_ 10 (d := D_ "moved" s_moved) rfl
  have m_moved := He.glo_ok X G (c.fact 10 (f := .glo "moved") rfl)
  obtain ⟨fd_home, F_home⟩ := c.def_ 11 (d := D_ "home" s_home) rfl
  have m_home := He.glo_ok X G (c.fact 11 (f := .glo "home") rfl)
  obtain ⟨fd_picture, F_picture⟩ := c.def_ 12 (d := D_ "picture" s_picture) rfl
  have m_picture := He.glo_ok X G (c.fact 12 (f := .glo "picture") rfl)
  obtain ⟨fd_law_some, F_law_some⟩ := c.def_ 13 (d := D_ "_law_some" s_law_some) rfl
  have m_law_some := He.glo_ok X G (c.fact 13 (f := .glo "_law_some") rfl)
  obtain ⟨fd_law, F_law⟩ := c.def_ 14 (d := D_ "law" s_law) rfl
  have m_law := He.glo_ok X G (c.fact 14 (f := .glo "law") rfl)
  have e := hfa.symm.trans m_law
  cases e
  have T : Txt K mg := ⟨He.free_ok X G (c.fact 15 (f := .free "ValueError") rfl), He.free_ok X G (c.fact 16 (f := .free "abs") rfl), He.free_ok X G (c.fact 17 (f := .free "bool") rfl), He.free_ok X G (c.fact 18 (f := .free "enumerate") rfl), He.free_ok X G (c.fact 19 (f := .free "int") rfl), He.free_ok X G (c.fact 20 (f := .free "isinstance") rfl), He.free_ok X G (c.fact 21 (f := .free "len") rfl), He.free_ok X G (c.fact 22 (f := .free "list") rfl), He.free_ok X G (c.fact 23 (f := .free "max") rfl), He.free_ok X G (c.fact 24 (f := .free "min") rfl), He.free_ok X G (c.fact 25 (f := .free "range") rfl), He.free_ok X G (c.fact 26 (f := .free "set") rfl), He.free_ok X G (c.fact 27 (f := .free "sorted") rfl), He.free_ok X G (c.fact 28 (f := .free "tuple") rfl), excB_ok (ex_at cx 0), of_decide_eq_true (ex_at cx 1), He.glo_ok X G (c.fact 30 (f := .glo "InvalidText") rfl), of_decide_eq_true (ex_at cx 2), He.glo_ok X G (c.fact 31 (f := .glo "InvalidRule") rfl), of_decide_eq_true (ex_at cx 3), of_decide_eq_true (ex_at cx 4), He.glo_ok X G (c.fact 29 (f := .glo "InvalidPicture") rfl), xfB_ok (ex_at cx 5), of_decide_eq_true (ex_at cx 6), of_decide_eq_true (ex_at cx 7), He.glo_ok X G (c.fact 32 (f := .glo "LifeError") rfl), of_decide_eq_true (ex_at cx 8), oexB_ok (ex_at cx 9), baseB_ok (ex_at cx 10)⟩
  have b := FunD.bindsA (ps := ["script"]) F_law fun _ _ _ _ _ _ us hl => match us, hl with | [_], _ => rfl
  refine ⟨fd_law, fun s v => b s [v] rfl, fun base _ _ => ?_⟩
  have G_law_integer : Def P w K mg base 1 "_law_integer" p_law_integer d_law_integer := def_law_integer F_law_integer T m_law_integer 
  have G_law_cells : Def P w K mg base 2 "_law_cells" p_law_cells d_law_cells := def_law_cells F_law_cells T m_law_cells G_law_integer
  have O_InvalidPicture_init : FnOk P w K mg base CX0 1 _ fd_InvalidPicture_init p_InvalidPicture_init (spIni K (He.ga K "InvalidPicture")) := ok_InvalidPicture_init F_InvalidPicture_init T
  have B_InvalidPicture_init : Binds K fd_InvalidPicture_init p_InvalidPicture_init [] := F_InvalidPicture_init.bindsN fun _ _ _ _ _ _ us hl => match us, hl with | [_, _, _], _ => rfl
  have I_InvalidPicture : IniD P w K mg base 1 "InvalidPicture" (He.ga K "InvalidPicture") := iniD_of T.glo_InvalidPicture T.oex_InvalidPicture m_InvalidPicture_init O_InvalidPicture_init B_InvalidPicture_init
  have G_check_string : DefP P w K mg base 3 "check_string" (He.ga K "InvalidPicture") p_check_string d_check_string := def_check_string F_check_string T m_check_string I_InvalidPicture
  have G_read_picture : DefP P w K mg base 4 "read_picture" (He.ga K "InvalidPicture") p_read_picture d_read_picture := def_read_picture F_read_picture T m_read_picture G_check_string
  have G_law_due : Def P w K mg base 1 "_law_due" p_law_due d_law_due := def_law_due F_law_due T m_law_due 
  have G_law_cell : Def P w K mg base 1 "_law_cell" p_law_cell d_law_cell := def_law_cell F_law_cell T m_law_cell 
  have G_law_row : Def P w K mg base 1 "_law_row" p_law_row d_law_row := def_law_row F_law_row T m_law_row 
  have G_picture_rows : Def P w K mg base 1 "picture_rows" p_picture_rows d_picture_rows := def_picture_rows F_picture_rows T m_picture_rows 
  have G_pattern : Def P w K mg base 1 "pattern" p_pattern d_pattern := def_pattern F_pattern T m_pattern 
  have G_moved : Def P w K mg base 2 "moved" p_moved d_moved := def_moved F_moved T m_moved G_pattern
  have G_home : Def P w K mg base 3 "home" p_home d_home := def_home F_home T m_home G_moved
  have G_picture : Def P w K mg base 4 "picture" p_picture d_picture := def_picture F_picture T m_picture G_picture_rows G_home
  have G_law_some : Def P w K mg base 2 "_law_some" p_law_some d_law_some := def_law_some F_law_some T m_law_some G_law_row
  exact ok_law F_law T G_law_cells G_read_picture G_law_due G_law_cell G_law_row G_picture G_law_some
end Law
namespace Law
open PySem PySem.Spec PyProof.Rows L2 Lf
theorem cell_eq (ns : List Int) (k : Nat) (L : Lg) : d_law_cell [.scr ns, .int k] L = some (.int (ns.getD k 0), L) := by
  by_cases h : k < ns.length
  · simp [ud_law_cell, ub_law_cell, h, atI_nat (List.getElem?_eq_getElem h)]
  · simp [ud_law_cell, ub_law_cell, h]
theorem row_loop (cell count : W) (bound : Int) (h1 : 0 < bound) (h2 : bound < 18446744073709551616) (L : Lg) : ∀ (ks : List Int) (rest mixed : Int) (acc : List Int) (kv : Sl), 0 ≤ mixed → mixed < 4611686018427387904 → acc.length + ks.length ≤ 16777216 →
    ∃ (xs : List Int) (rest' mixed' : Int) (kv' : Sl), forLoop (gN 6) for_law_row1 (ks.map W.int) [.va cell, .va count, .va (.int bound), .va (.int rest), .va (.int mixed), .ow (.lst (acc.map W.int)), kv] L =
      some (.nx [.va cell, .va count, .va (.int bound), .va (.int rest'), .va (.int mixed'), .ow (.lst ((acc ++ xs).map W.int)), kv'] L) ∧ xs.length = ks.length ∧ ∀ x ∈ xs, 0 ≤ x ∧ x < bound
  | [], rest, mixed, acc, kv, _, _, _ => ⟨[], rest, mixed, kv, by simp [forLoop], rfl, by simp⟩
  | k :: ks, rest, mixed, acc, kv, m1, m2, hl => by
    simp only [List.length_cons] at hl
    have hlt : acc.length < 16777216 := by omega
    have bnd : ∀ z : Int, 0 ≤ z % bound ∧ z % bound < bound := fun z => ⟨Int.emod_nonneg _ (by omega), Int.emod_lt_of_pos _ h1⟩
    by_cases hr : bound ≤ rest
    · obtain ⟨xs, r', mx', kv', e, el, eb⟩ := row_loop cell count bound h1 h2 L ks (rest / bound) mixed (acc ++ [rest % bound]) (.va (.int k)) m1 m2 (by simp; omega)
      refine ⟨rest % bound :: xs, r', mx', kv', ?_, by simp [el], ?_⟩
      · rw [List.map_cons, for_nx (g := gN 6) (by simp; rfl) (by simp [ufor_law_row1, hr, h1, h2, hlt]; exact ⟨rfl, rfl⟩)]
        simpa using e
      · intro x hx
        rcases List.mem_cons.mp hx with rfl | hx
        · exact bnd _
        · exact eb x hx
    · have hm1 : 0 ≤ (mixed * 48271 + 11 * k + 7) % 2147483647 := Int.emod_nonneg _ (by decide)
      have hm2 : (mixed * 48271 + 11 * k + 7) % 2147483647 < 2147483647 := Int.emod_lt_of_pos _ (by decide)
      obtain ⟨xs, r', mx', kv', e, el, eb⟩ := row_loop cell count bound h1 h2 L ks rest ((mixed * 48271 + 11 * k + 7) % 2147483647) (acc ++ [((mixed * 48271 + 11 * k + 7) % 2147483647 * 2862933555777941757 / 1024) % bound]) (.va (.int k)) hm1 (by omega) (by simp; omega)
      refine ⟨((mixed * 48271 + 11 * k + 7) % 2147483647 * 2862933555777941757 / 1024) % bound :: xs, r', mx', kv', ?_, by simp [el], ?_⟩
      · rw [List.map_cons, for_nx (g := gN 6) (by simp; rfl) (by simp [ufor_law_row1, hr, h1, h2, hlt]; exact ⟨rfl, rfl⟩)]
        simpa using e
      · intro x hx
        rcases List.mem_cons.mp hx with rfl | hx
        · exact bnd _
        · exact eb x hx
theorem row_eq (cell : Int) (count : Nat) (bound : Int) (L : Lg) (h1 : 0 < bound) (h2 : bound < 18446744073709551616) (hc : count ≤ 1000) :
    ∃ xs : List Int, d_law_row [.int cell, .int count, .int bound] L = some (.lst (xs.map W.int), L) ∧ xs.length = count ∧ ∀ x ∈ xs, 0 ≤ x ∧ x < bound := by
  obtain ⟨xs, r', m', kv', e, el, eb⟩ := row_loop (.int cell) (.int count) bound h1 h2 L ((List.range count).map fun (i : Nat) => (0 : Int) + (i : Int)) (if cell < 0 then -cell else cell) (cell % 1000003 + 1) [] .un (by omega) (by omega) (by simp; omega)
  refine ⟨xs, ?_, by simpa using el, eb⟩
  rw [← rangeW_ints] at e
  simp only [List.map_nil, List.nil_append] at e
  simp [ud_law_row, ub_law_row, show ((count : Int) ≤ 1000000) by omega, show (-1000000 ≤ (count : Int)) by omega, e]

theorem integer_int (i : Int) (L : Lg) : d_law_integer [.int i] L = some (.bl true, L) := by
  simp [ud_law_integer, ub_law_integer]

theorem some_loopR (a b c e : Sl) (w : Int) (h1 : 0 < w) (h2 : w < 18446744073709551616) (L : Lg) : ∀ (xs : List Int) (cs : List Cell) (x z : Sl), cs.Nodup → cs.length + xs.length ≤ 1000000 →
    ∃ (cs' : List Cell) (x' : Sl), forLoop (gN 6) for_law_some1 (xs.map W.int) [a, b, c, .va (.int w), e, .ow (.dT (setD cs)), x, z] L =
      some (.nx [a, b, c, .va (.int w), e, .ow (.dT (setD cs')), x', z] L) ∧ cs'.Nodup ∧ cs'.length ≤ cs.length + xs.length ∧ ∀ q ∈ cs', q ∈ cs ∨ ∃ k ∈ xs, q = (k / w, k % w)
  | [], cs, x, z, nd, _ => ⟨cs, x, by simp [forLoop], nd, by simp, fun q hq => .inl hq⟩
  | k :: ks, cs, x, z, nd, hl => by
    simp only [List.length_cons] at hl
    have hlt : cs.length < 16777216 := by omega
    by_cases hm : (k / w, k % w) ∈ cs
    · obtain ⟨cs', x', e1, e2, e3, e4⟩ := some_loopR a b c e w h1 h2 L ks cs (.va (.int k)) z nd (by omega)
      refine ⟨cs', x', ?_, e2, by simp; omega, fun q hq => (e4 q hq).elim .inl fun ⟨y, hy, z⟩ => .inr ⟨y, List.mem_cons_of_mem _ hy, z⟩⟩
      rw [List.map_cons, for_nx (g := gN 6) (by simp; rfl) (by simp [ufor_law_some1, h1, h2, hlt, put_set, hm]; exact ⟨rfl, rfl⟩)]
      simpa using e1
    · obtain ⟨cs', x', e1, e2, e3, e4⟩ := some_loopR a b c e w h1 h2 L ks (cs ++ [(k / w, k % w)]) (.va (.int k)) z (List.nodup_append.mpr ⟨nd, by simp, by intro p hp q hq he; simp at hq; subst hq; subst he; exact hm hp⟩) (by simp; omega)
      refine ⟨cs', x', ?_, e2, by simp at e3 ⊢; omega, fun q hq => (e4 q hq).elim (fun z => (List.mem_append.mp z).elim .inl fun z => .inr ⟨k, List.mem_cons_self, by simpa using z⟩) fun ⟨y, hy, z⟩ => .inr ⟨y, List.mem_cons_of_mem _ hy, z⟩⟩
      rw [List.map_cons, for_nx (g := gN 6) (by simp; rfl) (by simp [ufor_law_some1, h1, h2, hlt, put_set, hm]; exact ⟨rfl, rfl⟩)]
      simpa using e1
theorem some_eqR (cell : Int) (count : Nat) (h w : Int) (L : Lg) (h1 : 0 < w) (h2 : w < 4294967296) (h3 : 0 < h) (h4 : h < 4294967296) (hc : count ≤ 1000) :
    ∃ cs : List Cell, d_law_some [.int cell, .int count, .int h, .int w] L = some (cellsL cs, L) ∧ Can cs ∧ cs.length ≤ count ∧ ∀ q ∈ cs, 0 ≤ q.1 ∧ q.1 < h ∧ 0 ≤ q.2 ∧ q.2 < w := by
  have q1 : 0 < h * w := Int.mul_pos h3 h1
  have q2 : h * w < 18446744073709551616 := by
    have := Int.mul_le_mul (show h ≤ 4294967295 by omega) (show w ≤ 4294967295 by omega) (by omega) (by omega)
    omega
  obtain ⟨xs, e, el, eb⟩ := row_eq cell count (h * w) L q1 q2 hc
  obtain ⟨cs', x', e1, e2, e3, e4⟩ := some_loopR (.va (.int cell)) (.va (.int count)) (.va (.int h)) (.va (.int (if cell < 0 then -cell else cell))) w h1 (by omega) L xs [] .un .un (by simp) (by simp; omega)
  refine ⟨sortC cs', ?_, sortC_can e2, by rw [(sortC_perm cs').length_eq]; simp at e3; omega, fun q hq => ?_⟩
  rotate_left
  · rcases e4 q (mem_sortC.mp hq) with z | ⟨k, hk, rfl⟩
    · cases z
    · have kb := eb k hk
      exact ⟨Int.ediv_nonneg kb.1 (by omega), Int.ediv_lt_of_lt_mul h1 kb.2, Int.emod_nonneg _ (by omega), Int.emod_lt_of_pos _ h1⟩
  rw [show setD [] = [] from rfl] at e1
  simp [ud_law_some, ub_law_some, e, show -18446744073709551616 < w by omega, show w < 18446744073709551616 by omega, e1, keys_set]
  rw [cells_map (f := fun c => c)]
  · simp [-List.map_map, sortL_cells, show cs'.length ≤ 16777216 by simp at e3; omega]
  · intro c _
    simp [wipeR]
theorem pattern_eqW (cs : List Cell) (L : Lg) (h : cs.length < 9800) : d_pattern [cellsL cs] L = some (cellsL (canon cs), L) := by
  simp [ud_pattern, ub_pattern, cellsW_map, h]
theorem pattern_eqG (cs : List Cell) (L : Lg) (h : cs.length < 1000) : d_pattern [cellsL cs] L = some (cellsL (canon cs), L) := pattern_eqW cs L (by omega)
theorem canon_nodup {l m : List Cell} (hm : m.Nodup) (h : ∀ x, x ∈ m ↔ x ∈ l) : canon l = sortC m := canon_of hm h
theorem sortC_idem (l : List Cell) : sortC (sortC l) = sortC l := sortC_self (sortC_pw l)

theorem cells_loop (cs : List Cell) (L : Lg) : ∀ (ds : List Cell) (x : Sl), ∃ x', forLoop (gN 1) for_law_cells1 (ds.map cW) [.va (cellsL cs), x] L = some (.nx [.va (cellsL cs), x'] L)
  | [], x => ⟨x, by simp [forLoop]⟩
  | d :: ds, x => by
    obtain ⟨x', e⟩ := cells_loop cs L ds (.va (cW d))
    refine ⟨x', ?_⟩
    rw [List.map_cons, for_nx (g := gN 1) (by simp; rfl) (by simp [ufor_law_cells1, integer_int, atI_one]; exact ⟨rfl, rfl⟩)]
    simpa using e
theorem law_cells_eq (cs : List Cell) (L : Lg) : d_law_cells [cellsL cs] L = some (.bl (decide (cs = sortC cs)), L) := by
  obtain ⟨x', e⟩ := cells_loop cs L cs .un
  simp [ud_law_cells, ub_law_cells, e, sortL_cells, eqW_cells]

/-! the eight images, as codes -/
abbrev Dc := Bool × Bool × Bool
def sgn (k : Bool) (x : Int) : Int := if k then -x else x
def act (d : Dc) (p : Cell) : Cell := if d.1 then (sgn d.2.1 p.2, sgn d.2.2 p.1) else (sgn d.2.1 p.1, sgn d.2.2 p.2)
def mulD (d e : Dc) : Dc := if d.1 then (!e.1, (d.2.1 ^^ e.2.2), (d.2.2 ^^ e.2.1)) else (e.1, (d.2.1 ^^ e.2.1), (d.2.2 ^^ e.2.2))
def invD (d : Dc) : Dc := if d.1 then (true, d.2.2, d.2.1) else d
theorem act_mul (d e : Dc) (p : Cell) : act d (act e p) = act (mulD d e) p := by
  obtain ⟨s, a, b⟩ := d
  obtain ⟨s', a', b'⟩ := e
  cases s <;> cases a <;> cases b <;> cases s' <;> cases a' <;> cases b' <;> simp [act, mulD, sgn]
theorem mul_inv (d e : Dc) : mulD (mulD d (invD e)) e = d := by
  obtain ⟨s, a, b⟩ := d
  obtain ⟨s', a', b'⟩ := e
  cases s <;> cases a <;> cases b <;> cases s' <;> cases a' <;> cases b' <;> rfl
def tnD : Dc := (true, false, true)
def miD : Dc := (false, false, true)
def idD : Dc := (false, false, false)
def D8 : List Dc := [idD, tnD, (false, true, true), (true, true, false), miD, (true, true, true), (false, true, false), (true, false, false)]
theorem mem_D8 (d : Dc) : d ∈ D8 := by
  obtain ⟨s, a, b⟩ := d
  cases s <;> cases a <;> cases b <;> decide
theorem act_inj {d : Dc} {p q : Cell} (h : act d p = act d q) : p = q := by
  obtain ⟨s, a, b⟩ := d
  obtain ⟨p1, p2⟩ := p
  obtain ⟨q1, q2⟩ := q
  cases s <;> cases a <;> cases b <;> simp [act, sgn] at h <;> simp <;> omega
theorem act_tr (d : Dc) (a b : Int) : ∃ a' b', ∀ p, act d (tr a b p) = tr a' b' (act d p) := by
  obtain ⟨s, k, l⟩ := d
  cases s
  · refine ⟨sgn k a, sgn l b, fun p => ?_⟩
    cases k <;> cases l <;> simp [act, sgn, tr] <;> omega
  · refine ⟨sgn k b, sgn l a, fun p => ?_⟩
    cases k <;> cases l <;> simp [act, sgn, tr] <;> omega
theorem nd_map {f : Cell → Cell} (hf : ∀ {a b}, f a = f b → a = b) {l : List Cell} (h : l.Nodup) : (l.map f).Nodup := List.pairwise_map.mpr (h.imp fun hne e => hne (hf e))
/-- the image of a pattern -/
def im (d : Dc) (cs : List Cell) : List Cell := sortC (cs.map (act d))
theorem can_im {d : Dc} {cs : List Cell} (h : cs.Nodup) : Can (im d cs) := sortC_can (nd_map (act_inj (d := d)) h)
theorem mem_im {d : Dc} {cs : List Cell} {x : Cell} : x ∈ im d cs ↔ ∃ p ∈ cs, act d p = x := by
  unfold im
  rw [mem_sortC, List.mem_map]
theorem im_len (d : Dc) (cs : List Cell) : (im d cs).length = cs.length := by
  unfold im
  rw [(sortC_perm _).length_eq, List.length_map]
theorem im_im {d e : Dc} {cs : List Cell} (h : cs.Nodup) : im d (im e cs) = im (mulD d e) cs := by
  refine can_ext (can_im (can_im h).1) (can_im h) fun x => ?_
  rw [mem_im, mem_im]
  constructor
  · rintro ⟨p, hp, rfl⟩
    obtain ⟨q, hq, rfl⟩ := mem_im.mp hp
    exact ⟨q, hq, (act_mul d e q).symm⟩
  · rintro ⟨q, hq, rfl⟩
    exact ⟨act e q, mem_im.mpr ⟨q, hq, rfl⟩, act_mul d e q⟩
theorem im_tr {d : Dc} {cs : List Cell} (h : cs.Nodup) (a b : Int) : ∃ a' b', im d (cs.map (tr a b)) = (im d cs).map (tr a' b') := by
  obtain ⟨a', b', e⟩ := act_tr d a b
  refine ⟨a', b', can_ext (can_im (nd_map tr_inj h)) (can_tr a' b' (can_im h)) fun x => ?_⟩
  rw [mem_im, List.mem_map]
  constructor
  · rintro ⟨p, hp, rfl⟩
    obtain ⟨q, hq, rfl⟩ := List.mem_map.mp hp
    exact ⟨act d q, mem_im.mpr ⟨q, hq, rfl⟩, (e q).symm⟩
  · rintro ⟨p, hp, rfl⟩
    obtain ⟨q, hq, rfl⟩ := mem_im.mp hp
    exact ⟨tr a b q, List.mem_map.mpr ⟨q, hq, rfl⟩, e q⟩
theorem act_id (p : Cell) : act idD p = p := by simp [act, idD, sgn]
theorem im_id {cs : List Cell} (h : Can cs) : im idD cs = cs := by
  unfold im
  rw [show (act idD) = id from funext act_id, List.map_id]
  exact sortC_self h.2
/-! home -/
def homeC (cs : List Cell) : List Cell := match leastI (cs.map fun c => c.1), leastI (cs.map fun c => c.2) with
  | some t, some l => cs.map (tr (-t) (-l))
  | _, _ => []
theorem least_is {ns : List Int} {m : Int} (h1 : m ∈ ns) (h2 : ∀ y ∈ ns, m ≤ y) : leastI ns = some m := by
  obtain ⟨k, hk⟩ := least_some (ns := ns) (by rintro rfl; cases h1)
  obtain ⟨k1, k2⟩ := leastI_spec hk
  rw [hk, Int.le_antisymm (k2 m h1) (h2 k k1)]
theorem least_plus {ns : List Int} {m : Int} (a : Int) (h : leastI ns = some m) : leastI (ns.map (· + a)) = some (m + a) := by
  obtain ⟨k1, k2⟩ := leastI_spec h
  refine least_is (List.mem_map.mpr ⟨m, k1, rfl⟩) fun y hy => ?_
  obtain ⟨z, hz, rfl⟩ := List.mem_map.mp hy
  have := k2 z hz
  show m + a ≤ z + a
  omega
theorem home_nil : homeC [] = [] := rfl
theorem home_is {cs : List Cell} (hn : cs ≠ []) : ∃ t l, leastI (cs.map fun c => c.1) = some t ∧ leastI (cs.map fun c => c.2) = some l ∧ homeC cs = cs.map (tr (-t) (-l)) := by
  obtain ⟨t, ht⟩ := least_some (ns := cs.map fun c => c.1) (by simpa using hn)
  obtain ⟨l, hl⟩ := least_some (ns := cs.map fun c => c.2) (by simpa using hn)
  exact ⟨t, l, ht, hl, by unfold homeC; rw [ht, hl]⟩
theorem can_home {cs : List Cell} (h : Can cs) : Can (homeC cs) := by
  by_cases hn : cs = []
  · subst hn; exact h
  · obtain ⟨t, l, _, _, e⟩ := home_is hn
    rw [e]; exact can_tr _ _ h
theorem home_tr (cs : List Cell) (a b : Int) : homeC (cs.map (tr a b)) = homeC cs := by
  by_cases hn : cs = []
  · subst hn; rfl
  · obtain ⟨t, l, h1, h2, e⟩ := home_is hn
    have k1 : leastI ((cs.map (tr a b)).map fun c => c.1) = some (t + a) := by
      have := least_plus a h1
      rw [List.map_map] at this ⊢
      exact this
    have k2 : leastI ((cs.map (tr a b)).map fun c => c.2) = some (l + b) := by
      have := least_plus b h2
      rw [List.map_map] at this ⊢
      exact this
    have e2 : homeC (cs.map (tr a b)) = (cs.map (tr a b)).map (tr (-(t + a)) (-(l + b))) := by unfold homeC; rw [k1, k2]
    rw [e, e2, List.map_map]
    refine List.map_congr_left fun c _ => ?_
    simp [tr]
    omega
theorem home_len (cs : List Cell) : (homeC cs).length ≤ cs.length := by
  by_cases hn : cs = []
  · subst hn; exact Nat.le_refl _
  · obtain ⟨t, l, _, _, e⟩ := home_is hn
    rw [e, List.length_map]; exact Nat.le_refl _
/-! the least form -/
def homes (cs : List Cell) : List (List Cell) := D8.map fun d => homeC (im d cs)
/-- the same homes for each image, moved anywhere -/
theorem homes_mem {cs : List Cell} (h : cs.Nodup) (k : Dc) (a b : Int) (x : List Cell) : x ∈ homes ((im k cs).map (tr a b)) ↔ x ∈ homes cs := by
  unfold homes
  rw [List.mem_map, List.mem_map]
  have key : ∀ d, homeC (im d ((im k cs).map (tr a b))) = homeC (im (mulD d k) cs) := fun d => by
    obtain ⟨a', b', e⟩ := im_tr (d := d) (can_im (d := k) h).1 a b
    rw [e, home_tr, im_im h]
  constructor
  · rintro ⟨d, _, rfl⟩
    exact ⟨mulD d k, mem_D8 _, (key d).symm⟩
  · rintro ⟨d, _, rfl⟩
    exact ⟨mulD d (invD k), mem_D8 _, by rw [key, mul_inv]⟩
def keyL (cs : List Cell) : PyData := encW (cellsL cs)
theorem keyL_is (cs : List Cell) : keyL cs = .list (cs.map fun c => .tuple [.int c.1, .int c.2]) := by
  unfold keyL encW
  show (toD (.lst (cs.map cW))).getD .none = _
  simp only [toD, toDs_cells]
  rfl
theorem toks_inj : ∀ {cs ds : List Cell}, PySem.W.keyToksAll (cs.map fun c => .tuple [.int c.1, .int c.2]) = PySem.W.keyToksAll (ds.map fun c => .tuple [.int c.1, .int c.2]) → cs = ds
  | [], [], _ => rfl
  | [], d :: ds, h => by simp [PySem.W.keyToksAll] at h
  | c :: cs, [], h => by simp [PySem.W.keyToksAll] at h
  | c :: cs, d :: ds, h => by
    simp only [List.map_cons, PySem.W.keyToksAll, PySem.W.keyToks, List.cons_append, List.nil_append, List.cons.injEq, Sum.inl.injEq, true_and] at h
    obtain ⟨h1, h2, h3⟩ := h
    rw [toks_inj h3, show c = d from Prod.ext h1 h2]
theorem keyL_total {cs ds : List Cell} (h1 : PySem.W.dataLt (keyL cs) (keyL ds) = false) (h2 : PySem.W.dataLt (keyL ds) (keyL cs) = false) : cs = ds := by
  rw [keyL_is, keyL_is, PySem.W.dataLt_list] at h1 h2
  exact toks_inj (PyProof.Rows.lex_total _ _ h1 h2)
theorem best_least {α : Type} (f : α → PyData) : ∀ (ts : List α) (t : α), ∀ y ∈ t :: ts, PySem.W.dataLt (f y) (f (bestF f t ts)) = false
  | [], t, y, hy => by
    have : y = t := by simpa using hy
    subst this
    exact PyProof.Rows.lex_irrefl _
  | z :: ts, t, y, hy => by
    have ih := best_least f ts (if PySem.W.dataLt (f z) (f t) then z else t)
    have e : bestF f t (z :: ts) = bestF f (if PySem.W.dataLt (f z) (f t) then z else t) ts := rfl
    rw [e]
    generalize bestF f (if PySem.W.dataLt (f z) (f t) then z else t) ts = m at ih
    by_cases q : PySem.W.dataLt (f z) (f t) = true
    · rw [if_pos q] at ih
      rcases List.mem_cons.mp hy with rfl | hy
      · cases q2 : PySem.W.dataLt (f y) (f m) with
        | false => rfl
        | true =>
          have := PyProof.Rows.lex_trans _ _ _ q q2
          exact absurd ((ih z List.mem_cons_self).symm.trans this) (by decide)
      · exact ih y hy
    · rw [if_neg q] at ih
      rcases List.mem_cons.mp hy with rfl | hy
      · exact ih y List.mem_cons_self
      · rcases List.mem_cons.mp hy with rfl | hy
        · cases q2 : PySem.W.dataLt (f y) (f m) with
          | false => rfl
          | true =>
            rcases PyProof.Rows.lex_negTrans _ (PySem.W.keyToks (f t)) _ q2 with h | h
            · exact absurd h q
            · exact absurd ((ih t List.mem_cons_self).symm.trans h) (by decide)
        · exact ih y (List.mem_cons_of_mem _ hy)
def leastF (cs : List Cell) : List Cell := match homes cs with
  | [] => []
  | x :: xs => bestF keyL x xs
theorem leastF_spec (cs : List Cell) : leastF cs ∈ homes cs ∧ ∀ y ∈ homes cs, PySem.W.dataLt (keyL y) (keyL (leastF cs)) = false := by
  unfold leastF
  have : homes cs ≠ [] := by unfold homes D8; simp
  cases q : homes cs with
  | nil => exact absurd q this
  | cons x xs => exact ⟨bestF_mem keyL xs x, best_least keyL xs x⟩
theorem leastF_same {cs ds : List Cell} (h : ∀ x, x ∈ homes ds ↔ x ∈ homes cs) : leastF ds = leastF cs := by
  obtain ⟨a1, a2⟩ := leastF_spec cs
  obtain ⟨b1, b2⟩ := leastF_spec ds
  exact keyL_total (a2 _ ((h _).mp b1)) (b2 _ ((h _).mpr a1))
theorem leastF_image {cs : List Cell} (h : cs.Nodup) (k : Dc) (a b : Int) : leastF ((im k cs).map (tr a b)) = leastF cs := leastF_same fun x => homes_mem h k a b x
theorem leastF_can {cs : List Cell} (h : cs.Nodup) : Can (leastF cs) := by
  obtain ⟨d, _, e⟩ := List.mem_map.mp (leastF_spec cs).1
  rw [← e]
  exact can_home (can_im h)
theorem minW_homes (cs : List Cell) : minW (.lst ((homes cs).map cellsL)) = some (cellsL (leastF cs)) := by
  have ok : ∀ (ds : List (List Cell)), toDs (ds.map cellsL) = some (ds.map keyL) := fun ds => by
    induction ds with
    | nil => rfl
    | cons d ds ih =>
      have t : toD (cellsL d) = some (keyL d) := by
        rw [keyL_is]
        show toD (.lst (d.map cW)) = _
        simp only [toD, toDs_cells]
      rw [List.map_cons, List.map_cons]
      simp only [toDs, t, ih]
  have al : ∀ cs ds : List Cell, PySem.W.alikeAll (cs.map fun c => PyData.tuple [.int c.1, .int c.2]) (ds.map fun c => .tuple [.int c.1, .int c.2]) = true := fun cs => by
    induction cs with
    | nil => intro ds; cases ds <;> simp [PySem.W.alikeAll]
    | cons c cs ih =>
      intro ds
      cases ds with
      | nil => simp [PySem.W.alikeAll]
      | cons d ds => simp [PySem.W.alikeAll, PySem.W.alike, ih]
  have dp : ∀ ds : List Cell, PyData.depthAll (ds.map fun c => PyData.tuple [.int c.1, .int c.2]) ≤ 2 := fun ds => by
    refine depth_le fun d hd => ?_
    obtain ⟨c, _, rfl⟩ := List.mem_map.mp hd
    simp [PyData.depth, PyData.depthAll]
  have so : sortOk ((homes cs).map keyL) = true := by
    unfold sortOk
    have e : (homes cs).map keyL = (homes cs).map fun d => PyData.list (d.map fun c => .tuple [.int c.1, .int c.2]) := List.map_congr_left fun d _ => keyL_is d
    rw [e]
    simp only [Bool.and_eq_true, Bool.or_eq_true, List.all_eq_true, decide_eq_true_eq]
    refine ⟨⟨fun d hd d' hd' => ?_, .inr fun d hd => ?_⟩, fun d hd => ?_⟩
    · obtain ⟨c, _, rfl⟩ := List.mem_map.mp hd
      obtain ⟨c', _, rfl⟩ := List.mem_map.mp hd'
      show PySem.W.alike (.list _) (.list _) = true
      unfold PySem.W.alike
      exact al c c'
    · obtain ⟨c, _, rfl⟩ := List.mem_map.mp hd
      rfl
    · obtain ⟨c, _, rfl⟩ := List.mem_map.mp hd
      have := dp c
      simp only [PyData.depth]
      omega
  unfold leastF
  cases q : homes cs with
  | nil => exact absurd q (by unfold homes D8; simp)
  | cons x xs =>
    have o := ok (x :: xs)
    rw [q] at so
    rw [List.map_cons] at o ⊢
    unfold minW
    simp only [o]
    rw [if_pos so, bestF_map cellsL encW]
    rfl

theorem moved_eqG (cs : List Cell) (a b : Int) (L : Lg) (h : cs.length < 1000) : d_moved [cellsL cs, .int a, .int b] L = some (cellsL (canon (cs.map (tr a b))), L) := by
  simp [ud_moved, ub_moved]
  rw [cells_map (f := tr a b)]
  · simp [-List.map_map, pattern_eqG _ L (show (cs.map (tr a b)).length < 1000 by simpa using h), show cs.length ≤ 16777216 by omega]
  · intro c _
    simp [tr, wipeR]
theorem home_eqG (hd : List Cell) (L : Lg) (h : hd.length < 1000) : d_home [cellsL hd] L = some (cellsL (homeC (canon hd)), L) := by
  by_cases hn : hd = []
  · subst hn
    have e0 : canon [] = [] := can_self (m := []) ⟨List.nodup_nil, List.Pairwise.nil⟩
    rw [e0]
    simp [ud_home, ub_home, home_nil]
  obtain ⟨c0, hc0⟩ := List.exists_mem_of_ne_nil _ hn
  obtain ⟨t, l, h1, h2, e⟩ := home_is (cs := canon hd) (by intro z; have := mem_canon.mpr hc0; rw [z] at this; cases this)
  have m1 : ∀ f : Cell → Int, leastI ((canon hd).map f) = leastI (hd.map f) := fun f => least_eq fun x => by
    rw [List.mem_map, List.mem_map]
    exact ⟨fun ⟨c, hc, z⟩ => ⟨c, mem_canon.mp hc, z⟩, fun ⟨c, hc, z⟩ => ⟨c, mem_canon.mpr hc, z⟩⟩
  rw [m1] at h1 h2
  have e2 : canon (hd.map (tr (-t) (-l))) = homeC (canon hd) := by
    rw [e]
    refine can_eq (can_tr _ _ (can_canon hd)) fun x => ?_
    rw [List.mem_map, List.mem_map]
    exact ⟨fun ⟨c, hc, z⟩ => ⟨c, mem_canon.mp hc, z⟩, fun ⟨c, hc, z⟩ => ⟨c, mem_canon.mpr hc, z⟩⟩
  have he : hd.isEmpty = false := by cases hd with
    | nil => exact absurd rfl hn
    | cons _ _ => rfl
  have mv := moved_eqG hd (-t) (-l) L h
  rw [e2] at mv
  simp [ud_home, ub_home, he]
  rw [cells_ints (f := fun c => c.1)]
  · simp [-List.map_map, minW1_ints h1, show hd.length ≤ 16777216 by omega]
    rw [cells_ints (f := fun c => c.2)]
    · simp [-List.map_map, minW1_ints h2, mv, show hd.length ≤ 16777216 by omega]
    · intro c _
      simp [wipeR]
  · intro c _
    simp [wipeR]

/-! runs of a row, as text -/
theorem sDot : Str.ofString "." = mk [46] := by decide +kernel
theorem sOo : Str.ofString "O" = mk [79] := by decide +kernel
theorem sSl : Str.ofString "/" = mk [47] := by decide +kernel
theorem sBang : Str.ofString "!" = mk [33] := by decide +kernel
theorem sEm : Str.ofString "" = mk [] := by decide +kernel

/-! the picture, in boxes -/
def sg2 (S : List Cell) (r c : Nat) : Nat := if ((r : Int), (c : Int)) ∈ S then 79 else 46
def rowN2 (S : List Cell) (w r : Nat) : List Nat := (List.range w).map fun c => sg2 S r c
def oneW (l : List Nat) : List W := (l.map fun c => mk [c]).map W.str
def pics (S : List Cell) (h w : Nat) : List (List Nat) := (List.range h).map (rowN2 S w)
def rowsB (S : List Cell) (h w : Nat) : Lg := (pics S h w).map fun l => Ob.box (.lst (oneW l))
def txsW (T : List (List Nat)) : List W := T.map fun row => W.str (mk row)
theorem rowN2_set (S : List Cell) (w i j : Nat) : (oneW (rowN2 S w i)).set j (.str (mk [79])) = oneW (rowN2 (S ++ [((i : Int), (j : Int))]) w i) := by
  apply List.ext_getElem?
  intro c
  unfold oneW rowN2
  rw [List.getElem?_set]
  simp only [List.getElem?_map, List.length_map, List.length_range, List.getElem?_range']
  by_cases q : j = c
  · subst q
    by_cases hj : j < w
    · simp [hj, sg2]
    · simp [hj]
  · simp only [q, if_false]
    by_cases hc : c < w
    · have qq : ¬ (c : Int) = (j : Int) := by omega
      simp [hc, sg2, qq]
    · simp [hc]
theorem rowN2_other (S : List Cell) (w i j r : Nat) (h : r ≠ i) : rowN2 (S ++ [((i : Int), (j : Int))]) w r = rowN2 S w r := by
  unfold rowN2
  refine List.map_congr_left fun c _ => ?_
  have qq : ¬ (r : Int) = (i : Int) := by omega
  simp [sg2, qq]
theorem rowsB_set (S : List Cell) (h w i j : Nat) (L0 : Lg) : (L0 ++ rowsB S h w).set (L0.length + i) (.box (.lst (oneW (rowN2 (S ++ [((i : Int), (j : Int))]) w i)))) = L0 ++ rowsB (S ++ [((i : Int), (j : Int))]) h w := by
  rw [List.set_append_right _ _ (by omega), show L0.length + i - L0.length = i by omega]
  congr 1
  apply List.ext_getElem?
  intro r
  unfold rowsB pics
  rw [List.getElem?_set]
  simp only [List.getElem?_map, List.length_map, List.length_range]
  by_cases q : i = r
  · subst q
    by_cases hr : i < h
    · simp [hr]
    · simp [hr]
  · simp only [q, if_false]
    by_cases hr : r < h
    · simp [hr, rowN2_other S w i j r (fun z => q z.symm)]
    · simp [hr]
theorem rowsB_get (S : List Cell) (h w i : Nat) (L0 : Lg) (hi : i < h) : (L0 ++ rowsB S h w)[L0.length + i]? = some (.box (.lst (oneW (rowN2 S w i)))) := by
  rw [List.getElem?_append_right (by omega), show L0.length + i - L0.length = i by omega]
  unfold rowsB pics
  simp [hi]
theorem rep_flat {α : Type} (x : α) : ∀ n : Nat, (List.replicate n [x]).flatten = List.replicate n x
  | 0 => rfl
  | n + 1 => by rw [List.replicate_succ, List.flatten_cons, rep_flat x n]; rfl
theorem row_nil (w r : Nat) : oneW (rowN2 [] w r) = List.replicate w (.str (mk [46])) := by
  unfold oneW rowN2
  rw [List.map_map, List.map_map]
  have : ∀ l : List Nat, l.map ((W.str ∘ fun c => mk [c]) ∘ fun c => sg2 [] r c) = List.replicate l.length (.str (mk [46])) := by
    intro l
    induction l with
    | nil => rfl
    | cons x l ih => rw [List.map_cons, ih]; simp [sg2, List.replicate_succ]
  rw [this, List.length_range]
theorem rows_nil (h w : Nat) : rowsB [] h w = List.replicate h (.box (.lst (List.replicate w (.str (mk [46]))))) := by
  unfold rowsB pics
  rw [List.map_map]
  have : ∀ l : List Nat, l.map ((fun l => Ob.box (.lst (oneW l))) ∘ rowN2 [] w) = List.replicate l.length (.box (.lst (List.replicate w (.str (mk [46]))))) := by
    intro l
    induction l with
    | nil => rfl
    | cons x l ih => rw [List.map_cons, ih]; simp [row_nil, List.replicate_succ]
  rw [this, List.length_range]
def obsN (n k : Nat) : List W := (List.range k).map fun (i : Nat) => W.ob (n + i)
theorem obs_cons (n k : Nat) : obsN n (k + 1) = W.ob n :: obsN (n + 1) k := by
  unfold obsN
  rw [List.range_succ_eq_map, List.map_cons, List.map_map]
  congr 1
  refine List.map_congr_left fun i _ => ?_
  show W.ob (n + (i + 1)) = W.ob (n + 1 + i)
  congr 1
  omega
theorem rows_lc {ρ : Ro} {w : Int} (h6 : 6 < ρ.length) (h2 : ρ[2]? = some (.va (.int w))) (w0 : 0 ≤ w) (w1 : w < 1000) : ∀ (xs : List W) (L : Lg),
    lcLoop (gN 6) cYes (cBox (nRep (cLst (cCons (cK (.str ".")) cNil)) (cVar 2))) ρ xs L = some (obsN L.length xs.length, L ++ List.replicate xs.length (.box (.lst (List.replicate w.toNat (.str (mk [46]))))))
  | [], L => by simp [lcLoop, obsN]
  | x :: xs, L => by
    have e2 : (ρ.set 6 (.va x))[2]? = some (.va (.int w)) := by rw [List.getElem?_set_ne (by decide)]; exact h2
    have ih := rows_lc h6 h2 w0 w1 xs (L ++ [.box (.lst (List.replicate w.toNat (.str (mk [46]))))])
    have g1 : gN 6 x ρ = some (ρ.set 6 (.va x)) := by simp [h6]
    have t1 : cBox (nRep (cLst (cCons (cK (.str ".")) cNil)) (cVar 2)) (ρ.set 6 (.va x)) L = some (.ob L.length, L ++ [.box (.lst (List.replicate w.toNat (.str (mk [46]))))]) := by
      simp [e2, sDot, show w < 1000000 by omega, show -1000000 < w by omega, rep_flat]
    simp only [lcLoop, g1, cYes, t1, ih]
    rw [List.length_cons, obs_cons, List.length_append, List.length_singleton, List.append_assoc, List.replicate_succ]
    rfl
theorem mark_loop (h w : Nat) (L0 : Lg) (x0 x1 x2 x6 : Sl) : ∀ (cs S : List Cell) (x4 x5 : Sl), (∀ c ∈ cs, 0 ≤ c.1 ∧ c.1 < h ∧ 0 ≤ c.2 ∧ c.2 < w) →
    ∃ x4' x5' : Sl, forLoop (gTupW 2 (gsC (gN 4) (gsC (gN 5) gsN))) for_picture_rows1 (cs.map cW) [x0, x1, x2, .va (.lst (obsN L0.length h)), x4, x5, x6] (L0 ++ rowsB S h w) = some (.nx [x0, x1, x2, .va (.lst (obsN L0.length h)), x4', x5', x6] (L0 ++ rowsB (S ++ cs) h w))
  | [], S, x4, x5, _ => ⟨x4, x5, by simp [for_nil]⟩
  | c :: cs, S, x4, x5, hb => by
    obtain ⟨a, b⟩ := c
    obtain ⟨b1, b2, b3, b4⟩ := hb (a, b) List.mem_cons_self
    obtain ⟨i, hi⟩ := Int.eq_ofNat_of_zero_le b1
    obtain ⟨j, hj⟩ := Int.eq_ofNat_of_zero_le b3
    simp only at hi hj
    subst hi
    subst hj
    simp only at b2 b4
    obtain ⟨x4', x5', ih⟩ := mark_loop h w L0 x0 x1 x2 x6 cs (S ++ [((i : Int), (j : Int))]) (.va (.int i)) (.va (.int j)) (fun c hc => hb c (List.mem_cons_of_mem _ hc))
    refine ⟨x4', x5', ?_⟩
    have ob : atI (obsN L0.length h) (i : Nat) = some (.ob (L0.length + i)) := atI_nat (by unfold obsN; simp [show i < h by omega])
    have gt := rowsB_get S h w i L0 (by omega)
    have st := rowsB_set S h w i j L0
    have rs := rowN2_set S w i j
    have ln : (oneW (rowN2 S w i)).length = w := by simp [oneW, rowN2]
    rw [List.map_cons, for_nx (ρ1 := [x0, x1, x2, .va (.lst (obsN L0.length h)), .va (.int i), .va (.int j), x6]) (ρ2 := [x0, x1, x2, .va (.lst (obsN L0.length h)), .va (.int i), .va (.int j), x6]) (L2 := L0 ++ rowsB (S ++ [((i : Int), (j : Int))]) h w) (by simp) ?_]
    · rw [ih]; simp
    · rw [ufor_picture_rows1]
      generalize rowsB S h w = R at *
      generalize rowsB (S ++ [((i : Int), (j : Int))]) h w = R2 at *
      generalize oneW (rowN2 S w i) = O at *
      generalize obsN L0.length h = OB at *
      rw [← rs] at st
      simp [ob, gt, sOo, show (j : Int) < O.length by omega, st]
theorem strs_one (l : List Nat) : strsW (oneW l) = some (l.map fun c => mk [c]) := strsW_map _
theorem row_join (l : List Nat) (L : Lg) (ρ : Ro) (i : Nat) (j : Nat) (hi : ρ[i]? = some (.va (.ob j))) (hL : L[j]? = some (.box (.lst (oneW l)))) (hl : l.length ≤ 100000) :
    cJoin (cK (.str "")) (cNm i) ρ L = some (.str (mk l), L) := by
  simp [hi, hL, sEm, strs_one, join_mk, -List.map_map]
  rw [sum_ones]
  omega
theorem lc_idx {α β : Type} (f : α → W) (h : β → W) {g : GF} {te : EF} {ρ : Ro} {L : Lg} : ∀ {xs : List α} {ys : List β}, xs.length = ys.length → (∀ (k : Nat) (x : α) (y : β), xs[k]? = some x → ys[k]? = some y → ∃ ρ1, g (f x) ρ = some ρ1 ∧ te ρ1 L = some (h y, L)) → lcLoop g cYes te ρ (xs.map f) L = some (ys.map h, L)
  | [], [], _, _ => rfl
  | x :: xs, y :: ys, hl, H => by
    obtain ⟨ρ1, h1, h2⟩ := H 0 x y rfl rfl
    rw [List.map_cons]
    simp only [lcLoop, h1, cYes, h2, lc_idx f h (xs := xs) (ys := ys) (by simpa using hl) fun k x y hx hy => H (k + 1) x y (by simpa using hx) (by simpa using hy), List.map_cons]
  | [], _ :: _, hl, _ => by simp at hl
  | _ :: _, [], hl, _ => by simp at hl
theorem obsN_len (n k : Nat) : (obsN n k).length = k := by simp [obsN]
theorem txsW_len (T : List (List Nat)) : (txsW T).length = T.length := by simp [txsW]
theorem picture_lc (cs : List Cell) (h w : Nat) (L : Lg) (hw : w < 1000) (a0 a1 a2 a3 x4 a5 a6 : Sl) : 
    lcLoop (gN 4) cYes (cJoin (cK (.str "")) (cNm 4)) [a0, a1, a2, a3, x4, a5, a6] (obsN L.length h) (L ++ rowsB cs h w) = some (txsW (pics cs h w), L ++ rowsB cs h w) := by
  unfold obsN txsW
  refine lc_idx (fun (i : Nat) => W.ob (L.length + i)) (fun row => W.str (mk row)) (by simp [pics]) fun k x y hx hy => ?_
  have hk : k < h := by
    have := (List.getElem?_eq_some_iff.mp hx).1
    simpa using this
  have ex : x = k := by
    rw [List.getElem?_range hk] at hx
    exact (Option.some.inj hx).symm
  subst ex
  have ey : y = rowN2 cs w x := by
    unfold pics at hy
    rw [List.getElem?_map, List.getElem?_range hk] at hy
    exact (Option.some.inj hy).symm
  subst ey
  exact ⟨_, rfl, row_join (rowN2 cs w x) _ _ 4 (L.length + x) rfl (rowsB_get cs h w x L hk) (by simp [rowN2]; omega)⟩
theorem picture_rows_run (cs : List Cell) (hI wI : Int) (OB TT : List W) (L L1 L2 : Lg) (x4 x5 : Sl) (h1 : -1000000 ≤ hI) (h2 : hI ≤ 1000000) (ol : OB.length ≤ 16777216) (tl : TT.length ≤ 16777216)
    (r1 : lcLoop (gN 6) cYes (cBox (nRep (cLst (cCons (cK (.str ".")) cNil)) (cVar 2))) [.va (cellsL cs), .va (.int hI), .va (.int wI), .un, .un, .un, .un] (rangeW 0 hI.toNat) L = some (OB, L1))
    (ml : forLoop (gTupW 2 (gsC (gN 4) (gsC (gN 5) gsN))) for_picture_rows1 (cs.map cW) [.va (cellsL cs), .va (.int hI), .va (.int wI), .va (.lst OB), .un, .un, .un] L1 = some (.nx [.va (cellsL cs), .va (.int hI), .va (.int wI), .va (.lst OB), x4, x5, .un] L2))
    (lc : ∀ (a0 a1 a2 a3 x4 a5 a6 : Sl), lcLoop (gN 4) cYes (cJoin (cK (.str "")) (cNm 4)) [a0, a1, a2, a3, x4, a5, a6] OB L2 = some (TT, L2)) :
    d_picture_rows [cellsL cs, .int hI, .int wI] L = some (.lst TT, L2) := by
  have e : b_picture_rows [.va (cellsL cs), .va (.int hI), .va (.int wI), .un, .un, .un, .un] L = some (.rt (.lst TT) L2) := by
    rw [ub_picture_rows]
    rw [seq_nx (ρ1 := [.va (cellsL cs), .va (.int hI), .va (.int wI), .va (.lst OB), .un, .un, .un]) (L1 := L1) (by
      simp [wipeR, -List.map_map, h1, h2, r1, ol])]
    rw [seq_nx (ρ1 := [.va (cellsL cs), .va (.int hI), .va (.int wI), .va (.lst OB), x4, x5, .un]) (L1 := L2) (by
      simp only [cFor, e_sLst, e_cVar, List.getElem?_cons_zero]
      exact ml)]
    have lc' := lc (.va (cellsL cs)) (.va (.int hI)) (.va (.int wI)) (.va (.lst OB)) .un x5 .un
    simp [wipeR, lc', tl]
  rw [ud_picture_rows, e_runDef]
  have e' : b_picture_rows (([cellsL cs, .int hI, .int wI] : List W).map Sl.va ++ List.replicate (7 - 3) .un) L = _ := e
  simp only [List.length_cons, List.length_nil]
  rw [e']
theorem picture_rows_eq (cs : List Cell) (h w : Nat) (hI wI : Int) (eh : hI = (h : Int)) (ew : wI = (w : Int)) (L : Lg) (hh : h < 1000) (hw : w < 1000) (hb : ∀ c ∈ cs, 0 ≤ c.1 ∧ c.1 < h ∧ 0 ≤ c.2 ∧ c.2 < w) :
    d_picture_rows [cellsL cs, .int hI, .int wI] L = some (.lst (txsW (pics cs h w)), L ++ rowsB cs h w) := by
  obtain ⟨x4', x5', ml⟩ := mark_loop h w L (.va (cellsL cs)) (.va (.int hI)) (.va (.int wI)) .un cs [] .un .un hb
  rw [List.nil_append] at ml
  have th : hI.toNat = h := by omega
  have tw_ : wI.toNat = w := by omega
  have rl : (rangeW 0 hI.toNat).length = h := by rw [th]; simp [rangeW]
  have r1 := rows_lc (ρ := [.va (cellsL cs), .va (.int hI), .va (.int wI), .un, .un, .un, .un]) (w := wI) (by simp) rfl (by omega) (by omega) (rangeW 0 hI.toNat) L
  rw [rl, tw_, ← rows_nil] at r1
  exact picture_rows_run cs hI wI (obsN L.length h) (txsW (pics cs h w)) L _ _ x4' x5' (by omega) (by omega) (by rw [obsN_len]; omega) (by rw [txsW_len]; simp [pics]; omega) r1 ml fun a0 a1 a2 a3 x4 a5 a6 => picture_lc cs h w L hw a0 a1 a2 a3 x4 a5 a6

/-! the picture of a pattern -/
def dimOf (ns : List Int) : Nat := (1 + (mostI ns).getD 0).toNat
def PIC (H : List Cell) : List (List Nat) := if H = [] then [] else pics H (dimOf (H.map fun c => c.1)) (dimOf (H.map fun c => c.2))
theorem most_some2 {ns : List Int} (h : ns ≠ []) : ∃ m, mostI ns = some m := by
  cases ns with
  | nil => exact absurd rfl h
  | cons a r => exact ⟨_, rfl⟩
theorem dim_spec {ns : List Int} (h : ns ≠ []) (h0 : ∀ x ∈ ns, 0 ≤ x) : ∃ m : Int, mostI ns = some m ∧ 0 ≤ m ∧ ((dimOf ns : Nat) : Int) = 1 + m ∧ m ∈ ns ∧ ∀ x ∈ ns, x < ((dimOf ns : Nat) : Int) := by
  obtain ⟨m, hm⟩ := most_some2 h
  obtain ⟨k1, k2⟩ := mostI_spec hm
  have m0 := h0 m k1
  have e : ((dimOf ns : Nat) : Int) = 1 + m := by unfold dimOf; rw [hm]; simp; omega
  exact ⟨m, hm, m0, e, k1, fun x hx => by have := k2 x hx; omega⟩
theorem home_pos {cs : List Cell} : ∀ c ∈ homeC cs, 0 ≤ c.1 ∧ 0 ≤ c.2 := by
  intro c hc
  by_cases hn : cs = []
  · subst hn; cases hc
  · obtain ⟨t, l, h1, h2, e⟩ := home_is hn
    rw [e] at hc
    obtain ⟨p, hp, rfl⟩ := List.mem_map.mp hc
    have k1 := (leastI_spec h1).2 p.1 (List.mem_map.mpr ⟨p, hp, rfl⟩)
    have k2 := (leastI_spec h2).2 p.2 (List.mem_map.mpr ⟨p, hp, rfl⟩)
    simp only [tr]
    omega
theorem maxW1_ints {ns : List Int} {m : Int} (h : mostI ns = some m) : maxW1 (.lst (ns.map W.int)) = some (.int m) := by unfold maxW1; simp only [intsW_map, h]
theorem picture_eq (hd : List Cell) (L : Lg) (h : hd.length < 1000) (hb : ∀ c ∈ homeC (canon hd), c.1 < 900 ∧ c.2 < 900) (he : ∀ L, d_home [cellsL hd] L = some (cellsL (homeC (canon hd)), L)) :
    ∃ X, d_picture [cellsL hd] L = some (.lst (txsW (PIC (homeC (canon hd)))), L ++ X) := by
  have hp := home_pos (cs := canon hd)
  have hlen : (homeC (canon hd)).length < 1000 := Nat.lt_of_le_of_lt (Nat.le_trans (home_len _) (length_canon hd)) h
  have he := he L
  generalize homeC (canon hd) = H at *
  by_cases hn : H = []
  · subst hn
    refine ⟨[], ?_⟩
    simp [ud_picture, ub_picture, he, PIC, txsW]
  obtain ⟨m1, a1, a2, a3, a4, a5⟩ := dim_spec (ns := H.map fun c => c.1) (by simpa using hn) (by intro x hx; obtain ⟨c, hc, rfl⟩ := List.mem_map.mp hx; exact (hp c hc).1)
  obtain ⟨m2, b1, b2, b3, b4, b5⟩ := dim_spec (ns := H.map fun c => c.2) (by simpa using hn) (by intro x hx; obtain ⟨c, hc, rfl⟩ := List.mem_map.mp hx; exact (hp c hc).2)
  have l1 : m1 < 900 := by obtain ⟨c, hc, rfl⟩ := List.mem_map.mp a4; exact (hb c hc).1
  have l2 : m2 < 900 := by obtain ⟨c, hc, rfl⟩ := List.mem_map.mp b4; exact (hb c hc).2
  have pr := picture_rows_eq H (dimOf (H.map fun c => c.1)) (dimOf (H.map fun c => c.2)) (1 + m1) (1 + m2) a3.symm b3.symm L (by omega) (by omega) (fun c hc => ⟨(hp c hc).1, a5 _ (List.mem_map.mpr ⟨c, hc, rfl⟩), (hp c hc).2, b5 _ (List.mem_map.mpr ⟨c, hc, rfl⟩)⟩)
  refine ⟨rowsB H (dimOf (H.map fun c => c.1)) (dimOf (H.map fun c => c.2)), ?_⟩
  have pe : PIC H = pics H (dimOf (H.map fun c => c.1)) (dimOf (H.map fun c => c.2)) := if_neg hn
  rw [← pe] at pr
  have hne : H.isEmpty = false := by cases H with
    | nil => exact absurd rfl hn
    | cons _ _ => rfl
  generalize PIC H = PH at *
  generalize rowsB H (dimOf (H.map fun c => c.1)) (dimOf (H.map fun c => c.2)) = R at *
  simp [ud_picture, ub_picture, he, hne]
  rw [cells_ints (f := fun c => c.1)]
  · simp [-List.map_map, maxW1_ints a1, show H.length ≤ 16777216 by omega]
    rw [cells_ints (f := fun c => c.2)]
    · simp [-List.map_map, maxW1_ints b1, pr, show H.length ≤ 16777216 by omega]
    · intro c _
      simp [wipeR]
  · intro c _
    simp [wipeR]
theorem pics_len (S : List Cell) (h w : Nat) : (pics S h w).length = h ∧ ∀ r ∈ pics S h w, r.length = w := by
  unfold pics
  refine ⟨by simp, fun r hr => ?_⟩
  obtain ⟨i, _, rfl⟩ := List.mem_map.mp hr
  simp [rowN2]
theorem rowN2_sign (S : List Cell) (w r : Nat) : ∀ x ∈ rowN2 S w r, x = 46 ∨ x = 79 := by
  intro x hx
  obtain ⟨c, _, rfl⟩ := List.mem_map.mp hx
  unfold sg2
  split <;> simp
theorem PIC_sign (H : List Cell) : ∀ r ∈ PIC H, ∀ x ∈ r, x = 46 ∨ x = 79 := by
  unfold PIC
  split
  · simp
  · intro r hr
    obtain ⟨i, _, rfl⟩ := List.mem_map.mp hr
    exact rowN2_sign _ _ _

/-! k05: check_string -/
theorem lenW_mk {l : List Nat} (hl : l.length ≤ 16777216) : lenW (.str (mk l)) = some (.int l.length) := by
  show (if (mk l).length ≤ 16777216 then some (W.int (mk l).length) else none) = _
  rw [mk_len, if_pos hl]
def prs : Nat → List Nat → List W
  | _, [] => []
  | k, x :: l => .tup [.int (k : Nat), .str (mk [x])] :: prs (k + 1) l
theorem prs_eq : ∀ (l : List Nat) (k : Nat), prs k l = (l.map fun c => W.str (mk [c])).mapIdx fun i x => W.tup [.int ((k + i : Nat) : Int), x]
  | [], _ => rfl
  | x :: l, k => by
    rw [prs, List.map_cons, List.mapIdx_cons, prs_eq l (k + 1)]
    congr 1
    congr 1
    funext i x
    rw [show k + 1 + i = k + (i + 1) by omega]
theorem prs_signs (l : List Nat) : pairsW (signsW (mk l)) = prs 0 l := by
  have e : signsW (mk l) = l.map fun c => W.str (mk [c]) := by
    unfold signsW mk
    simp
  rw [e, prs_eq]
  unfold pairsW
  congr 1
  funext i x
  rw [Nat.zero_add]
def fb : Nat → List Nat → Option Nat
  | _, [] => none
  | k, x :: l => if x ≠ 46 ∧ x ≠ 79 then some k else fb (k + 1) l
theorem fb_lt : ∀ (l : List Nat) (k c : Nat), fb k l = some c → k ≤ c ∧ c < k + l.length
  | [], _, _, h => by cases h
  | x :: l, k, c, h => by
    rw [fb] at h
    split at h
    · cases h; simp
    · have := fb_lt l (k + 1) c h
      rw [List.length_cons]; omega
theorem chk1_bad (x0 x2 : Sl) (r k x : Nat) (hr : r < 300) (hk : k < 300) (hx : x ≠ 46 ∧ x ≠ 79) (L : Lg) : for_check_string1 [x0, .va (.int (r : Nat)), x2, .va (.int (k : Nat)), .va (.str (mk [x]))] L = some (.ex [("column", (k : Int)), ("row", (r : Int))] L) := by
  have n1 : ¬ mk [x] = mk [46] := fun e => hx.1 (by have := congrArg (fun s : Str => s.cps.toList) e; simpa [mk] using this)
  have n2 : ¬ mk [x] = mk [79] := fun e => hx.2 (by have := congrArg (fun s : Str => s.cps.toList) e; simpa [mk] using this)
  have b : ((0 : Int) ≤ (r : Int) ∧ (r : Int) < 300) ∧ (0 : Int) ≤ (k : Int) ∧ (k : Int) < 300 := by omega
  rw [ufor_check_string1]
  simp [sDot, sOo, n1, n2, b]
theorem chk1_ok (x0 x1 x2 x3 : Sl) (x : Nat) (hx : ¬ (x ≠ 46 ∧ x ≠ 79)) (L : Lg) : for_check_string1 [x0, x1, x2, x3, .va (.str (mk [x]))] L = some (.ok (.nx [x0, x1, x2, x3, .va (.str (mk [x]))] L)) := by
  have h : x = 46 ∨ x = 79 := by omega
  have e1 : ¬ mk [46] = mk [79] := by decide +kernel
  have e2 : ¬ mk [79] = mk [46] := by decide +kernel
  rw [ufor_check_string1]
  rcases h with rfl | rfl
  · simp [sDot, sOo, e1]
  · simp [sDot, sOo, e2]
theorem chk_loop (x0 x2 : Sl) (r : Nat) (hr : r < 300) (L : Lg) : ∀ (l : List Nat) (k : Nat) (z3 z4 : Sl), k + l.length < 300 →
    ∃ z3' z4', forLoopP (gTupW 2 (gsC (gN 3) (gsC (gN 4) gsN))) for_check_string1 (prs k l) [x0, .va (.int (r : Nat)), x2, z3, z4] L = some (match fb k l with
      | some c => .ex [("column", (c : Int)), ("row", (r : Int))] L
      | none => .ok (.nx [x0, .va (.int (r : Nat)), x2, z3', z4'] L))
  | [], k, z3, z4, _ => ⟨z3, z4, rfl⟩
  | x :: l, k, z3, z4, h => by
    rw [List.length_cons] at h
    by_cases hx : x ≠ 46 ∧ x ≠ 79
    · refine ⟨z3, z4, ?_⟩
      rw [prs, forP_ex (ρ1 := [x0, .va (.int (r : Nat)), x2, .va (.int (k : Nat)), .va (.str (mk [x]))]) (by simp) (chk1_bad x0 x2 r k x hr (by omega) hx L), fb, if_pos hx]
    · obtain ⟨z3', z4', ih⟩ := chk_loop x0 x2 r hr L l (k + 1) (.va (.int (k : Nat))) (.va (.str (mk [x]))) (by omega)
      refine ⟨z3', z4', ?_⟩
      rw [prs, forP_nx (ρ1 := [x0, .va (.int (r : Nat)), x2, .va (.int (k : Nat)), .va (.str (mk [x]))]) (by simp) (chk1_ok x0 _ x2 _ x hx L), fb, if_neg hx, ih]
def chkF (w0 : Nat) (l : List Nat) : Option Nat := match fb 0 l with
  | some k => some k
  | none => if l.length ≠ w0 then some (min l.length w0) else none
theorem check_eq (rows : List (List Nat)) (r : Nat) (row r0 : List Nat) (hr : rows[r]? = some row) (h0 : rows[0]? = some r0) (hr3 : r < 300) (hl : row.length < 300) (hl0 : r0.length < 300) (L : Lg) :
    d_check_string [.lst (txsW rows), .int (r : Nat)] L = some (match chkF r0.length row with
      | some c => .error [("column", (c : Int)), ("row", (r : Int))]
      | none => .ok .non, L) := by
  have a1 : atI (txsW rows) (r : Int) = some (.str (mk row)) := atI_nat (by unfold txsW; rw [List.getElem?_map, hr]; rfl)
  have a0 : atI (txsW rows) 0 = some (.str (mk r0)) := atI_nat (j := 0) (by unfold txsW; rw [List.getElem?_map, h0]; rfl)
  have l1 := lenW_mk (l := row) (by omega)
  have l0 := lenW_mk (l := r0) (by omega)
  obtain ⟨z3, z4, lp⟩ := chk_loop (.va (.lst (txsW rows))) (.va (.str (mk row))) r hr3 L row 0 .un .un (by omega)
  rw [← prs_signs] at lp
  have key : b_check_string [.va (.lst (txsW rows)), .va (.int (r : Nat)), .un, .un, .un] L = some (match chkF r0.length row with
      | some c => .ex [("column", (c : Int)), ("row", (r : Int))] L
      | none => .ok (.nx [.va (.lst (txsW rows)), .va (.int (r : Nat)), .va (.str (mk row)), z3, z4] L)) := by
    rw [ub_check_string]
    generalize hT : txsW rows = T at *
    rw [pseq_nx (ρ1 := [.va (.lst T), .va (.int (r : Nat)), .va (.str (mk row)), .un, .un]) (L1 := L) (by simp [a1])]
    unfold chkF
    have fl := fb_lt row 0
    cases hf : fb 0 row with
    | some c =>
      rw [hf] at lp
      simp only at lp
      exact pseq_ex (by simp [lp])
    | none =>
      rw [hf] at lp
      simp only at lp
      rw [pseq_nx (ρ1 := [.va (.lst T), .va (.int (r : Nat)), .va (.str (mk row)), z3, z4]) (L1 := L) (by simp [lp])]
      by_cases e : row.length = r0.length
      · simp [l1, l0, a0, e]
      · have e2 : ¬ ((row.length : Int) = (r0.length : Int)) := by omega
        have mn : (if (r0.length : Int) < (row.length : Int) then (r0.length : Int) else (row.length : Int)) = ((min row.length r0.length : Nat) : Int) := by split <;> omega
        have b : ((0 : Int) ≤ (r : Int) ∧ (r : Int) < 300) ∧ (0 : Int) ≤ ((min row.length r0.length : Nat) : Int) ∧ ((min row.length r0.length : Nat) : Int) < 300 := by omega
        simp [l1, l0, a0, e, e2, minW2, mn, b]
        split <;> omega
  rw [ud_check_string, e_runDefP]
  have st' : b_check_string (([.lst (txsW rows), .int (r : Nat)] : List W).map Sl.va ++ List.replicate (5 - 2) .un) L = _ := key
  simp only [List.length_cons, List.length_nil]
  rw [st']
  cases chkF r0.length row <;> rfl

/-! k05: read_picture -/
def mks (r : Nat) : Nat → List Nat → List Cell
  | _, [] => []
  | k, x :: l => if x = 79 then ((r : Int), (k : Int)) :: mks r (k + 1) l else mks r (k + 1) l
theorem mks_len (r : Nat) : ∀ (l : List Nat) (k : Nat), (mks r k l).length ≤ l.length
  | [], _ => Nat.le_refl _
  | x :: l, k => by
    rw [mks]
    have := mks_len r l (k + 1)
    split
    · simp only [List.length_cons]; omega
    · simp only [List.length_cons]; omega
theorem rp1_O (x0 x3 : Sl) (r k : Nat) (acc : List Cell) (ha : acc.length < 16777216) (L : Lg) : for_read_picture1 [x0, .ow (.lst (acc.map cW)), .va (.int (r : Nat)), x3, .va (.int (k : Nat)), .va (.str (mk [79]))] L = some (.ok (.nx [x0, .ow (.lst ((acc ++ [((r : Int), (k : Int))]).map cW)), .va (.int (r : Nat)), x3, .va (.int (k : Nat)), .va (.str (mk [79]))] L)) := by
  rw [ufor_read_picture1]
  simp [sOo, ha, cW]
theorem rp1_no (x0 x1 x2 x3 x4 : Sl) (x : Nat) (hx : x ≠ 79) (L : Lg) : for_read_picture1 [x0, x1, x2, x3, x4, .va (.str (mk [x]))] L = some (.ok (.nx [x0, x1, x2, x3, x4, .va (.str (mk [x]))] L)) := by
  rw [ufor_read_picture1]
  simp [sOo, hx]
theorem rp_in (x0 x3 : Sl) (r : Nat) (L : Lg) : ∀ (l : List Nat) (k : Nat) (acc : List Cell) (z4 z5 : Sl), acc.length + l.length ≤ 100000 →
    ∃ z4' z5', forLoopP (gTupW 2 (gsC (gN 4) (gsC (gN 5) gsN))) for_read_picture1 (prs k l) [x0, .ow (.lst (acc.map cW)), .va (.int (r : Nat)), x3, z4, z5] L = some (.ok (.nx [x0, .ow (.lst ((acc ++ mks r k l).map cW)), .va (.int (r : Nat)), x3, z4', z5'] L))
  | [], k, acc, z4, z5, _ => ⟨z4, z5, by rw [mks, List.append_nil]; rfl⟩
  | x :: l, k, acc, z4, z5, h => by
    rw [List.length_cons] at h
    by_cases hx : x = 79
    · subst hx
      obtain ⟨z4', z5', ih⟩ := rp_in x0 x3 r L l (k + 1) (acc ++ [((r : Int), (k : Int))]) (.va (.int (k : Nat))) (.va (.str (mk [79]))) (by simp; omega)
      refine ⟨z4', z5', ?_⟩
      rw [prs, forP_nx (by simp) (rp1_O x0 x3 r k acc (by omega) L), ih, mks, if_pos rfl, List.append_assoc]
      rfl
    · obtain ⟨z4', z5', ih⟩ := rp_in x0 x3 r L l (k + 1) acc (.va (.int (k : Nat))) (.va (.str (mk [x]))) (by omega)
      refine ⟨z4', z5', ?_⟩
      rw [prs, forP_nx (ρ1 := [x0, .ow (.lst (acc.map cW)), .va (.int (r : Nat)), x3, .va (.int (k : Nat)), .va (.str (mk [x]))]) (by simp) (rp1_no x0 _ _ x3 _ x hx L), ih, mks, if_neg hx]
def readF (w0 : Nat) : Nat → List (List Nat) → List Cell → Except (Nat × Nat) (List Cell)
  | _, [], acc => .ok acc
  | r, row :: rows, acc => match chkF w0 row with
    | some c => .error (r, c)
    | none => readF w0 (r + 1) rows (acc ++ mks r 0 row)
def prw : Nat → List (List Nat) → List W
  | _, [] => []
  | k, x :: l => .tup [.int (k : Nat), .str (mk x)] :: prw (k + 1) l
theorem prw_eq : ∀ (l : List (List Nat)) (k : Nat), prw k l = (txsW l).mapIdx fun i x => W.tup [.int ((k + i : Nat) : Int), x]
  | [], _ => rfl
  | x :: l, k => by
    show _ = (W.str (mk x) :: txsW l).mapIdx _
    rw [prw, List.mapIdx_cons, prw_eq l (k + 1)]
    congr 1
    congr 1
    funext i x
    rw [show k + 1 + i = k + (i + 1) by omega]
theorem prw_pairs (l : List (List Nat)) : pairsW (txsW l) = prw 0 l := by
  rw [prw_eq]
  unfold pairsW
  congr 1
  funext i x
  rw [Nat.zero_add]
theorem drop_at {α : Type} {R : List α} {r : Nat} {x : α} {rest : List α} (h : R.drop r = x :: rest) : R[r]? = some x ∧ R.drop (r + 1) = rest := by
  constructor
  · have := congrArg (fun l => l[0]?) h
    simpa using this
  · have := congrArg List.tail h
    simpa using this
theorem rp_out (R : List (List Nat)) (w0 : Nat) (hw : ∀ r0, R[0]? = some r0 → r0.length = w0) (hR : R.length < 300) (hl : ∀ x ∈ R, x.length < 100) (L : Lg) : ∀ (rest : List (List Nat)) (r : Nat) (acc : List Cell) (z2 z3 z4 z5 : Sl), R.drop r = rest → acc.length + 100 * rest.length ≤ 30000 →
    ∃ z2' z3' z4' z5', forLoopP (gTupW 2 (gsC (gN 2) (gsC (gN 3) gsN))) for_read_picture2 (prw r rest) [.va (.lst (txsW R)), .ow (.lst (acc.map cW)), z2, z3, z4, z5] L = some (match readF w0 r rest acc with
      | .ok cs => .ok (.nx [.va (.lst (txsW R)), .ow (.lst (cs.map cW)), z2', z3', z4', z5'] L)
      | .error e => .ex [("column", (e.2 : Int)), ("row", (e.1 : Int))] L)
  | [], r, acc, z2, z3, z4, z5, _, _ => ⟨z2, z3, z4, z5, rfl⟩
  | row :: rest, r, acc, z2, z3, z4, z5, hd, ha => by
    rw [List.length_cons] at ha
    obtain ⟨hr, hd2⟩ := drop_at hd
    have hrl := (List.getElem?_eq_some_iff.mp hr).1
    obtain ⟨r0, h0⟩ : ∃ r0, R[0]? = some r0 := ⟨_, List.getElem?_eq_getElem (by omega)⟩
    have lr := hl row (List.mem_of_getElem? hr)
    have l0 := hl r0 (List.mem_of_getElem? h0)
    have ck := check_eq R r row r0 hr h0 (by omega) (by omega) (by omega) L
    rw [hw r0 h0] at ck
    have ml := mks_len r row 0
    cases hc : chkF w0 row with
    | some c =>
      rw [hc] at ck
      simp only at ck
      refine ⟨z2, z3, z4, z5, ?_⟩
      have wk : for_read_picture2 [.va (.lst (txsW R)), .ow (.lst (acc.map cW)), .va (.int (r : Nat)), .va (.str (mk row)), z4, z5] L = some (.ex [("column", (c : Int)), ("row", (r : Int))] L) := by
        rw [ufor_read_picture2]
        generalize txsW R = T at *
        exact pseq_ex (by simp [ck])
      rw [prw, forP_ex (ρ1 := [.va (.lst (txsW R)), .ow (.lst (acc.map cW)), .va (.int (r : Nat)), .va (.str (mk row)), z4, z5]) (by simp) wk, readF, hc]
    | none =>
      rw [hc] at ck
      simp only at ck
      obtain ⟨y4, y5, lp⟩ := rp_in (.va (.lst (txsW R))) (.va (.str (mk row))) r L row 0 acc z4 z5 (by omega)
      obtain ⟨z2', z3', z4', z5', ih⟩ := rp_out R w0 hw hR hl L rest (r + 1) (acc ++ mks r 0 row) (.va (.int (r : Nat))) (.va (.str (mk row))) y4 y5 hd2 (by rw [List.length_append]; omega)
      refine ⟨z2', z3', z4', z5', ?_⟩
      rw [← prs_signs] at lp
      have wk : for_read_picture2 [.va (.lst (txsW R)), .ow (.lst (acc.map cW)), .va (.int (r : Nat)), .va (.str (mk row)), z4, z5] L = some (.ok (.nx [.va (.lst (txsW R)), .ow (.lst ((acc ++ mks r 0 row).map cW)), .va (.int (r : Nat)), .va (.str (mk row)), y4, y5] L)) := by
        clear ih
        rw [ufor_read_picture2]
        generalize txsW R = T at *
        rw [pseq_nx (ρ1 := [.va (.lst T), .ow (.lst (acc.map cW)), .va (.int (r : Nat)), .va (.str (mk row)), z4, z5]) (L1 := L) (by simp [ck])]
        simp only [e_pFor, e_sEnS, e_cVar]
        exact lp
      rw [prw, forP_nx (ρ1 := [.va (.lst (txsW R)), .ow (.lst (acc.map cW)), .va (.int (r : Nat)), .va (.str (mk row)), z4, z5]) (by simp) wk, ih, readF, hc]
theorem read_eq (R : List (List Nat)) (w0 : Nat) (hw : ∀ r0, R[0]? = some r0 → r0.length = w0) (hR : R.length < 300) (hl : ∀ x ∈ R, x.length < 100) (L : Lg) : d_read_picture [.lst (txsW R)] L = some (match readF w0 0 R [] with
      | .ok cs => .ok (cellsL cs)
      | .error e => .error [("column", (e.2 : Int)), ("row", (e.1 : Int))], L) := by
  obtain ⟨z2, z3, z4, z5, lp⟩ := rp_out R w0 hw hR hl L R 0 [] .un .un .un .un rfl (by simp; omega)
  rw [← prw_pairs] at lp
  have key : b_read_picture [.va (.lst (txsW R)), .un, .un, .un, .un, .un] L = some (match readF w0 0 R [] with
      | .ok cs => .ok (.rt (cellsL cs) L)
      | .error e => .ex [("column", (e.2 : Int)), ("row", (e.1 : Int))] L) := by
    rw [ub_read_picture]
    generalize txsW R = T at *
    rw [pseq_nx (ρ1 := [.va (.lst T), .ow (.lst []), .un, .un, .un, .un]) (L1 := L) (by simp)]
    cases hf : readF w0 0 R [] with
    | error e =>
      rw [hf] at lp
      simp only at lp
      exact pseq_ex (by simp only [e_pFor, e_sEn, e_cVar]; exact lp)
    | ok cs =>
      rw [hf] at lp
      simp only at lp
      rw [pseq_nx (ρ1 := [.va (.lst T), .ow (.lst (cs.map cW)), z2, z3, z4, z5]) (L1 := L) (by simp only [e_pFor, e_sEn, e_cVar]; exact lp)]
      show _ = some (OP.ok (Out.rt (W.lst (cs.map cW)) L))
      generalize cs.map cW = CW at *
      simp
  rw [ud_read_picture, e_runDefP]
  have st' : b_read_picture (([.lst (txsW R)] : List W).map Sl.va ++ List.replicate (6 - 1) .un) L = _ := key
  simp only [List.length_cons, List.length_nil]
  rw [st']
  cases readF w0 0 R [] <;> rfl

/-! k05: what the law finds -/
theorem ixW_mk {l : List Nat} {j c : Nat} (hl : l.length ≤ 16777216) (h : l[j]? = some c) : ixW (.str (mk l)) (.int (j : Nat)) = some (.str (mk [c])) := by
  show (if (mk l).length ≤ 16777216 then (match atI (mk l).cps.toList (j : Int) with
    | some c => some (W.str ⟨#[c]⟩)
    | none => none) else none) = _
  rw [mk_len, if_pos hl, mk_cps, atI_nat h]
  rfl
theorem rangeW_cons (z : Int) (k : Nat) : rangeW z (k + 1) = .int z :: rangeW (z + 1) k := by
  rw [rangeW_ints, rangeW_ints, List.range_succ_eq_map, List.map_cons, List.map_cons, List.map_map, List.map_map, List.map_map]
  congr 1
  · simp
  · refine List.map_congr_left fun i _ => ?_
    simp only [Function.comp]
    congr 1
    omega
theorem sDO : Str.ofString ".O" = mk [46, 79] := by decide +kernel
section
variable (T : List W) (r k x : Nat) (row : List Nat) (A : List Cell) (L : Lg)
theorem du1_bad (a1 : atI T (r : Int) = some (.str (mk row))) (ix : ixW (.str (mk row)) (.int (k : Nat)) = some (.str (mk [x]))) (hx : x ≠ 46 ∧ x ≠ 79) : for_law_due1 [.va (.lst T), .ow (.lst (A.map cW)), .va (.int (r : Nat)), .va (.int (k : Nat))] L = some (.rt (.tup [.lst (A.map cW), .tup [.int (r : Nat), .int (k : Nat)]]) L) := by
  rw [ufor_law_due1]
  generalize A.map cW = AW at *
  simp [a1, ix, sDO, hx.1, hx.2]
theorem du1_O (a1 : atI T (r : Int) = some (.str (mk row))) (ix : ixW (.str (mk row)) (.int (k : Nat)) = some (.str (mk [79]))) (ha : A.length < 16777216) : for_law_due1 [.va (.lst T), .ow (.lst (A.map cW)), .va (.int (r : Nat)), .va (.int (k : Nat))] L = some (.nx [.va (.lst T), .ow (.lst ((A ++ [((r : Int), (k : Int))]).map cW)), .va (.int (r : Nat)), .va (.int (k : Nat))] L) := by
  rw [ufor_law_due1]
  simp [a1, ix, sDO, sOo, ha, cW]
theorem du1_dot (a1 : atI T (r : Int) = some (.str (mk row))) (ix : ixW (.str (mk row)) (.int (k : Nat)) = some (.str (mk [46]))) : for_law_due1 [.va (.lst T), .ow (.lst (A.map cW)), .va (.int (r : Nat)), .va (.int (k : Nat))] L = some (.nx [.va (.lst T), .ow (.lst (A.map cW)), .va (.int (r : Nat)), .va (.int (k : Nat))] L) := by
  rw [ufor_law_due1]
  generalize A.map cW = AW at *
  simp [a1, ix, sDO, sOo]
end
theorem du_in (T : List W) (r : Nat) (row : List Nat) (a1 : atI T (r : Int) = some (.str (mk row))) (hl : row.length ≤ 1000) (L : Lg) : ∀ (d : List Nat) (k : Nat) (A : List Cell) (z3 : Sl), row.drop k = d → A.length + d.length ≤ 100000 →
    (∃ (c : Nat) (B : List Cell), fb k d = some c ∧ forLoop (gN 3) for_law_due1 (rangeW (k : Nat) d.length) [.va (.lst T), .ow (.lst (A.map cW)), .va (.int (r : Nat)), z3] L = some (.rt (.tup [cellsL B, .tup [.int (r : Nat), .int (c : Nat)]]) L)) ∨
    (fb k d = none ∧ ∃ z3', forLoop (gN 3) for_law_due1 (rangeW (k : Nat) d.length) [.va (.lst T), .ow (.lst (A.map cW)), .va (.int (r : Nat)), z3] L = some (.nx [.va (.lst T), .ow (.lst ((A ++ mks r k d).map cW)), .va (.int (r : Nat)), z3'] L))
  | [], k, A, z3, _, _ => .inr ⟨rfl, z3, by rw [mks, List.append_nil]; rfl⟩
  | x :: d, k, A, z3, hd, ha => by
    rw [List.length_cons] at ha
    obtain ⟨hk, hd2⟩ := drop_at hd
    have ix := ixW_mk (l := row) (by omega) hk
    have rc : rangeW (k : Nat) (x :: d).length = .int (k : Nat) :: rangeW ((k + 1 : Nat) : Int) d.length := by
      rw [List.length_cons, rangeW_cons]; rfl
    rw [rc]
    by_cases hx : x ≠ 46 ∧ x ≠ 79
    · refine .inl ⟨k, A, by rw [fb, if_pos hx], ?_⟩
      rw [for_rt (ρ1 := [.va (.lst T), .ow (.lst (A.map cW)), .va (.int (r : Nat)), .va (.int (k : Nat))]) (by simp) (du1_bad T r k x row A L a1 ix hx)]
    · by_cases h79 : x = 79
      · subst h79
        rw [for_nx (ρ1 := [.va (.lst T), .ow (.lst (A.map cW)), .va (.int (r : Nat)), .va (.int (k : Nat))]) (by simp) (du1_O T r k row A L a1 ix (by omega))]
        rcases du_in T r row a1 hl L d (k + 1) (A ++ [((r : Int), (k : Int))]) (.va (.int (k : Nat))) hd2 (by simp; omega) with ⟨c, B, h1, h2⟩ | ⟨h1, z3', h2⟩
        · exact .inl ⟨c, B, by rw [fb, if_neg hx]; exact h1, h2⟩
        · refine .inr ⟨by rw [fb, if_neg hx]; exact h1, z3', ?_⟩
          rw [h2, mks, if_pos rfl, List.append_assoc]; rfl
      · have h46 : x = 46 := by omega
        subst h46
        rw [for_nx (ρ1 := [.va (.lst T), .ow (.lst (A.map cW)), .va (.int (r : Nat)), .va (.int (k : Nat))]) (by simp) (du1_dot T r k row A L a1 ix)]
        rcases du_in T r row a1 hl L d (k + 1) A (.va (.int (k : Nat))) hd2 (by omega) with ⟨c, B, h1, h2⟩ | ⟨h1, z3', h2⟩
        · exact .inl ⟨c, B, by rw [fb, if_neg hx]; exact h1, h2⟩
        · refine .inr ⟨by rw [fb, if_neg hx]; exact h1, z3', ?_⟩
          rw [h2, mks, if_neg h79]
/-- a row -/
theorem du_row (T : List W) (r : Nat) (row r0 : List Nat) (a1 : atI T (r : Int) = some (.str (mk row))) (a0 : atI T 0 = some (.str (mk r0))) (hl : row.length < 1000) (hl0 : r0.length < 1000) (A : List Cell) (ha : A.length ≤ 90000) (z3 : Sl) (L : Lg) :
    (∃ (c : Nat) (B : List Cell), chkF r0.length row = some c ∧ for_law_due2 [.va (.lst T), .ow (.lst (A.map cW)), .va (.int (r : Nat)), z3] L = some (.rt (.tup [cellsL B, .tup [.int (r : Nat), .int (c : Nat)]]) L)) ∨
    (chkF r0.length row = none ∧ ∃ z3', for_law_due2 [.va (.lst T), .ow (.lst (A.map cW)), .va (.int (r : Nat)), z3] L = some (.nx [.va (.lst T), .ow (.lst ((A ++ mks r 0 row).map cW)), .va (.int (r : Nat)), z3'] L)) := by
  have l1 := lenW_mk (l := row) (by omega)
  have l0 := lenW_mk (l := r0) (by omega)
  have rg := rng1_ok (row.length : Nat) L (by omega) (by omega)
  have in_ := du_in T r row a1 (by omega) L row 0 A z3 rfl (by omega)
  rw [show ((row.length : Nat) : Int).toNat = row.length by omega] at rg
  rw [show ((0 : Nat) : Int) = 0 from rfl] at in_
  unfold chkF
  rcases in_ with ⟨c, B, h1, h2⟩ | ⟨h1, z3', h2⟩
  · refine .inl ⟨c, B, by rw [h1], ?_⟩
    rw [ufor_law_due2]
    exact seq_rt (by simp [a1, l1, rg, h2])
  · rw [h1]
    simp only
    have e1 : (cFor (sRange1 (cCons (cC lenW (cOf (cIx ixW (cNm 0) (cVar 2)))) cNil)) (gN 3) for_law_due1) [.va (.lst T), .ow (.lst (A.map cW)), .va (.int (r : Nat)), z3] L = some (.nx [.va (.lst T), .ow (.lst ((A ++ mks r 0 row).map cW)), .va (.int (r : Nat)), z3'] L) := by
      simp [a1, l1, rg, h2]
    by_cases e : row.length = r0.length
    · rw [if_neg (by omega)]
      refine .inr ⟨rfl, z3', ?_⟩
      rw [ufor_law_due2, seq_nx e1]
      generalize (A ++ mks r 0 row).map cW = AW at *
      simp [a1, a0, l1, l0, e]
    · rw [if_pos e]
      refine .inl ⟨_, A ++ mks r 0 row, rfl, ?_⟩
      rw [ufor_law_due2, seq_nx e1]
      have e2 : ¬ ((row.length : Int) = (r0.length : Int)) := by omega
      show _ = some (Out.rt (.tup [W.lst ((A ++ mks r 0 row).map cW), .tup [.int (r : Nat), .int ((min row.length r0.length : Nat) : Int)]]) L)
      generalize (A ++ mks r 0 row).map cW = AW at *
      simp [a1, a0, l1, l0, e, e2, minW2]
      split <;> omega

/-! k05: what the law finds, whole -/
def faultW : Except (Nat × Nat) (List Cell) → W
  | .ok _ => .non
  | .error e => .tup [.int (e.1 : Nat), .int (e.2 : Nat)]
theorem du_out (R : List (List Nat)) (w0 : Nat) (hw : ∀ r0, R[0]? = some r0 → r0.length = w0) (hR : R.length < 300) (hl : ∀ x ∈ R, x.length < 100) (L : Lg) : ∀ (rest : List (List Nat)) (r : Nat) (A : List Cell) (z2 z3 : Sl), R.drop r = rest → A.length + 100 * rest.length ≤ 30000 →
    (∃ (e : Nat × Nat) (B : List Cell), readF w0 r rest A = .error e ∧ forLoop (gN 2) for_law_due2 (rangeW (r : Nat) rest.length) [.va (.lst (txsW R)), .ow (.lst (A.map cW)), z2, z3] L = some (.rt (.tup [cellsL B, .tup [.int (e.1 : Nat), .int (e.2 : Nat)]]) L)) ∨
    (∃ (B : List Cell) (z2' z3' : Sl), readF w0 r rest A = .ok B ∧ forLoop (gN 2) for_law_due2 (rangeW (r : Nat) rest.length) [.va (.lst (txsW R)), .ow (.lst (A.map cW)), z2, z3] L = some (.nx [.va (.lst (txsW R)), .ow (.lst (B.map cW)), z2', z3'] L))
  | [], r, A, z2, z3, _, _ => .inr ⟨A, z2, z3, rfl, rfl⟩
  | row :: rest, r, A, z2, z3, hd, ha => by
    rw [List.length_cons] at ha
    obtain ⟨hr, hd2⟩ := drop_at hd
    have hrl := (List.getElem?_eq_some_iff.mp hr).1
    obtain ⟨r0, h0⟩ : ∃ r0, R[0]? = some r0 := ⟨_, List.getElem?_eq_getElem (by omega)⟩
    have lr := hl row (List.mem_of_getElem? hr)
    have l0 := hl r0 (List.mem_of_getElem? h0)
    have a1 : atI (txsW R) (r : Int) = some (.str (mk row)) := atI_nat (by unfold txsW; rw [List.getElem?_map, hr]; rfl)
    have a0 : atI (txsW R) 0 = some (.str (mk r0)) := atI_nat (j := 0) (by unfold txsW; rw [List.getElem?_map, h0]; rfl)
    have rc : rangeW (r : Nat) (row :: rest).length = .int (r : Nat) :: rangeW ((r + 1 : Nat) : Int) rest.length := by
      rw [List.length_cons, rangeW_cons, show ((r + 1 : Nat) : Int) = (r : Int) + 1 by omega]
    rw [rc]
    clear rc
    have ml := mks_len r row 0
    have g2 : ∀ x : Int, gN 2 (.int x) [.va (.lst (txsW R)), .ow (.lst (A.map cW)), z2, z3] = some [.va (.lst (txsW R)), .ow (.lst (A.map cW)), .va (.int x), z3] := fun x => by
      generalize txsW R = T
      generalize A.map cW = AW
      simp
    have du := du_row (txsW R) r row r0 a1 a0 (by omega) (by omega) A (by omega) z3 L
    rw [hw r0 h0] at du
    rcases du with ⟨c, B, h1, h2⟩ | ⟨h1, z3', h2⟩
    · refine .inl ⟨(r, c), B, by rw [readF, h1], ?_⟩
      rw [for_rt (g2 _) h2]
    · rw [for_nx (g2 _) h2, readF, h1]
      exact du_out R w0 hw hR hl L rest (r + 1) (A ++ mks r 0 row) (.va (.int (r : Nat))) z3' hd2 (by rw [List.length_append]; omega)
theorem due_w1 (T : List W) (n : Nat) (X : W) (L : Lg) (ln : lenW (.lst T) = some (.int (n : Nat))) (rg : rng1 (n : Nat) L = some (rangeW 0 n, L)) (h2 : forLoop (gN 2) for_law_due2 (rangeW 0 n) [.va (.lst T), .ow (.lst []), .un, .un] L = some (.rt X L)) : b_law_due [.va (.lst T), .un, .un, .un] L = some (.rt X L) := by
  rw [ub_law_due]
  rw [seq_nx (ρ1 := [.va (.lst T), .ow (.lst []), .un, .un]) (L1 := L) (by simp)]
  generalize rangeW 0 n = RW at *
  exact seq_rt (by simp [ln, rg, h2])
theorem due_w2 (T : List W) (n : Nat) (BW : List W) (z2 z3 : Sl) (L : Lg) (ln : lenW (.lst T) = some (.int (n : Nat))) (rg : rng1 (n : Nat) L = some (rangeW 0 n, L)) (h2 : forLoop (gN 2) for_law_due2 (rangeW 0 n) [.va (.lst T), .ow (.lst []), .un, .un] L = some (.nx [.va (.lst T), .ow (.lst BW), z2, z3] L)) : b_law_due [.va (.lst T), .un, .un, .un] L = some (.rt (.tup [.lst BW, .non]) L) := by
  rw [ub_law_due]
  rw [seq_nx (ρ1 := [.va (.lst T), .ow (.lst []), .un, .un]) (L1 := L) (by simp)]
  generalize rangeW 0 n = RW at *
  rw [seq_nx (ρ1 := [.va (.lst T), .ow (.lst BW), z2, z3]) (L1 := L) (by simp [ln, rg, h2])]
  simp
theorem due_fin (T : List W) (W_ : W) (L : Lg) (h : b_law_due [.va (.lst T), .un, .un, .un] L = some (.rt W_ L)) : d_law_due [.lst T] L = some (W_, L) := by
  rw [ud_law_due, e_runDef, show (4 - ([.lst T] : List W).length) = 3 from rfl]
  have st' : b_law_due (([.lst T] : List W).map Sl.va ++ List.replicate 3 .un) L = some (.rt W_ L) := h
  rw [st']
theorem due_eq (R : List (List Nat)) (w0 : Nat) (hw : ∀ r0, R[0]? = some r0 → r0.length = w0) (hR : R.length < 300) (hl : ∀ x ∈ R, x.length < 100) (L : Lg) : ∃ B : List Cell, d_law_due [.lst (txsW R)] L = some (.tup [cellsL B, faultW (readF w0 0 R [])], L) ∧ ∀ cs, readF w0 0 R [] = .ok cs → B = cs := by
  have tl : (txsW R).length = R.length := txsW_len R
  have rg := rng1_ok (R.length : Nat) L (by omega) (by omega)
  rw [show ((R.length : Nat) : Int).toNat = R.length by omega] at rg
  have ln : lenW (.lst (txsW R)) = some (.int (R.length : Nat)) := by show some (W.int ((txsW R).length : Nat)) = _; rw [tl]
  have du := du_out R w0 hw hR hl L R 0 [] .un .un rfl (by simp; omega)
  rw [show ((0 : Nat) : Int) = 0 from rfl] at du
  clear tl hw hl hR
  have nl : ([] : List Cell).map cW = [] := rfl
  rw [nl] at du
  rcases du with ⟨e, B, h1, h2⟩ | ⟨B, z2, z3, h1, h2⟩
  · refine ⟨B, due_fin _ _ _ ?_, fun cs h => by rw [h1] at h; cases h⟩
    rw [h1]
    show _ = some (Out.rt (.tup [cellsL B, .tup [.int (e.1 : Nat), .int (e.2 : Nat)]]) L)
    exact due_w1 _ _ _ L ln rg h2
  · refine ⟨B, due_fin _ _ _ ?_, fun cs h => by rw [h1] at h; cases h; rfl⟩
    rw [h1]
    exact due_w2 _ _ _ z2 z3 L ln rg h2

/-! k05: pictures of patterns, read -/
theorem toDs_tx : ∀ rows : List (List Nat), toDs (txsW rows) = some (rows.map fun row => PyData.str (mk row))
  | [] => rfl
  | r :: rows => by
    have := toDs_tx rows
    unfold txsW at this ⊢
    rw [List.map_cons]
    simp only [toDs, toD, this, List.map_cons]
theorem canLay_tx : ∀ rows : List (List Nat), (∀ row ∈ rows, ∀ x ∈ row, x ≤ 200) → PyData.canLayAll0 (rows.map fun row => PyData.str (mk row)) = true
  | [], _ => rfl
  | r :: rows, h => by
    have e : PyData.strOk (mk r) = true := by
      unfold PyData.strOk
      rw [← Array.all_toList, List.all_eq_true]
      intro x hx
      have := h r List.mem_cons_self x (by simpa using hx)
      simp only [decide_eq_true_eq]
      omega
    simp [PyData.canLayAll0, PyData.canLay0, e, canLay_tx rows fun row hr => h row (List.mem_cons_of_mem _ hr)]
theorem depth_tx : ∀ rows : List (List Nat), PyData.depthAll (rows.map fun row => PyData.str (mk row)) = 0
  | [] => by simp [PyData.depthAll]
  | r :: rows => by simp [PyData.depthAll, PyData.depth, depth_tx rows]
theorem eqv_tx : ∀ rows : List (List Nat), PyData.eqvAll (rows.map fun row => PyData.str (mk row)) (rows.map fun row => PyData.str (mk row)) = true
  | [] => by simp [PyData.eqvAll]
  | r :: rows => by simp [PyData.eqvAll, PyData.eqv, eqv_tx rows]
theorem shaped_tx (rows : List (List Nat)) (hs : ∀ row ∈ rows, ∀ x ∈ row, x ≤ 200) : SeqAt.shaped (.list (rows.map fun row => PyData.str (mk row))) = true := by
  unfold SeqAt.shaped
  rw [Bool.and_eq_true, decide_eq_true_eq]
  refine ⟨by simp [PyData.canLay0, canLay_tx rows hs], ?_⟩
  simp [PyData.depth, depth_tx]
theorem eqB_tx (rows : List (List Nat)) (hs : ∀ row ∈ rows, ∀ x ∈ row, x ≤ 200) : eqB (.lst (txsW rows)) (.lst (txsW rows)) = some true := by
  show eqD (.lst (txsW rows)) (.lst (txsW rows)) = _
  unfold eqD
  have sh := shaped_tx rows hs
  simp only [toD, toDs_tx, sh, and_self, if_true, PyData.eqv, eqv_tx]
theorem eqW_tx (rows : List (List Nat)) (hs : ∀ row ∈ rows, ∀ x ∈ row, x ≤ 200) : eqW (.lst (txsW rows)) (.lst (txsW rows)) = some (.bl true) := by unfold eqW; rw [eqB_tx rows hs]
theorem neW_tx (rows : List (List Nat)) (hs : ∀ row ∈ rows, ∀ x ∈ row, x ≤ 200) : neW (.lst (txsW rows)) (.lst (txsW rows)) = some (.bl false) := by unfold neW; rw [eqB_tx rows hs]; rfl
theorem eqW_tx0 (rows : List (List Nat)) (hs : ∀ row ∈ rows, ∀ x ∈ row, x ≤ 200) : eqW (.lst (txsW rows)) (.lst []) = some (.bl (decide (rows = []))) := by
  have sh := shaped_tx rows hs
  have s0 := shaped_tx [] (fun _ h => by cases h)
  have e : eqB (.lst (txsW rows)) (.lst []) = some (decide (rows = [])) := by
    show eqD (.lst (txsW rows)) (.lst []) = _
    unfold eqD
    simp only [List.map_nil] at s0
    simp only [toD, toDs_tx, toDs, sh, s0, and_self, if_true, PyData.eqv]
    cases rows with
    | nil => simp [PyData.eqvAll]
    | cons r rows => simp [PyData.eqvAll]
  unfold eqW
  rw [e]
def allm : Nat → List (List Nat) → List Cell
  | _, [] => []
  | r, row :: rows => mks r 0 row ++ allm (r + 1) rows
theorem fb_none : ∀ (l : List Nat) (k : Nat), (∀ x ∈ l, x = 46 ∨ x = 79) → fb k l = none
  | [], _, _ => rfl
  | x :: l, k, h => by
    have := h x List.mem_cons_self
    rw [fb, if_neg (by omega)]
    exact fb_none l (k + 1) fun y hy => h y (List.mem_cons_of_mem _ hy)
theorem readF_ok (w0 : Nat) : ∀ (rows : List (List Nat)) (r : Nat) (acc : List Cell), (∀ row ∈ rows, row.length = w0 ∧ ∀ x ∈ row, x = 46 ∨ x = 79) → readF w0 r rows acc = .ok (acc ++ allm r rows)
  | [], r, acc, _ => by rw [readF, allm, List.append_nil]
  | row :: rows, r, acc, h => by
    obtain ⟨h1, h2⟩ := h row List.mem_cons_self
    have : chkF w0 row = none := by
      unfold chkF
      rw [fb_none row 0 h2]
      simp [h1]
    rw [readF, this]
    simp only
    rw [readF_ok w0 rows (r + 1) _ fun x hx => h x (List.mem_cons_of_mem _ hx), allm, List.append_assoc]
theorem mem_mks {r : Nat} {c : Cell} : ∀ {l : List Nat} {k : Nat}, c ∈ mks r k l ↔ ∃ j : Nat, l[j]? = some 79 ∧ c = ((r : Int), ((k + j : Nat) : Int))
  | [], k => by simp [mks]
  | x :: l, k => by
    have ih := mem_mks (r := r) (c := c) (l := l) (k := k + 1)
    have key : (∃ j : Nat, (x :: l)[j]? = some 79 ∧ c = ((r : Int), ((k + j : Nat) : Int))) ↔ (x = 79 ∧ c = ((r : Int), (k : Int))) ∨ ∃ j : Nat, l[j]? = some 79 ∧ c = ((r : Int), ((k + 1 + j : Nat) : Int)) := by
      constructor
      · rintro ⟨j, h1, h2⟩
        cases j with
        | zero => exact .inl ⟨by simpa using h1, by simpa using h2⟩
        | succ j => exact .inr ⟨j, by simpa using h1, by rw [h2]; congr 2; omega⟩
      · rintro (⟨h1, h2⟩ | ⟨j, h1, h2⟩)
        · exact ⟨0, by simpa using h1, by simpa using h2⟩
        · exact ⟨j + 1, by simpa using h1, by rw [h2]; congr 2; omega⟩
    rw [key, mks]
    split
    · rename_i hx
      rw [List.mem_cons, ih]
      simp [hx]
    · rename_i hx
      rw [ih]
      simp [hx]
theorem mem_allm {c : Cell} : ∀ {rows : List (List Nat)} {r : Nat}, c ∈ allm r rows ↔ ∃ (i j : Nat) (row : List Nat), rows[i]? = some row ∧ row[j]? = some 79 ∧ c = (((r + i : Nat) : Int), (j : Int))
  | [], r => by simp [allm]
  | x :: rows, r => by
    have ih := mem_allm (c := c) (rows := rows) (r := r + 1)
    rw [allm, List.mem_append, mem_mks, ih]
    constructor
    · rintro (⟨j, h1, h2⟩ | ⟨i, j, row, h0, h1, h2⟩)
      · exact ⟨0, j, x, rfl, h1, by rw [h2]; simp⟩
      · exact ⟨i + 1, j, row, by simpa using h0, h1, by rw [h2]; congr 2; omega⟩
    · rintro ⟨i, j, row, h0, h1, h2⟩
      cases i with
      | zero => exact .inl ⟨j, by simp at h0; rw [h0]; exact h1, by rw [h2]; simp⟩
      | succ i => exact .inr ⟨i, j, row, by simpa using h0, h1, by rw [h2]; congr 2; omega⟩
def ltC (a b : Cell) : Prop := a.1 < b.1 ∨ (a.1 = b.1 ∧ a.2 < b.2)
theorem mks_pw (r : Nat) : ∀ (l : List Nat) (k : Nat), (mks r k l).Pairwise ltC
  | [], _ => List.Pairwise.nil
  | x :: l, k => by
    have ih := mks_pw r l (k + 1)
    rw [mks]
    split
    · refine List.Pairwise.cons (fun y hy => ?_) ih
      obtain ⟨j, _, rfl⟩ := mem_mks.mp hy
      exact .inr ⟨rfl, by simp only; omega⟩
    · exact ih
theorem allm_pw : ∀ (rows : List (List Nat)) (r : Nat), (allm r rows).Pairwise ltC
  | [], _ => List.Pairwise.nil
  | row :: rows, r => by
    rw [allm, List.pairwise_append]
    refine ⟨mks_pw r row 0, allm_pw rows (r + 1), fun a ha b hb => ?_⟩
    obtain ⟨j, _, rfl⟩ := mem_mks.mp ha
    obtain ⟨i, j', row', _, _, rfl⟩ := mem_allm.mp hb
    exact .inl (by simp only; omega)
theorem can_allm (rows : List (List Nat)) (r : Nat) : Can (allm r rows) := by
  have h := allm_pw rows r
  refine ⟨h.imp fun {a b} hab e => ?_, h.imp fun {a b} hab => ?_⟩
  · subst e; unfold ltC at hab; omega
  · unfold ltC at hab; unfold leC; rw [decide_eq_true_eq]; omega
theorem PIC_rows {H : List Cell} (hn : H ≠ []) (hp : ∀ c ∈ H, 0 ≤ c.1 ∧ 0 ≤ c.2) (c : Cell) : c ∈ allm 0 (PIC H) ↔ c ∈ H := by
  obtain ⟨m1, a1, a2, a3, a4, a5⟩ := dim_spec (ns := H.map fun c => c.1) (by simpa using hn) (by intro x hx; obtain ⟨c, hc, rfl⟩ := List.mem_map.mp hx; exact (hp c hc).1)
  obtain ⟨m2, b1, b2, b3, b4, b5⟩ := dim_spec (ns := H.map fun c => c.2) (by simpa using hn) (by intro x hx; obtain ⟨c, hc, rfl⟩ := List.mem_map.mp hx; exact (hp c hc).2)
  have pe : PIC H = pics H (dimOf (H.map fun c => c.1)) (dimOf (H.map fun c => c.2)) := if_neg hn
  rw [pe, mem_allm]
  unfold pics rowN2
  generalize hh : dimOf (H.map fun c => c.1) = h at *
  generalize hw : dimOf (H.map fun c => c.2) = w at *
  constructor
  · rintro ⟨i, j, row, h0, h1, rfl⟩
    rw [List.getElem?_map] at h0
    cases q : (List.range h)[i]? with
    | none => rw [q] at h0; cases h0
    | some i' =>
      have qi := (List.getElem?_eq_some_iff.mp q)
      obtain ⟨ql, qe⟩ := qi
      rw [List.getElem_range] at qe
      subst qe
      rw [q] at h0
      simp only [Option.map_some, Option.some.injEq] at h0
      subst h0
      rw [List.getElem?_map] at h1
      cases q2 : (List.range w)[j]? with
      | none => rw [q2] at h1; cases h1
      | some j' =>
        obtain ⟨ql2, qe2⟩ := List.getElem?_eq_some_iff.mp q2
        rw [List.getElem_range] at qe2
        subst qe2
        rw [q2] at h1
        simp only [Option.map_some, Option.some.injEq, sg2] at h1
        split at h1
        · rename_i hm
          simpa using hm
        · cases h1
  · intro hc
    have p := hp c hc
    have k1 := a5 c.1 (List.mem_map.mpr ⟨c, hc, rfl⟩)
    have k2 := b5 c.2 (List.mem_map.mpr ⟨c, hc, rfl⟩)
    obtain ⟨i, hi⟩ := Int.eq_ofNat_of_zero_le p.1
    obtain ⟨j, hj⟩ := Int.eq_ofNat_of_zero_le p.2
    have ec : c = ((i : Int), (j : Int)) := Prod.ext hi hj
    refine ⟨i, j, (List.range w).map fun c => sg2 H i c, ?_, ?_, ?_⟩
    · rw [List.getElem?_map, List.getElem?_range (by omega)]; rfl
    · rw [List.getElem?_map, List.getElem?_range (by omega)]
      simp only [Option.map_some, sg2]
      rw [if_pos (by rw [← ec]; exact hc)]
    · rw [Nat.zero_add]; exact ec
theorem PIC_read {H : List Cell} (can : Can H) (hn : H ≠ []) (hp : ∀ c ∈ H, 0 ≤ c.1 ∧ 0 ≤ c.2) : allm 0 (PIC H) = H := can_ext (can_allm _ _) can (PIC_rows hn hp)

theorem inW_cell (a b : Int) (cs : List Cell) : inW false (.tup [.int a, .int b]) (cellsL cs) = some (.bl (decide (((a, b) : Cell) ∈ cs))) := by
  have sc : SeqAt.shaped (.tuple [.int a, .int b]) = true := shaped_tints [a, b]
  have an : ((cs.map fun c => PyData.tuple [.int c.1, .int c.2]).any fun z => PyData.eqv z (.tuple [.int a, .int b])) = decide (((a, b) : Cell) ∈ cs) := by
    rw [Bool.eq_iff_iff, List.any_eq_true, decide_eq_true_eq]
    constructor
    · rintro ⟨z, h1, h2⟩
      obtain ⟨c, hc, rfl⟩ := List.mem_map.mp h1
      have : c = (a, b) := by
        simp [PyData.eqv, PyData.eqvAll] at h2
        exact Prod.ext h2.1 h2.2
      rw [← this]; exact hc
    · intro h
      exact ⟨_, List.mem_map.mpr ⟨(a, b), h, rfl⟩, by simp [PyData.eqv, PyData.eqvAll]⟩
  have mm : memW (.tup [.int a, .int b]) (cs.map cW) = some (decide (((a, b) : Cell) ∈ cs)) := by
    unfold memW
    simp only [toD, toDs, toDs_cells, sc, shaped_cells, and_self, if_true, an]
  show (match memW (.tup [.int a, .int b]) (cs.map cW) with
    | some k => some (W.bl (if false then !k else k))
    | none => none) = _
  rw [mm]; rfl

/-! k05: the picture that is due -/
theorem for_ind {α : Type} (f : α → W) {g : GF} {body : SF} (P : Nat → Ro → Lg → Prop) : ∀ (xs : List α) (k : Nat) (ρ : Ro) (L : Lg),
    (∀ i x ρ L, xs[i]? = some x → P (k + i) ρ L → ∃ ρ1 ρ2 L2, g (f x) ρ = some ρ1 ∧ body ρ1 L = some (.nx ρ2 L2) ∧ P (k + i + 1) ρ2 L2) → P k ρ L → ∃ ρ' L', forLoop g body (xs.map f) ρ L = some (.nx ρ' L') ∧ P (k + xs.length) ρ' L'
  | [], k, ρ, L, _, p => ⟨ρ, L, rfl, p⟩
  | x :: xs, k, ρ, L, step, p => by
    obtain ⟨ρ1, ρ2, L2, e1, e2, p2⟩ := step 0 x ρ L rfl p
    obtain ⟨ρ', L', e3, p3⟩ := for_ind f P xs (k + 1) ρ2 L2 (fun i x ρ L hx hp => by
      have := step (i + 1) x ρ L hx (by rw [show k + (i + 1) = k + 1 + i by omega]; exact hp)
      rw [show k + (i + 1) + 1 = k + 1 + i + 1 by omega] at this
      exact this) p2
    refine ⟨ρ', L', ?_, by rw [List.length_cons, show k + (xs.length + 1) = k + 1 + xs.length by omega]; exact p3⟩
    rw [List.map_cons, for_nx e1 e2, e3]
theorem fz_lst (ws : List W) : (M.lst ws).fz = .lst ws := rfl
theorem ixO1' : ixW (.str (mk [46, 79])) (.int 1) = some (.str (mk [79])) := ixW_mk (l := [46, 79]) (j := 1) (c := 79) (by simp) rfl
theorem ixO0' : ixW (.str (mk [46, 79])) (.int 0) = some (.str (mk [46])) := ixW_mk (l := [46, 79]) (j := 0) (c := 46) (by simp) rfl
def dR (cs : List Cell) (r l : Int) (w : Nat) : List Nat := (List.range w).map fun (k : Nat) => if ((r, l + (k : Int)) : Cell) ∈ cs then 79 else 46
theorem due_inner (cs : List Cell) (r l : Int) (w : Nat) (L : Lg) (ρ : Ro) (hl : ρ.length = 20) (e2 : ρ[2]? = some (.va (cellsL cs))) (e7 : ρ[7]? = some (.va (.int r))) :
    lcLoop (gN 19) cYes (cIx ixW (cOf (cK (.str ".O"))) (cN intW (cCons (cOpC (inW false) (cTup (cCons (cVar 7) (cCons (cVar 19) cNil))) (cNm 2)) cNil))) ρ (rangeW l w) L =
      some (((dR cs r l w).map fun x => mk [x]).map W.str, L) := by
  rw [rangeW_ints]
  have e : ((List.range w).map fun (i : Nat) => l + (i : Int)).map W.int = (List.range w).map fun (k : Nat) => W.int (l + (k : Int)) := by rw [List.map_map]; rfl
  rw [e, lc_map (fun (k : Nat) => W.int (l + (k : Int))) (fun (k : Nat) => W.str (mk [if ((r, l + (k : Int)) : Cell) ∈ cs then 79 else 46])) fun k hk => ?_]
  · unfold dR; rw [List.map_map, List.map_map]; rfl
  · generalize l + (k : Int) = cI
    refine ⟨ρ.set 19 (.va (.int cI)), by simp [hl], ?_⟩
    have f2 : (ρ.set 19 (.va (.int cI)))[2]? = some (.va (cellsL cs)) := by rw [List.getElem?_set_ne (by decide)]; exact e2
    have f7 : (ρ.set 19 (.va (.int cI)))[7]? = some (.va (.int r)) := by rw [List.getElem?_set_ne (by decide)]; exact e7
    have f19 : (ρ.set 19 (.va (.int cI)))[19]? = some (.va (.int cI)) := List.getElem?_set_self (by omega)
    have inn := inW_cell r cI cs
    generalize ρ.set 19 (.va (.int cI)) = ρ2 at f2 f7 f19
    have ce : cellsL cs = W.lst (cs.map cW) := rfl
    rw [ce] at f2 inn
    clear e2 ce
    by_cases q : ((r, cI) : Cell) ∈ cs
    · rw [decide_eq_true q] at inn
      rw [if_pos q]
      generalize cs.map cW = CW at *
      simp [-ixW_s, f2, f7, f19, inn, sDO, ixO1']
    · rw [decide_eq_false q] at inn
      rw [if_neg q]
      generalize cs.map cW = CW at *
      simp [-ixW_s, f2, f7, f19, inn, sDO, ixO0']
theorem due_step (cs : List Cell) (r t l m : Int) (w : Nat) (hm : mostI (cs.map fun c => c.2) = some m) (hw : (m + 1 - l).toNat = w) (b1 : -1000 ≤ l) (b2 : l ≤ 1000) (b3 : -1000 ≤ m) (b4 : m ≤ 1000) (hw2 : w ≤ 1000) (hcl : cs.length ≤ 1000) (x0 x1 x3 : Sl) (DU : List W) (hd : DU.length < 1000) (L : Lg) :
    for_law3 [x0, x1, .va (cellsL cs), x3, .va (.int t), .va (.int l), .ow (.lst DU), .va (.int r), .un, .un, .un, .un, .un, .un, .un, .un, .un, .un, .un, .un] L = some (.nx [x0, x1, .va (cellsL cs), x3, .va (.int t), .va (.int l), .ow (.lst (DU ++ [.str (mk (dR cs r l w))])), .va (.int r), .un, .un, .un, .un, .un, .un, .un, .un, .un, .un, .un, .un] L) := by
  have inn := due_inner cs r l w L [x0, x1, .va (cellsL cs), x3, .va (.int t), .va (.int l), .ow (.lst DU), .va (.int r), .un, .un, .un, .un, .un, .un, .un, .un, .un, .un, .un, .un] rfl rfl rfl
  have lc : lcLoop (gTupW 2 (gsC (gN 7) (gsC (gN 19) gsN))) cYes (cVar 19) [x0, x1, .va (cellsL cs), x3, .va (.int t), .va (.int l), .ow (.lst DU), .un, .un, .un, .un, .un, .un, .un, .un, .un, .un, .un, .un, .un] (cs.map cW) L = some ((cs.map fun c => c.2).map W.int, L) := by
    rw [List.map_map]
    exact lc_map cW (fun q : Cell => W.int q.2) fun q _ => ⟨[x0, x1, .va (cellsL cs), x3, .va (.int t), .va (.int l), .ow (.lst DU), .va (.int q.1), .un, .un, .un, .un, .un, .un, .un, .un, .un, .un, .un, .va (.int q.2)], by simp [cW], by simp⟩
  have mx := maxW1_ints hm
  have cz : ((cs.map fun c => c.2).map W.int).length ≤ 16777216 := by simp; omega
  have rg := rng2_ok l (m + 1) L (by omega) (by omega) (by omega) (by omega)
  rw [hw] at rg
  have jl : (dR cs r l w).length = w := by unfold dR; simp
  have dz : DU.length < 16777216 := by omega
  rw [ufor_law3]
  have ce : cellsL cs = W.lst (cs.map cW) := rfl
  rw [ce] at inn lc ⊢
  clear ce
  generalize dR cs r l w = st at *
  generalize rangeW l w = RW at *
  generalize (cs.map fun c => c.2).map W.int = MI at *
  generalize cs.map cW = CW at *
  simp [-List.map_map, -rng2_ok, wipeR, lc, cz, mx, rg, inn, strsW_map, sum_ones, sEm, join_mk, jl, show w ≤ 16777216 by omega, dz, fz_lst]
theorem due_loop (cs : List Cell) (t l m : Int) (h w : Nat) (hm : mostI (cs.map fun c => c.2) = some m) (hw : (m + 1 - l).toNat = w) (b1 : -1000 ≤ l) (b2 : l ≤ 1000) (b3 : -1000 ≤ m) (b4 : m ≤ 1000) (hw2 : w ≤ 1000) (hh : h ≤ 900) (hcl : cs.length ≤ 1000) (x0 x1 x3 : Sl) (L : Lg) :
    ∃ y7, forLoop (gN 7) for_law3 (rangeW t h) [x0, x1, .va (cellsL cs), x3, .va (.int t), .va (.int l), .ow (.lst []), .un, .un, .un, .un, .un, .un, .un, .un, .un, .un, .un, .un, .un] L =
      some (.nx [x0, x1, .va (cellsL cs), x3, .va (.int t), .va (.int l), .ow (.lst (txsW ((List.range h).map fun (i : Nat) => dR cs (t + (i : Int)) l w))), y7, .un, .un, .un, .un, .un, .un, .un, .un, .un, .un, .un, .un] L) := by
  rw [rangeW_ints]
  have e : ((List.range h).map fun (i : Nat) => t + (i : Int)).map W.int = (List.range h).map fun (k : Nat) => W.int (t + (k : Int)) := by rw [List.map_map]; rfl
  rw [e]
  obtain ⟨ρ', L', e, ⟨rfl, y7, rfl⟩⟩ := for_ind (fun k : Nat => W.int (t + (k : Int))) (g := gN 7) (body := for_law3) (fun i ρ L' => L' = L ∧ ∃ y7, ρ = [x0, x1, .va (cellsL cs), x3, .va (.int t), .va (.int l), .ow (.lst (txsW (((List.range h).take i).map fun (i : Nat) => dR cs (t + (i : Int)) l w))), y7, .un, .un, .un, .un, .un, .un, .un, .un, .un, .un, .un, .un]) (List.range h) 0 [x0, x1, .va (cellsL cs), x3, .va (.int t), .va (.int l), .ow (.lst []), .un, .un, .un, .un, .un, .un, .un, .un, .un, .un, .un, .un, .un] L
    (fun i x ρ L' hx hp => by
      obtain ⟨rfl, y9, rfl⟩ := hp
      rw [Nat.zero_add] at *
      have lt := (List.getElem?_eq_some_iff.mp hx).1
      rw [List.length_range] at lt
      have dl : (txsW (((List.range h).take i).map fun (i : Nat) => dR cs (t + (i : Int)) l w)).length < 1000 := by rw [txsW_len, List.length_map, List.length_take, List.length_range]; omega
      have sr := due_step cs (t + (x : Int)) t l m w hm hw b1 b2 b3 b4 hw2 hcl x0 x1 x3 _ dl L'
      refine ⟨_, _, _, ?_, sr, rfl, .va (.int (t + (x : Int))), ?_⟩
      · generalize txsW (((List.range h).take i).map fun (i : Nat) => dR cs (t + (i : Int)) l w) = T
        generalize cellsL cs = CW
        simp
      · have tk : (List.range h).take (i + 1) = (List.range h).take i ++ [x] := by
          rw [List.take_succ, hx]; rfl
        rw [tk, List.map_append]
        unfold txsW
        rw [List.map_append]
        rfl)
    ⟨rfl, .un, rfl⟩
  refine ⟨y7, ?_⟩
  rw [e, Nat.zero_add]
  have : (List.range h).take (List.range h).length = List.range h := List.take_length
  rw [this]

/-! k05: the strings that are handed in -/
theorem cutS_from (l : List Nat) (a : Nat) : cutS (mk l) (some (a : Int)) none = mk (l.drop a) := by
  unfold cutS
  rw [mk_len, mk_cps, HT.sIx_nat, HT.sIx_none]
  congr 1
  rw [List.take_of_length_le (by rw [List.length_drop]; omega)]
  by_cases h : a ≤ l.length
  · rw [Nat.min_eq_left h]
  · rw [List.drop_of_length_le (show l.length ≤ min a l.length by omega), List.drop_of_length_le (by omega)]
theorem cutS_to (l : List Nat) (b : Nat) : cutS (mk l) none (some (b : Int)) = mk (l.take b) := by
  unfold cutS
  rw [mk_len, mk_cps, HT.sIx_nat, HT.sIx_none]
  simp [mk]

def rw2 (xs : List Int) : List Nat := xs.map fun x => if x % 2 = 1 then 79 else 46
section
variable (SC : W) (x1 x2 x3 x4 x5 x6 x7 : Sl) (L : Lg)
theorem law2_step (v k : Int) (w : Nat) (xs : List Int) (T : List W) (hT : T.length < 1000) (hw : w ≤ 100) (hx : xs.length = w) (hc : d_law_cell [SC, .int 2] L = some (.int v, L)) (re : d_law_row [.int (v + k), .int (w : Nat), .int 64] L = some (.lst (xs.map W.int), L)) :
    for_law2 [.va SC, x1, x2, x3, x4, x5, x6, x7, .va (.int (w : Nat)), .ow (.lst T), .va (.int k), .un, .un, .un, .un, .un, .un, .un, .un, .un] L = some (.nx [.va SC, x1, x2, x3, x4, x5, x6, x7, .va (.int (w : Nat)), .ow (.lst (T ++ [.str (mk (rw2 xs))])), .va (.int k), .un, .un, .un, .un, .un, .un, .un, .un, .un] L) := by
  have lc : lcLoop (gN 11) cYes (cIx ixW (cOf (cK (.str ".O"))) (cOp modW (cVar 11) (cK (.int 2)))) [.va SC, x1, x2, x3, x4, x5, x6, x7, .va (.int (w : Nat)), .ow (.lst T), .va (.int k), .un, .un, .un, .un, .un, .un, .un, .un, .un] (xs.map W.int) L = some (((rw2 xs).map fun x => mk [x]).map W.str, L) := by
    unfold rw2
    rw [List.map_map, List.map_map]
    refine lc_map W.int (fun x : Int => W.str (mk [if x % 2 = 1 then 79 else 46])) fun x _ => ⟨[.va SC, x1, x2, x3, x4, x5, x6, x7, .va (.int (w : Nat)), .ow (.lst T), .va (.int k), .va (.int x), .un, .un, .un, .un, .un, .un, .un, .un], by simp, ?_⟩
    have : x % 2 = 0 ∨ x % 2 = 1 := by omega
    rcases this with h | h
    · simp [-ixW_s, h, sDO, ixO0']
    · simp [-ixW_s, h, sDO, ixO1']
  have jl : (rw2 xs).length = w := by unfold rw2; simp [hx]
  have dz : T.length < 16777216 := by omega
  rw [ufor_law2]
  generalize rw2 xs = st at *
  generalize xs.map W.int = XW at *
  simp [-List.map_map, wipeR, hc, re, lc, strsW_map, sum_ones, sEm, join_mk, jl, show w ≤ 16777216 by omega, dz, fz_lst]
theorem law1_none (x8 x11 x12 : Sl) (k v x : Int) (hx : (if v < 0 then -v else v) = x) (hc : d_law_cell [SC, .int (3 + k)] L = some (.int v, L)) :
    for_law1 [.va SC, x1, x2, x3, x4, x5, x6, x7, x8, .ow (.lst []), .va (.int k), x11, x12, .un, .un, .un, .un, .un, .un, .un] L = some (.nx [.va SC, x1, x2, x3, x4, x5, x6, x7, x8, .ow (.lst []), .va (.int k), .va (.int x), x12, .un, .un, .un, .un, .un, .un, .un] L) := by
  rw [ufor_law1]
  rw [seq_nx (ρ1 := [.va SC, x1, x2, x3, x4, x5, x6, x7, x8, .ow (.lst []), .va (.int k), .va (.int x), x12, .un, .un, .un, .un, .un, .un, .un]) (L1 := L) (by simp [hc, hx])]
  simp
theorem law1_step (x8 x11 x12 : Sl) (k v x n r at_ : Int) (d : Nat) (T : List W) (row pc : List Nat) (rn an : Nat) (hx : (if v < 0 then -v else v) = x) (hc : d_law_cell [SC, .int (3 + k)] L = some (.int v, L)) (hn : (T.length : Int) = n) (n0 : 0 < n) (hT : T.length ≤ 100) (hr : x % n = r) (ern : r = (rn : Int)) (a1 : atI T r = some (.str (mk row))) (hl : row.length ≤ 100)
    (ha : x / 7 % ((row.length : Int) + 1) = at_) (ean : at_ = (an : Int)) (hp : atI [W.str " ", .str "o", .str "OO", .str "", .str ".", .str "x."] (x / 70 % 6) = some (.str (mk pc))) (pl : pc.length ≤ 2) (hd : x / 420 % 2 = (d : Int)) :
    for_law1 [.va SC, x1, x2, x3, x4, x5, x6, x7, x8, .ow (.lst T), .va (.int k), x11, x12, .un, .un, .un, .un, .un, .un, .un] L = some (.nx [.va SC, x1, x2, x3, x4, x5, x6, .va (.int r), x8, .ow (.lst (T.set rn (.str (mk (row.take an ++ pc ++ row.drop (an + d)))))), .va (.int k), .va (.int x), .va (.int at_), .un, .un, .un, .un, .un, .un, .un] L) := by
  have ln := lenW_mk (l := row) (by omega)
  have c1 := cutS_to row an
  have c2 := cutS_from row (an + d)
  have rb : 0 ≤ r ∧ r < n := by
    have h1 := Int.emod_nonneg x (b := n) (by omega)
    have h2 := Int.emod_lt_of_pos x (b := n) n0
    omega
  have sz : row.length ≤ 16777216 := by omega
  have l1 : (row.take an).length ≤ 100 := by rw [List.length_take]; omega
  have l2 : (row.drop (an + d)).length ≤ 100 := by rw [List.length_drop]; omega
  have cd : at_ + x / 420 % 2 = ((an + d : Nat) : Int) := by rw [ean, hd]; omega
  have lT : 0 < T.length := by omega
  have tn : T.length ≤ 16777216 := by omega
  have r0 : r.toNat = rn := by omega
  have lp : (0 : Int) < (row.length : Int) + 1 := by omega
  have z1 : min an row.length + pc.length ≤ 16777216 := by omega
  have z2 : min an row.length + pc.length + (row.length - (an + d)) ≤ 16777216 := by omega
  have z3 : min an row.length + (pc.length + (row.length - (an + d))) ≤ 16777216 := by omega
  rw [ufor_law1]
  rw [seq_nx (ρ1 := [.va SC, x1, x2, x3, x4, x5, x6, x7, x8, .ow (.lst T), .va (.int k), .va (.int x), x12, .un, .un, .un, .un, .un, .un, .un]) (L1 := L) (by simp [hc, hx])]
  have tst : (asT (cOp (cmpI fun i j => decide (j < i)) (cC lenW (cNm 9)) (cK (.int 0)))) [.va SC, x1, x2, x3, x4, x5, x6, x7, x8, .ow (.lst T), .va (.int k), .va (.int x), x12, .un, .un, .un, .un, .un, .un, .un] L = some (true, L) := by
    simp [hn, n0]
  rw [e_cIfS, tst]
  simp only
  rw [seq_nx (ρ1 := [.va SC, x1, x2, x3, x4, x5, x6, .va (.int r), x8, .ow (.lst T), .va (.int k), .va (.int x), x12, .un, .un, .un, .un, .un, .un, .un]) (L1 := L) (by simp [hn, n0, hr])]
  rw [seq_nx (ρ1 := [.va SC, x1, x2, x3, x4, x5, x6, .va (.int r), x8, .ow (.lst T), .va (.int k), .va (.int x), .va (.int at_), .un, .un, .un, .un, .un, .un, .un]) (L1 := L) (by simp [a1, ln, lp, ha])]
  generalize hP : [W.str " ", .str "o", .str "OO", .str "", .str ".", .str "x."] = P at *
  have plen : P.length ≤ 1000 := by rw [← hP]; decide
  rw [← ean] at c1
  rw [← cd] at c2
  simp [hP, fz_lst, plen, a1, c1, c2, sz, hp, mk_app, rb, hn, r0, List.append_assoc, z1, z2, z3]
end

/-! k05: the loops that make the strings -/
structure OkR (n B : Nat) (R : List (List Nat)) : Prop where
  len : R.length ≤ n
  row : ∀ row ∈ R, row.length ≤ B ∧ ∀ x ∈ row, x ≤ 200
theorem law2_loop (ns : List Int) (w n : Nat) (hw : w ≤ 8) (hn : n ≤ 6) (x1 x2 x3 x4 x5 x6 x7 : Sl) (L : Lg) : ∃ (R : List (List Nat)) (y10 : Sl), forLoop (gN 10) for_law2 (rangeW 0 n) [.va (.scr ns), x1, x2, x3, x4, x5, x6, x7, .va (.int (w : Nat)), .ow (.lst []), .un, .un, .un, .un, .un, .un, .un, .un, .un, .un] L =
    some (.nx [.va (.scr ns), x1, x2, x3, x4, x5, x6, x7, .va (.int (w : Nat)), .ow (.lst (txsW R)), y10, .un, .un, .un, .un, .un, .un, .un, .un, .un] L) ∧ OkR 6 8 R := by
  rw [rangeW_ints]
  obtain ⟨ρ', L', e, rfl, R, y10, rfl, h1, h2⟩ := for_ind W.int (g := gN 10) (body := for_law2) (fun i ρ L' => L' = L ∧ ∃ (R : List (List Nat)) (y10 : Sl), ρ = [.va (.scr ns), x1, x2, x3, x4, x5, x6, x7, .va (.int (w : Nat)), .ow (.lst (txsW R)), y10, .un, .un, .un, .un, .un, .un, .un, .un, .un] ∧ R.length ≤ i ∧ ∀ row ∈ R, row.length ≤ 8 ∧ ∀ x ∈ row, x ≤ 200)
    ((List.range n).map fun (i : Nat) => (0 : Int) + (i : Int)) 0 [.va (.scr ns), x1, x2, x3, x4, x5, x6, x7, .va (.int (w : Nat)), .ow (.lst []), .un, .un, .un, .un, .un, .un, .un, .un, .un, .un] L
    (fun i v ρ L' hv hp => by
      obtain ⟨rfl, R, y10, rfl, h1, h2⟩ := hp
      have lt := (List.getElem?_eq_some_iff.mp hv).1
      rw [List.length_map, List.length_range] at lt
      rw [Nat.zero_add] at *
      obtain ⟨xs, re, xl, xb⟩ := row_eq (ns.getD 2 0 + v) w 64 L' (by decide) (by decide) (by omega)
      have st := law2_step (.scr ns) x1 x2 x3 x4 x5 x6 x7 L' (ns.getD 2 0) v w xs (txsW R) (by rw [txsW_len]; omega) (by omega) xl (cell_eq ns 2 L') re
      refine ⟨[.va (.scr ns), x1, x2, x3, x4, x5, x6, x7, .va (.int (w : Nat)), .ow (.lst (txsW R)), .va (.int v), .un, .un, .un, .un, .un, .un, .un, .un, .un], _, _, by simp, st, rfl, R ++ [rw2 xs], .va (.int v), ?_, by simp; omega, fun row hr => ?_⟩
      · unfold txsW; rw [List.map_append]; rfl
      · rcases List.mem_append.mp hr with h | h
        · exact h2 row h
        · rw [List.mem_singleton] at h
          subst h
          refine ⟨by unfold rw2; rw [List.length_map]; omega, fun x hx => ?_⟩
          unfold rw2 at hx
          obtain ⟨y, _, rfl⟩ := List.mem_map.mp hx
          split <;> omega)
    ⟨rfl, [], .un, rfl, Nat.zero_le _, fun _ h => by cases h⟩
  refine ⟨R, y10, e, ?_, h2⟩
  rw [List.length_map, List.length_range] at h1
  omega
theorem s32 : Str.ofString " " = mk [32] := by decide +kernel
theorem s111 : Str.ofString "o" = mk [111] := by decide +kernel
theorem sOO : Str.ofString "OO" = mk [79, 79] := by decide +kernel
theorem sxd : Str.ofString "x." = mk [120, 46] := by decide +kernel
theorem pieces (z : Int) (h : 0 ≤ z) (h2 : z < 6) : ∃ pc : List Nat, atI [W.str " ", .str "o", .str "OO", .str "", .str ".", .str "x."] z = some (.str (mk pc)) ∧ pc.length ≤ 2 ∧ ∀ x ∈ pc, x ≤ 200 := by
  have : z = 0 ∨ z = 1 ∨ z = 2 ∨ z = 3 ∨ z = 4 ∨ z = 5 := by omega
  rcases this with rfl | rfl | rfl | rfl | rfl | rfl
  · exact ⟨[32], by rw [← s32]; rfl, by decide, by decide⟩
  · exact ⟨[111], by rw [← s111]; rfl, by decide, by decide⟩
  · exact ⟨[79, 79], by rw [← sOO]; rfl, by decide, by decide⟩
  · exact ⟨[], by rw [← sEm]; rfl, by decide, by decide⟩
  · exact ⟨[46], by rw [← sDot]; rfl, by decide, by decide⟩
  · exact ⟨[120, 46], by rw [← sxd]; rfl, by decide, by decide⟩
theorem law1_any (ns : List Int) (k : Nat) (n B : Nat) (hn : n ≤ 6) (hB : B ≤ 90) (R : List (List Nat)) (hR : OkR n B R) (x1 x2 x3 x4 x5 x6 x7 x8 x11 x12 : Sl) (L : Lg) : ∃ (R' : List (List Nat)) (y7 y11 y12 : Sl),
    for_law1 [.va (.scr ns), x1, x2, x3, x4, x5, x6, x7, x8, .ow (.lst (txsW R)), .va (.int (k : Nat)), x11, x12, .un, .un, .un, .un, .un, .un, .un] L = some (.nx [.va (.scr ns), x1, x2, x3, x4, x5, x6, y7, x8, .ow (.lst (txsW R')), .va (.int (k : Nat)), y11, y12, .un, .un, .un, .un, .un, .un, .un] L) ∧ OkR n (B + 2) R' := by
  have hc : d_law_cell [.scr ns, .int (3 + (k : Int))] L = some (.int (ns.getD (3 + k) 0), L) := by
    have := cell_eq ns (3 + k) L
    rwa [show ((3 + k : Nat) : Int) = 3 + (k : Int) by omega] at this
  generalize ns.getD (3 + k) 0 = v at *
  obtain ⟨x, hx⟩ : ∃ x : Int, (if v < 0 then -v else v) = x := ⟨_, rfl⟩
  have x0 : 0 ≤ x := by rw [← hx]; split <;> omega
  cases R with
  | nil => exact ⟨[], x7, _, x12, law1_none (.scr ns) x1 x2 x3 x4 x5 x6 x7 L x8 x11 x12 k v x hx hc, ⟨hR.len, fun _ h => by cases h⟩⟩
  | cons r0 R0 =>
    obtain ⟨R, hRR⟩ : ∃ R, R = r0 :: R0 := ⟨_, rfl⟩
    rw [← hRR] at hR ⊢
    have l0 : 0 < R.length := by rw [hRR]; simp
    have ln := hR.len
    have tl : (txsW R).length = R.length := txsW_len R
    have e1 := Int.emod_nonneg x (b := (R.length : Int)) (by omega)
    have e2 := Int.emod_lt_of_pos x (b := (R.length : Int)) (by omega)
    obtain ⟨rn, hrn⟩ := Int.eq_ofNat_of_zero_le e1
    have rl : rn < R.length := by omega
    obtain ⟨row, hrow⟩ : ∃ row, R[rn]? = some row := ⟨_, List.getElem?_eq_getElem rl⟩
    obtain ⟨rlen, rch⟩ := hR.row row (List.mem_of_getElem? hrow)
    have a1 : atI (txsW R) (x % (R.length : Int)) = some (.str (mk row)) := by
      rw [hrn]
      exact atI_nat (by unfold txsW; rw [List.getElem?_map, hrow]; rfl)
    have f1 := Int.emod_nonneg (x / 7) (b := (row.length : Int) + 1) (by omega)
    obtain ⟨an, han⟩ := Int.eq_ofNat_of_zero_le f1
    obtain ⟨pc, hp, pl, pch⟩ := pieces (x / 70 % 6) (by omega) (by omega)
    obtain ⟨d, hd⟩ : ∃ d : Nat, x / 420 % 2 = (d : Int) := ⟨(x / 420 % 2).toNat, by omega⟩
    have st := law1_step (.scr ns) x1 x2 x3 x4 x5 x6 x7 L x8 x11 x12 k v x (R.length : Nat) _ _ d (txsW R) row pc rn an hx hc (by rw [tl]) (by omega) (by rw [tl]; omega) rfl hrn a1 (by omega) rfl han hp pl hd
    have es : (txsW R).set rn (.str (mk (row.take an ++ pc ++ row.drop (an + d)))) = txsW (R.set rn (row.take an ++ pc ++ row.drop (an + d))) := by unfold txsW; rw [List.map_set]
    rw [es] at st
    refine ⟨_, _, _, _, st, ⟨by rw [List.length_set]; exact ln, fun z hz => ?_⟩⟩
    rcases List.mem_or_eq_of_mem_set hz with h | h
    · obtain ⟨h1, h2⟩ := hR.row z h
      exact ⟨by omega, h2⟩
    · subst h
      refine ⟨by simp only [List.length_append, List.length_take, List.length_drop]; omega, fun y hy => ?_⟩
      rcases List.mem_append.mp hy with hy | hy
      · rcases List.mem_append.mp hy with hy | hy
        · exact rch y (List.mem_of_mem_take hy)
        · exact pch y hy
      · exact rch y (List.mem_of_mem_drop hy)
theorem law1_loop (ns : List Int) (m : Nat) (hm : m ≤ 2) (R : List (List Nat)) (hR : OkR 6 8 R) (x1 x2 x3 x4 x5 x6 x7 x8 x10 : Sl) (L : Lg) : ∃ (R' : List (List Nat)) (y7 y10 y11 y12 : Sl), forLoop (gN 10) for_law1 (rangeW 0 m) [.va (.scr ns), x1, x2, x3, x4, x5, x6, x7, x8, .ow (.lst (txsW R)), x10, .un, .un, .un, .un, .un, .un, .un, .un, .un] L =
    some (.nx [.va (.scr ns), x1, x2, x3, x4, x5, x6, y7, x8, .ow (.lst (txsW R')), y10, y11, y12, .un, .un, .un, .un, .un, .un, .un] L) ∧ OkR 6 12 R' := by
  have e0 : rangeW 0 m = (List.range m).map fun (k : Nat) => W.int (k : Nat) := by
    rw [rangeW_ints, List.map_map]
    refine List.map_congr_left fun i _ => ?_
    simp only [Function.comp, Int.zero_add]
  rw [e0]
  obtain ⟨ρ', L', e, rfl, R', y7, y10, y11, y12, rfl, h1⟩ := for_ind (fun k : Nat => W.int (k : Nat)) (g := gN 10) (body := for_law1) (fun i ρ L' => L' = L ∧ ∃ (R' : List (List Nat)) (y7 y10 y11 y12 : Sl), ρ = [.va (.scr ns), x1, x2, x3, x4, x5, x6, y7, x8, .ow (.lst (txsW R')), y10, y11, y12, .un, .un, .un, .un, .un, .un, .un] ∧ OkR 6 (8 + 2 * i) R')
    (List.range m) 0 [.va (.scr ns), x1, x2, x3, x4, x5, x6, x7, x8, .ow (.lst (txsW R)), x10, .un, .un, .un, .un, .un, .un, .un, .un, .un] L
    (fun i v ρ L' hv hp => by
      obtain ⟨rfl, R1, y7, y10, y11, y12, rfl, h1⟩ := hp
      have lt := (List.getElem?_eq_some_iff.mp hv).1
      rw [List.length_range] at lt
      rw [Nat.zero_add] at *
      obtain ⟨R2, z7, z11, z12, st, h2⟩ := law1_any ns v 6 (8 + 2 * i) (by decide) (by omega) R1 h1 x1 x2 x3 x4 x5 x6 y7 x8 y11 y12 L'
      exact ⟨[.va (.scr ns), x1, x2, x3, x4, x5, x6, y7, x8, .ow (.lst (txsW R1)), .va (.int (v : Nat)), y11, y12, .un, .un, .un, .un, .un, .un, .un], _, _, by simp, st, rfl, R2, z7, _, z11, z12, rfl, h2⟩)
    ⟨rfl, R, x7, x10, .un, .un, rfl, hR⟩
  refine ⟨R', y7, y10, y11, y12, e, ⟨h1.len, fun row hr => ?_⟩⟩
  obtain ⟨h3, h4⟩ := h1.row row hr
  rw [List.length_range] at h3
  exact ⟨by omega, h4⟩
theorem readF_is (w0 : Nat) : ∀ (rows : List (List Nat)) (r : Nat) (acc cs : List Cell), readF w0 r rows acc = .ok cs → cs = acc ++ allm r rows
  | [], r, acc, cs, h => by rw [readF] at h; cases h; rw [allm, List.append_nil]
  | row :: rows, r, acc, cs, h => by
    rw [readF] at h
    split at h
    · cases h
    · rw [readF_is w0 rows (r + 1) _ cs h, allm, List.append_assoc]

/-! k05: the picture of the pattern, checked by the law -/
theorem PIC_eq {cs : List Cell} (hn : cs ≠ []) {t l m1 m2 : Int} (h1 : leastI (cs.map fun c => c.1) = some t) (h2 : leastI (cs.map fun c => c.2) = some l) (k1 : mostI (cs.map fun c => c.1) = some m1) (k2 : mostI (cs.map fun c => c.2) = some m2) (e : homeC cs = cs.map (tr (-t) (-l))) :
    PIC (homeC cs) = (List.range (m1 + 1 - t).toNat).map fun (i : Nat) => dR cs (t + (i : Int)) l (m2 + 1 - l).toNat := by
  have hp := home_pos (cs := cs)
  have hn2 : homeC cs ≠ [] := by rw [e]; simpa using hn
  obtain ⟨u1, a1, a2, a3, a4, a5⟩ := dim_spec (ns := (homeC cs).map fun c => c.1) (by simpa using hn2) (by intro x hx; obtain ⟨c, hc, rfl⟩ := List.mem_map.mp hx; exact (hp c hc).1)
  obtain ⟨u2, b1, b2, b3, b4, b5⟩ := dim_spec (ns := (homeC cs).map fun c => c.2) (by simpa using hn2) (by intro x hx; obtain ⟨c, hc, rfl⟩ := List.mem_map.mp hx; exact (hp c hc).2)
  have mem : ∀ r c : Int, (r, c) ∈ homeC cs ↔ (t + r, l + c) ∈ cs := fun r c => by
    rw [e, List.mem_map]
    constructor
    · rintro ⟨p, hp, h⟩
      have q1 := congrArg Prod.fst h
      have q2 := congrArg Prod.snd h
      simp only [tr] at q1 q2
      have : p = (t + r, l + c) := Prod.ext (by simp only; omega) (by simp only; omega)
      rw [← this]; exact hp
    · intro h
      exact ⟨_, h, Prod.ext (by simp only [tr]; omega) (by simp only [tr]; omega)⟩
  obtain ⟨c1, c2⟩ := mostI_spec k1
  obtain ⟨d1, d2⟩ := mostI_spec k2
  have e1 : dimOf ((homeC cs).map fun c => c.1) = (m1 + 1 - t).toNat := by
    obtain ⟨p, hp1, hp2⟩ := List.mem_map.mp a4
    obtain ⟨q, hq1, hq2⟩ := List.mem_map.mp c1
    have f1 := c2 (t + p.1) (List.mem_map.mpr ⟨(t + p.1, l + p.2), (mem p.1 p.2).mp hp1, rfl⟩)
    have f2 := a5 (q.1 - t) (List.mem_map.mpr ⟨(q.1 - t, q.2 - l), (mem _ _).mpr (by rw [show t + (q.1 - t) = q.1 by omega, show l + (q.2 - l) = q.2 by omega]; exact hq1), rfl⟩)
    try simp only at hp2 hq2
    omega
  have e2 : dimOf ((homeC cs).map fun c => c.2) = (m2 + 1 - l).toNat := by
    obtain ⟨p, hp1, hp2⟩ := List.mem_map.mp b4
    obtain ⟨q, hq1, hq2⟩ := List.mem_map.mp d1
    have f1 := d2 (l + p.2) (List.mem_map.mpr ⟨(t + p.1, l + p.2), (mem p.1 p.2).mp hp1, rfl⟩)
    have f2 := b5 (q.2 - l) (List.mem_map.mpr ⟨(q.1 - t, q.2 - l), (mem _ _).mpr (by rw [show t + (q.1 - t) = q.1 by omega, show l + (q.2 - l) = q.2 by omega]; exact hq1), rfl⟩)
    try simp only at hp2 hq2
    omega
  have pe : PIC (homeC cs) = pics (homeC cs) (dimOf ((homeC cs).map fun c => c.1)) (dimOf ((homeC cs).map fun c => c.2)) := if_neg hn2
  rw [pe, e1, e2]
  unfold pics rowN2 dR
  refine List.map_congr_left fun i _ => List.map_congr_left fun k _ => ?_
  unfold sg2
  by_cases h : ((i : Int), (k : Int)) ∈ homeC cs
  · rw [if_pos h, if_pos ((mem _ _).mp h)]
  · rw [if_neg h, if_neg fun z => h ((mem _ _).mpr z)]
theorem blk (cs : List Cell) (can : Can cs) (hn : cs ≠ []) (hb : ∀ q ∈ cs, (-20 ≤ q.1 ∧ q.1 ≤ 20) ∧ -20 ≤ q.2 ∧ q.2 ≤ 20) (cl : cs.length ≤ 100) (x0 x1 : Sl) (L : Lg) : ∃ y4 y5 y6 y7 : Sl,
    (cIfS (asT (cOp neW (cVar 2) (cFz (cLst cNil)))) (cSeq (cSet 4 (cC minW1 (cOf (cFz (cLc (sLst (cVar 2)) (gTupW 2 (gsC (gN 7) (gsC (gN 19) gsN))) cYes (cVar 7) (List.map (fun x => x.2) ([("r", 7), ("c", 19)] : List (Str × Nat)))))))) (cSeq (cSet 5 (cC minW1 (cOf (cFz (cLc (sLst (cVar 2)) (gTupW 2 (gsC (gN 7) (gsC (gN 19) gsN))) cYes (cVar 19) (List.map (fun x => x.2) ([("r", 7), ("c", 19)] : List (Str × Nat)))))))) (cSeq (cSetO 6 (cLst cNil)) (cSeq (cFor (sRange2 (cCons (cVar 4) (cCons (cOp addW (cC maxW1 (cOf (cFz (cLc (sLst (cVar 2)) (gTupW 2 (gsC (gN 7) (gsC (gN 19) gsN))) cYes (cVar 7) (List.map (fun x => x.2) ([("r", 7), ("c", 19)] : List (Str × Nat))))))) (cK (.int 1))) cNil))) (gN 7) for_law3) (cFr 6 (cIfS (cOr (asT (cOp neW (cVar 3) (cVar 6))) (asT (cOp neW (cPCall d_read_picture (cCons (cVar 3) cNil)) (cFz (cLc (sLst (cVar 2)) (gTupW 2 (gsC (gN 7) (gsC (gN 19) gsN))) cYes (cTup (cCons (cOp subW (cVar 7) (cVar 4)) (cCons (cOp subW (cVar 19) (cVar 5)) cNil))) (List.map (fun x => x.2) ([("r", 7), ("c", 19)] : List (Str × Nat)))))))) (cRet (cK (.bl false))) cNx)))))) cNx) [x0, x1, .va (cellsL cs), .va (.lst (txsW (PIC (homeC cs)))), .un, .un, .un, .un, .un, .un, .un, .un, .un, .un, .un, .un, .un, .un, .un, .un] L =
      some (.nx [x0, x1, .va (cellsL cs), .va (.lst (txsW (PIC (homeC cs)))), y4, y5, y6, y7, .un, .un, .un, .un, .un, .un, .un, .un, .un, .un, .un, .un] L) := by
  obtain ⟨t, l, h1, h2, e⟩ := home_is hn
  obtain ⟨m1, k1⟩ := most_some2 (ns := cs.map fun c => c.1) (by simpa using hn)
  obtain ⟨m2, k2⟩ := most_some2 (ns := cs.map fun c => c.2) (by simpa using hn)
  have pq := PIC_eq hn h1 h2 k1 k2 e
  have hp := home_pos (cs := cs)
  have hn2 : homeC cs ≠ [] := by rw [e]; simpa using hn
  have bd1 : ∀ x ∈ cs.map fun c => c.1, -20 ≤ x ∧ x ≤ 20 := fun x hx => by
    obtain ⟨c, hc, rfl⟩ := List.mem_map.mp hx; exact (hb c hc).1
  have bd2 : ∀ x ∈ cs.map fun c => c.2, -20 ≤ x ∧ x ≤ 20 := fun x hx => by
    obtain ⟨c, hc, rfl⟩ := List.mem_map.mp hx; exact (hb c hc).2
  have bt := bd1 t (leastI_spec h1).1
  have bl := bd2 l (leastI_spec h2).1
  have bm1 := bd1 m1 (mostI_spec k1).1
  have bm2 := bd2 m2 (mostI_spec k2).1
  obtain ⟨P, hP⟩ : ∃ P, P = PIC (homeC cs) := ⟨_, rfl⟩
  have sg := PIC_sign (homeC cs)
  have rd := PIC_read (can_home can) hn2 hp
  have pl : P.length ≤ 41 ∧ ∀ row ∈ P, row.length = (m2 + 1 - l).toNat := by
    rw [hP, pq]
    refine ⟨by rw [List.length_map, List.length_range]; omega, fun row hr => ?_⟩
    obtain ⟨i, _, rfl⟩ := List.mem_map.mp hr
    unfold dR; rw [List.length_map, List.length_range]
  rw [← hP] at sg rd ⊢
  have s200 : ∀ row ∈ P, ∀ x ∈ row, x ≤ 200 := fun row hr x hx => by have := sg row hr x hx; omega
  have ne1 := neW_tx P s200
  have re := read_eq P (m2 + 1 - l).toNat (fun r0 h0 => pl.2 r0 (List.mem_of_getElem? h0)) (by omega) (fun x hx => by have := pl.2 x hx; omega) L
  rw [readF_ok _ P 0 [] (fun row hr => ⟨pl.2 row hr, sg row hr⟩), List.nil_append, rd] at re
  simp only at re
  have ne2 := neW_cells (homeC cs) (homeC cs)
  rw [decide_eq_true rfl] at ne2
  have ne0 := neW_cells cs []
  rw [decide_eq_false hn] at ne0
  have lcg : ∀ (z4 z5 z6 : Sl) (f : Cell → Int) (te : EF), (∀ q : Cell, te [x0, x1, .va (cellsL cs), .va (.lst (txsW P)), z4, z5, z6, .va (.int q.1), .un, .un, .un, .un, .un, .un, .un, .un, .un, .un, .un, .va (.int q.2)] L = some (.int (f q), L)) →
      lcLoop (gTupW 2 (gsC (gN 7) (gsC (gN 19) gsN))) cYes te [x0, x1, .va (cellsL cs), .va (.lst (txsW P)), z4, z5, z6, .un, .un, .un, .un, .un, .un, .un, .un, .un, .un, .un, .un, .un] (cs.map cW) L = some ((cs.map f).map W.int, L) := fun z4 z5 z6 f te h => by
    rw [List.map_map]
    exact lc_map cW (fun q : Cell => W.int (f q)) fun q _ => ⟨[x0, x1, .va (cellsL cs), .va (.lst (txsW P)), z4, z5, z6, .va (.int q.1), .un, .un, .un, .un, .un, .un, .un, .un, .un, .un, .un, .va (.int q.2)], by
      generalize cellsL cs = CW
      generalize txsW P = TW
      simp [cW], h q⟩
  have lc1 := lcg .un .un .un (fun c => c.1) (cVar 7) fun q => by simp
  have lc2 := lcg (.va (.int t)) .un .un (fun c => c.2) (cVar 19) fun q => by simp
  have lc3 := lcg (.va (.int t)) (.va (.int l)) (.ow (.lst [])) (fun c => c.1) (cVar 7) fun q => by simp
  have lc4 : lcLoop (gTupW 2 (gsC (gN 7) (gsC (gN 19) gsN))) cYes (cTup (cCons (cOp subW (cVar 7) (cVar 4)) (cCons (cOp subW (cVar 19) (cVar 5)) cNil))) [x0, x1, .va (cellsL cs), .va (.lst (txsW P)), .va (.int t), .va (.int l), .va (.lst (txsW P)), .un, .un, .un, .un, .un, .un, .un, .un, .un, .un, .un, .un, .un] (cs.map cW) L = some ((homeC cs).map cW, L) := by
    have em : cs.map (fun q : Cell => W.tup [.int (q.1 - t), .int (q.2 - l)]) = (homeC cs).map cW := by
      rw [e, List.map_map]
      refine List.map_congr_left fun q _ => ?_
      show W.tup [.int (q.1 - t), .int (q.2 - l)] = W.tup [.int (q.1 + -t), .int (q.2 + -l)]
      rw [Int.sub_eq_add_neg, Int.sub_eq_add_neg]
    rw [← em]
    exact lc_map cW (fun q : Cell => W.tup [.int (q.1 - t), .int (q.2 - l)]) fun q _ => ⟨[x0, x1, .va (cellsL cs), .va (.lst (txsW P)), .va (.int t), .va (.int l), .va (.lst (txsW P)), .va (.int q.1), .un, .un, .un, .un, .un, .un, .un, .un, .un, .un, .un, .va (.int q.2)], by
      generalize cellsL cs = CW
      generalize txsW P = TW
      simp [cW], by simp⟩
  obtain ⟨y7, dl⟩ := due_loop cs t l m2 (m1 + 1 - t).toNat (m2 + 1 - l).toNat k2 rfl (by omega) (by omega) (by omega) (by omega) (by omega) (by omega) (by omega) x0 x1 (.va (.lst (txsW P))) L
  rw [← pq, ← hP] at dl
  have mn1 := minW1_ints h1
  have mn2 := minW1_ints h2
  have mx1 := maxW1_ints k1
  have z1 : ((cs.map fun c => c.1).map W.int).length ≤ 16777216 := by simp; omega
  have z2 : ((cs.map fun c => c.2).map W.int).length ≤ 16777216 := by simp; omega
  have z3 : ((homeC cs).map cW).length ≤ 16777216 := by
    rw [e]; simp; omega
  have rg := rng2_ok t (m1 + 1) L (by omega) (by omega) (by omega) (by omega)
  refine ⟨.va (.int t), .va (.int l), .va (.lst (txsW P)), y7, ?_⟩
  have ce : cellsL cs = W.lst (cs.map cW) := rfl
  have ch : cellsL (homeC cs) = W.lst ((homeC cs).map cW) := rfl
  have cn : cellsL ([] : List Cell) = W.lst [] := rfl
  rw [ce] at ne0 lc1 lc2 lc3 lc4 dl ⊢
  rw [ch] at ne2 re
  rw [cn] at ne0
  simp only [Bool.not_true, Bool.not_false] at ne0 ne2
  clear ce ch cn lcg pq hP sg rd pl s200 h1 h2 k1 k2 hp hn2 bd1 bd2 e hb can hn
  generalize (cs.map fun c => c.1).map W.int = R1 at *
  generalize (cs.map fun c => c.2).map W.int = R2 at *
  generalize (homeC cs).map cW = HW at *
  generalize cs.map cW = CW at *
  generalize rangeW t (m1 + 1 - t).toNat = RW at *
  generalize txsW P = TW at *
  have tst : (asT (cOp neW (cVar 2) (cFz (cLst cNil)))) [x0, x1, .va (.lst CW), .va (.lst TW), .un, .un, .un, .un, .un, .un, .un, .un, .un, .un, .un, .un, .un, .un, .un, .un] L = some (true, L) := by
    simp [fz_lst, ne0]
  rw [e_cIfS, tst]
  simp only
  rw [seq_nx (ρ1 := [x0, x1, .va (.lst CW), .va (.lst TW), .va (.int t), .un, .un, .un, .un, .un, .un, .un, .un, .un, .un, .un, .un, .un, .un, .un]) (L1 := L) (by simp [wipeR, lc1, z1, fz_lst, mn1])]
  rw [seq_nx (ρ1 := [x0, x1, .va (.lst CW), .va (.lst TW), .va (.int t), .va (.int l), .un, .un, .un, .un, .un, .un, .un, .un, .un, .un, .un, .un, .un, .un]) (L1 := L) (by simp [wipeR, lc2, z2, fz_lst, mn2])]
  rw [seq_nx (ρ1 := [x0, x1, .va (.lst CW), .va (.lst TW), .va (.int t), .va (.int l), .ow (.lst []), .un, .un, .un, .un, .un, .un, .un, .un, .un, .un, .un, .un, .un]) (L1 := L) (by simp)]
  rw [seq_nx (ρ1 := [x0, x1, .va (.lst CW), .va (.lst TW), .va (.int t), .va (.int l), .ow (.lst TW), y7, .un, .un, .un, .un, .un, .un, .un, .un, .un, .un, .un, .un]) (L1 := L) (by simp [-rng2_ok, wipeR, lc3, z1, fz_lst, mx1, rg, dl])]
  simp [wipeR, fz_lst, ne1, re, lc4, z3, ne2]

theorem eqB_cell (p q : Cell) : eqB (.tup [.int p.1, .int p.2]) (.tup [.int q.1, .int q.2]) = some (decide (p = q)) := by
  show eqD (.tup [.int p.1, .int p.2]) (.tup [.int q.1, .int q.2]) = _
  unfold eqD
  have sh : ∀ x y : Int, SeqAt.shaped (.tuple [.int x, .int y]) = true := fun x y => by
    unfold SeqAt.shaped
    rw [Bool.and_eq_true, decide_eq_true_eq]
    exact ⟨by simp [PyData.canLay0, PyData.canLayAll0], by simp [PyData.depth, PyData.depthAll]⟩
  simp only [toD, toDs, sh, and_self, if_true, PyData.eqv, PyData.eqvAll, Bool.and_true, Option.some.injEq]
  rw [Bool.eq_iff_iff]
  simp [Prod.ext_iff]
theorem eqW_cell (a b c d : Int) : eqW (.tup [.int a, .int b]) (.tup [.int c, .int d]) = some (.bl (decide (((a, b) : Cell) = (c, d)))) := by unfold eqW; rw [eqB_cell (a, b) (c, d)]
theorem neW_cell (a b c d : Int) : neW (.tup [.int a, .int b]) (.tup [.int c, .int d]) = some (.bl (!decide (((a, b) : Cell) = (c, d)))) := by unfold neW; rw [eqB_cell (a, b) (c, d)]

/-! k05: the law -/
section
variable (SC x1 x2 x3 : W) (x4 x5 x6 x7 x8 x10 x11 x12 : Sl) (F : W) (T CW : List W) (L : Lg)
theorem try_ok (fw : W) (re : d_read_picture [.lst T] L = some (.ok (.lst CW), L)) :
    (cTryP d_read_picture 15 16 17 (fun p => cSuite (cOrV (cK (.bl false)) (cOrV (cK (.bl false)) (cNotV (cK (.bl true))))) 18 (cAndV (cK (.bl true)) (cAndV (cNotV (cVar 18)) (cAndV (cOp eqW (cTup (cCons (cXf "row" p) (cCons (cXf "column" p) cNil))) (cVar 14)) (cOp eqW (cVar 15) (cVar 9))))))) [.va SC, .va x1, .va x2, .va x3, x4, x5, x6, x7, x8, .va (.lst T), x10, x11, x12, .va F, .va fw, .va (.lst T), .un, .un, .un, .un] L = some (.nx [.va SC, .va x1, .va x2, .va x3, x4, x5, x6, x7, x8, .va (.lst T), x10, x11, x12, .va F, .va fw, .va (.lst T), .va (.lst CW), .un, .un, .un] L) := by
  simp [re]
theorem try_err (r c : Int) (re : d_read_picture [.lst T] L = some (.error [("column", c), ("row", r)], L)) (eqT : eqW (.lst T) (.lst T) = some (.bl true)) :
    (cTryP d_read_picture 15 16 17 (fun p => cSuite (cOrV (cK (.bl false)) (cOrV (cK (.bl false)) (cNotV (cK (.bl true))))) 18 (cAndV (cK (.bl true)) (cAndV (cNotV (cVar 18)) (cAndV (cOp eqW (cTup (cCons (cXf "row" p) (cCons (cXf "column" p) cNil))) (cVar 14)) (cOp eqW (cVar 15) (cVar 9))))))) [.va SC, .va x1, .va x2, .va x3, x4, x5, x6, x7, x8, .va (.lst T), x10, x11, x12, .va F, .va (.tup [.int r, .int c]), .va (.lst T), .un, .un, .un, .un] L = some (.rt (.bl true) L) := by
  have k1 : ([("column", c), ("row", r)] : XP).lookup ("row" : Str) = some r := by kernel_rfl
  have k2 : ([("column", c), ("row", r)] : XP).lookup ("column" : Str) = some c := by kernel_rfl
  have ec : eqW (.tup [.int r, .int c]) (.tup [.int r, .int c]) = some (.bl true) := by rw [eqW_cell]; simp
  generalize ([("column", c), ("row", r)] : XP) = p at *
  simp [re, k1, k2, ec, eqT]
theorem fin_ok (lcs : d_law_cells [.lst CW] L = some (.bl true, L)) (e1 : eqW (.lst CW) F = some (.bl true)) (eqT : eqW (.lst T) (.lst T) = some (.bl true)) :
    (cFr 9 (cRet (cAndV (cOp isW (cVar 14) (cK .non)) (cAndV (cCall d_law_cells (cCons (cVar 16) cNil)) (cAndV (cOp eqW (cVar 16) (cVar 13)) (cOp eqW (cVar 15) (cVar 9))))))) [.va SC, .va x1, .va x2, .va x3, x4, x5, x6, x7, x8, .va (.lst T), x10, x11, x12, .va F, .va .non, .va (.lst T), .va (.lst CW), .un, .un, .un] L = some (.rt (.bl true) L) := by
  have i1 : isW .non .non = some (.bl true) := rfl
  simp [lcs, e1, eqT, i1]
end
theorem blk_skip (x0 x1 : Sl) (CW TP : List W) (X : Lg) (ne0 : neW (.lst CW) (.lst []) = some (.bl (!true))) : (cIfS (asT (cOp neW (cVar 2) (cFz (cLst cNil)))) (cSeq (cSet 4 (cC minW1 (cOf (cFz (cLc (sLst (cVar 2)) (gTupW 2 (gsC (gN 7) (gsC (gN 19) gsN))) cYes (cVar 7) (List.map (fun x => x.2) ([("r", 7), ("c", 19)] : List (Str × Nat)))))))) (cSeq (cSet 5 (cC minW1 (cOf (cFz (cLc (sLst (cVar 2)) (gTupW 2 (gsC (gN 7) (gsC (gN 19) gsN))) cYes (cVar 19) (List.map (fun x => x.2) ([("r", 7), ("c", 19)] : List (Str × Nat)))))))) (cSeq (cSetO 6 (cLst cNil)) (cSeq (cFor (sRange2 (cCons (cVar 4) (cCons (cOp addW (cC maxW1 (cOf (cFz (cLc (sLst (cVar 2)) (gTupW 2 (gsC (gN 7) (gsC (gN 19) gsN))) cYes (cVar 7) (List.map (fun x => x.2) ([("r", 7), ("c", 19)] : List (Str × Nat))))))) (cK (.int 1))) cNil))) (gN 7) for_law3) (cFr 6 (cIfS (cOr (asT (cOp neW (cVar 3) (cVar 6))) (asT (cOp neW (cPCall d_read_picture (cCons (cVar 3) cNil)) (cFz (cLc (sLst (cVar 2)) (gTupW 2 (gsC (gN 7) (gsC (gN 19) gsN))) cYes (cTup (cCons (cOp subW (cVar 7) (cVar 4)) (cCons (cOp subW (cVar 19) (cVar 5)) cNil))) (List.map (fun x => x.2) ([("r", 7), ("c", 19)] : List (Str × Nat)))))))) (cRet (cK (.bl false))) cNx)))))) cNx) [x0, x1, .va (.lst CW), .va (.lst TP), .un, .un, .un, .un, .un, .un, .un, .un, .un, .un, .un, .un, .un, .un, .un, .un] X = some (.nx [x0, x1, .va (.lst CW), .va (.lst TP), .un, .un, .un, .un, .un, .un, .un, .un, .un, .un, .un, .un, .un, .un, .un, .un] X) := by
  have tst : (asT (cOp neW (cVar 2) (cFz (cLst cNil)))) [x0, x1, .va (.lst CW), .va (.lst TP), .un, .un, .un, .un, .un, .un, .un, .un, .un, .un, .un, .un, .un, .un, .un, .un] X = some (false, X) := by
    simp [fz_lst, ne0]
  rw [e_cIfS, tst]
  rfl
theorem neW_bb (a : Bool) : neW (.bl a) (.bl a) = some (.bl false) := by
  cases a <;> rfl
theorem law_walk05 (SC : W) (ns : List Int) (v0 v1 n m : Int) (w : Nat) (cs0 cs : List Cell) (P R2 R3 : List (List Nat)) (X : Lg) (B : List Cell) (fw F : W) (y4 y5 y6 y7 y10 z7 z10 z11 z12 : Sl) (out : Option Out) (hsc : SC = .scr ns)
    (c0 : d_law_cell [SC, .int 0] [] = some (.int v0, [])) (c1 : d_law_cell [SC, .int 1] [] = some (.int v1, [])) (se : d_law_some [.int v1, .int (v0 % 21), .int 6, .int 8] [] = some (cellsL cs0, [])) (hcs : cs = cs0.map fun q => (q.1 - 5, q.2 + 3)) (cl : cs.length ≤ 1000)
    (pi : d_picture [cellsL cs] [] = some (.lst (txsW P), X)) (e1 : eqW (cellsL cs) (.lst []) = some (.bl (decide (cs = [])))) (e2 : eqW (.lst (txsW P)) (.lst []) = some (.bl (decide (cs = []))))
    (bk : (cIfS (asT (cOp neW (cVar 2) (cFz (cLst cNil)))) (cSeq (cSet 4 (cC minW1 (cOf (cFz (cLc (sLst (cVar 2)) (gTupW 2 (gsC (gN 7) (gsC (gN 19) gsN))) cYes (cVar 7) (List.map (fun x => x.2) ([("r", 7), ("c", 19)] : List (Str × Nat)))))))) (cSeq (cSet 5 (cC minW1 (cOf (cFz (cLc (sLst (cVar 2)) (gTupW 2 (gsC (gN 7) (gsC (gN 19) gsN))) cYes (cVar 19) (List.map (fun x => x.2) ([("r", 7), ("c", 19)] : List (Str × Nat)))))))) (cSeq (cSetO 6 (cLst cNil)) (cSeq (cFor (sRange2 (cCons (cVar 4) (cCons (cOp addW (cC maxW1 (cOf (cFz (cLc (sLst (cVar 2)) (gTupW 2 (gsC (gN 7) (gsC (gN 19) gsN))) cYes (cVar 7) (List.map (fun x => x.2) ([("r", 7), ("c", 19)] : List (Str × Nat))))))) (cK (.int 1))) cNil))) (gN 7) for_law3) (cFr 6 (cIfS (cOr (asT (cOp neW (cVar 3) (cVar 6))) (asT (cOp neW (cPCall d_read_picture (cCons (cVar 3) cNil)) (cFz (cLc (sLst (cVar 2)) (gTupW 2 (gsC (gN 7) (gsC (gN 19) gsN))) cYes (cTup (cCons (cOp subW (cVar 7) (cVar 4)) (cCons (cOp subW (cVar 19) (cVar 5)) cNil))) (List.map (fun x => x.2) ([("r", 7), ("c", 19)] : List (Str × Nat)))))))) (cRet (cK (.bl false))) cNx)))))) cNx) [.va SC, .va (.int v0), .va (cellsL cs), .va (.lst (txsW P)), .un, .un, .un, .un, .un, .un, .un, .un, .un, .un, .un, .un, .un, .un, .un, .un] X = some (.nx [.va SC, .va (.int v0), .va (cellsL cs), .va (.lst (txsW P)), y4, y5, y6, y7, .un, .un, .un, .un, .un, .un, .un, .un, .un, .un, .un, .un] X))
    (hw : v0 / 21 % 9 = (w : Int)) (hn : v0 / 189 % 7 = n) (hm : v0 / 1323 % 3 = m)
    (f2 : forLoop (gN 10) for_law2 (rangeW 0 n.toNat) [.va SC, .va (.int v0), .va (cellsL cs), .va (.lst (txsW P)), y4, y5, y6, y7, .va (.int (w : Nat)), .ow (.lst []), .un, .un, .un, .un, .un, .un, .un, .un, .un, .un] X = some (.nx [.va SC, .va (.int v0), .va (cellsL cs), .va (.lst (txsW P)), y4, y5, y6, y7, .va (.int (w : Nat)), .ow (.lst (txsW R2)), y10, .un, .un, .un, .un, .un, .un, .un, .un, .un] X))
    (f1 : forLoop (gN 10) for_law1 (rangeW 0 m.toNat) [.va SC, .va (.int v0), .va (cellsL cs), .va (.lst (txsW P)), y4, y5, y6, y7, .va (.int (w : Nat)), .ow (.lst (txsW R2)), y10, .un, .un, .un, .un, .un, .un, .un, .un, .un] X = some (.nx [.va SC, .va (.int v0), .va (cellsL cs), .va (.lst (txsW P)), y4, y5, y6, z7, .va (.int (w : Nat)), .ow (.lst (txsW R3)), z10, z11, z12, .un, .un, .un, .un, .un, .un, .un] X))
    (du : d_law_due [.lst (txsW R3)] X = some (.tup [F, fw], X))
    (en : (cSeq (cTryP d_read_picture 15 16 17 (fun p => cSuite (cOrV (cK (.bl false)) (cOrV (cK (.bl false)) (cNotV (cK (.bl true))))) 18 (cAndV (cK (.bl true)) (cAndV (cNotV (cVar 18)) (cAndV (cOp eqW (cTup (cCons (cXf "row" p) (cCons (cXf "column" p) cNil))) (cVar 14)) (cOp eqW (cVar 15) (cVar 9))))))) (cFr 9 (cRet (cAndV (cOp isW (cVar 14) (cK .non)) (cAndV (cCall d_law_cells (cCons (cVar 16) cNil)) (cAndV (cOp eqW (cVar 16) (cVar 13)) (cOp eqW (cVar 15) (cVar 9)))))))) [.va SC, .va (.int v0), .va (cellsL cs), .va (.lst (txsW P)), y4, y5, y6, z7, .va (.int (w : Nat)), .va (.lst (txsW R3)), z10, z11, z12, .va F, .va fw, .va (.lst (txsW R3)), .un, .un, .un, .un] X = out) :
    b_law [.va SC, .un, .un, .un, .un, .un, .un, .un, .un, .un, .un, .un, .un, .un, .un, .un, .un, .un, .un, .un] [] = out := by
  have lc : lcLoop (gTupW 2 (gsC (gN 7) (gsC (gN 19) gsN))) cYes (cTup (cCons (cOp subW (cVar 7) (cK (.int 5))) (cCons (cOp addW (cVar 19) (cK (.int 3))) cNil))) [.va SC, .va (.int v0), .un, .un, .un, .un, .un, .un, .un, .un, .un, .un, .un, .un, .un, .un, .un, .un, .un, .un] (cs0.map cW) [] = some (cs.map cW, []) := by
    rw [hcs, List.map_map]
    exact lc_map cW (fun q : Cell => cW (q.1 - 5, q.2 + 3)) (xs := cs0) fun q _ => ⟨[.va SC, .va (.int v0), .un, .un, .un, .un, .un, .va (.int q.1), .un, .un, .un, .un, .un, .un, .un, .un, .un, .un, .un, .va (.int q.2)], by simp [cW], by simp [cW]⟩
  have cz : (cs.map cW).length ≤ 16777216 := by rw [List.length_map]; omega
  have nb := neW_bb (decide (cs = []))
  have r2 := rng1_ok n X (by omega) (by omega)
  have r1 := rng1_ok m X (by omega) (by omega)
  have ce : cellsL cs = W.lst (cs.map cW) := rfl
  have ce0 : cellsL cs0 = W.lst (cs0.map cW) := rfl
  rw [ce] at pi e1 bk f2 f1 en
  rw [ce0] at se
  generalize decide (cs = []) = D at *
  generalize hT3 : txsW R3 = T3 at *
  generalize txsW R2 = T2 at *
  generalize txsW P = TP at *
  generalize cs.map cW = CW at *
  generalize cs0.map cW = CW0 at *
  generalize rangeW 0 n.toNat = RN at *
  generalize rangeW 0 m.toNat = RM at *
  rw [ub_law]
  rw [seq_nx (ρ1 := [.va SC, .va (.int v0), .un, .un, .un, .un, .un, .un, .un, .un, .un, .un, .un, .un, .un, .un, .un, .un, .un, .un]) (L1 := []) (by simp [c0])]
  rw [seq_nx (ρ1 := [.va SC, .va (.int v0), .va (.lst CW), .un, .un, .un, .un, .un, .un, .un, .un, .un, .un, .un, .un, .un, .un, .un, .un, .un]) (L1 := []) (by simp [c1, se, wipeR, lc, cz, fz_lst])]
  rw [seq_nx (ρ1 := [.va SC, .va (.int v0), .va (.lst CW), .va (.lst TP), .un, .un, .un, .un, .un, .un, .un, .un, .un, .un, .un, .un, .un, .un, .un, .un]) (L1 := X) (by simp [listW, fz_lst, pi])]
  rw [seq_nx (ρ1 := [.va SC, .va (.int v0), .va (.lst CW), .va (.lst TP), .un, .un, .un, .un, .un, .un, .un, .un, .un, .un, .un, .un, .un, .un, .un, .un]) (L1 := X) (by simp [fz_lst, e1, e2, nb])]
  rw [seq_nx bk]
  rw [seq_nx (ρ1 := [.va SC, .va (.int v0), .va (.lst CW), .va (.lst TP), y4, y5, y6, y7, .va (.int (w : Nat)), .un, .un, .un, .un, .un, .un, .un, .un, .un, .un, .un]) (L1 := X) (by simp [hw])]
  rw [seq_nx (ρ1 := [.va SC, .va (.int v0), .va (.lst CW), .va (.lst TP), y4, y5, y6, y7, .va (.int (w : Nat)), .ow (.lst []), .un, .un, .un, .un, .un, .un, .un, .un, .un, .un]) (L1 := X) (by simp)]
  rw [seq_nx (ρ1 := [.va SC, .va (.int v0), .va (.lst CW), .va (.lst TP), y4, y5, y6, y7, .va (.int (w : Nat)), .ow (.lst T2), y10, .un, .un, .un, .un, .un, .un, .un, .un, .un]) (L1 := X) (by simp [-rng1_ok, hn, r2, f2])]
  rw [seq_nx (ρ1 := [.va SC, .va (.int v0), .va (.lst CW), .va (.lst TP), y4, y5, y6, z7, .va (.int (w : Nat)), .ow (.lst T3), z10, z11, z12, .un, .un, .un, .un, .un, .un, .un]) (L1 := X) (by simp [-rng1_ok, hm, r1, f1])]
  rw [seq_nx (ρ1 := [.va SC, .va (.int v0), .va (.lst CW), .va (.lst TP), y4, y5, y6, z7, .va (.int (w : Nat)), .va (.lst T3), z10, z11, z12, .va F, .va fw, .un, .un, .un, .un, .un]) (L1 := X) (by simp [fz_lst, du])]
  rw [seq_nx (ρ1 := [.va SC, .va (.int v0), .va (.lst CW), .va (.lst TP), y4, y5, y6, z7, .va (.int (w : Nat)), .va (.lst T3), z10, z11, z12, .va F, .va fw, .va (.lst T3), .un, .un, .un, .un]) (L1 := X) (by simp [listW, fz_lst])]
  exact en
theorem law_true (ns : List Int) : ∃ L', d_law [.scr ns] [] = some (.bl true, L') := by
  have c0 : d_law_cell [.scr ns, .int 0] [] = some (.int (ns.getD 0 0), []) := cell_eq ns 0 []
  have c1 : d_law_cell [.scr ns, .int 1] [] = some (.int (ns.getD 1 0), []) := cell_eq ns 1 []
  generalize ns.getD 0 0 = v0 at *
  generalize ns.getD 1 0 = v1 at *
  obtain ⟨cn, hcn⟩ : ∃ cn : Nat, (cn : Int) = v0 % 21 := ⟨(v0 % 21).toNat, by omega⟩
  obtain ⟨cs0, se, can0, cl0, cb0⟩ := some_eqR v1 cn 6 8 [] (by decide) (by decide) (by decide) (by decide) (by omega)
  rw [hcn] at se
  obtain ⟨cs, hcs⟩ : ∃ cs, cs = cs0.map fun q => ((q.1 - 5, q.2 + 3) : Cell) := ⟨_, rfl⟩
  have csc : Can cs := by
    have := can_tr (-5) 3 can0
    have e : ((tr (-5) 3 : Cell → Cell)) = fun q => (q.1 - 5, q.2 + 3) := by
      funext x
      exact Prod.ext (by simp only [tr]; omega) (by simp only [tr])
    rw [e] at this
    rw [hcs]; exact this
  have cl : cs.length ≤ 20 := by rw [hcs, List.length_map]; omega
  have cb : ∀ q ∈ cs, (-20 ≤ q.1 ∧ q.1 ≤ 20) ∧ -20 ≤ q.2 ∧ q.2 ≤ 20 := fun q hq => by
    rw [hcs] at hq
    obtain ⟨p, hp, rfl⟩ := List.mem_map.mp hq
    have := cb0 p hp
    simp only
    omega
  have hb9 : ∀ c ∈ homeC (canon cs), c.1 < 900 ∧ c.2 < 900 := fun c hc => by
    rw [can_self csc] at hc
    by_cases hn : cs = []
    · rw [hn] at hc; cases hc
    · obtain ⟨t, l, h1, h2, e⟩ := home_is hn
      rw [e] at hc
      obtain ⟨p, hp, rfl⟩ := List.mem_map.mp hc
      have b1 := cb p hp
      obtain ⟨q, hq, e1⟩ := List.mem_map.mp (leastI_spec h1).1
      obtain ⟨q', hq', e2⟩ := List.mem_map.mp (leastI_spec h2).1
      have b2 := cb q hq
      have b3 := cb q' hq'
      simp only [tr]
      try simp only at e1 e2
      omega
  obtain ⟨X, pi⟩ := picture_eq cs [] (by omega) hb9 (fun L => home_eqG cs L (by omega))
  rw [can_self csc, List.nil_append] at pi
  obtain ⟨P, hP⟩ : ∃ P, P = PIC (homeC cs) := ⟨_, rfl⟩
  have s200 : ∀ row ∈ P, ∀ x ∈ row, x ≤ 200 := fun row hr x hx => by
    rw [hP] at hr
    have := PIC_sign (homeC cs) row hr x hx
    omega
  have e1 : eqW (cellsL cs) (.lst []) = some (.bl (decide (cs = []))) := eqW_cells cs []
  have e2 := eqW_tx0 P s200
  have pn : (P = []) ↔ (cs = []) := by
    rw [hP]
    constructor
    · intro h
      by_cases hn : cs = []
      · exact hn
      · exfalso
        have hn2 : homeC cs ≠ [] := by
          obtain ⟨t, l, _, _, e⟩ := home_is hn
          rw [e]; simpa using hn
        have rd := PIC_read (can_home csc) hn2 (home_pos (cs := cs))
        rw [h] at rd
        exact hn2 rd.symm
    · intro h
      rw [h, home_nil]; rfl
  rw [decide_eq_decide.mpr pn] at e2
  have bk : ∃ y4 y5 y6 y7 : Sl, (cIfS (asT (cOp neW (cVar 2) (cFz (cLst cNil)))) (cSeq (cSet 4 (cC minW1 (cOf (cFz (cLc (sLst (cVar 2)) (gTupW 2 (gsC (gN 7) (gsC (gN 19) gsN))) cYes (cVar 7) (List.map (fun x => x.2) ([("r", 7), ("c", 19)] : List (Str × Nat)))))))) (cSeq (cSet 5 (cC minW1 (cOf (cFz (cLc (sLst (cVar 2)) (gTupW 2 (gsC (gN 7) (gsC (gN 19) gsN))) cYes (cVar 19) (List.map (fun x => x.2) ([("r", 7), ("c", 19)] : List (Str × Nat)))))))) (cSeq (cSetO 6 (cLst cNil)) (cSeq (cFor (sRange2 (cCons (cVar 4) (cCons (cOp addW (cC maxW1 (cOf (cFz (cLc (sLst (cVar 2)) (gTupW 2 (gsC (gN 7) (gsC (gN 19) gsN))) cYes (cVar 7) (List.map (fun x => x.2) ([("r", 7), ("c", 19)] : List (Str × Nat))))))) (cK (.int 1))) cNil))) (gN 7) for_law3) (cFr 6 (cIfS (cOr (asT (cOp neW (cVar 3) (cVar 6))) (asT (cOp neW (cPCall d_read_picture (cCons (cVar 3) cNil)) (cFz (cLc (sLst (cVar 2)) (gTupW 2 (gsC (gN 7) (gsC (gN 19) gsN))) cYes (cTup (cCons (cOp subW (cVar 7) (cVar 4)) (cCons (cOp subW (cVar 19) (cVar 5)) cNil))) (List.map (fun x => x.2) ([("r", 7), ("c", 19)] : List (Str × Nat)))))))) (cRet (cK (.bl false))) cNx)))))) cNx) [.va (.scr ns), .va (.int v0), .va (cellsL cs), .va (.lst (txsW P)), .un, .un, .un, .un, .un, .un, .un, .un, .un, .un, .un, .un, .un, .un, .un, .un] X = some (.nx [.va (.scr ns), .va (.int v0), .va (cellsL cs), .va (.lst (txsW P)), y4, y5, y6, y7, .un, .un, .un, .un, .un, .un, .un, .un, .un, .un, .un, .un] X) := by
    by_cases hn : cs = []
    · refine ⟨.un, .un, .un, .un, ?_⟩
      have ne0 := neW_cells cs []
      rw [decide_eq_true hn] at ne0
      have cn : cellsL ([] : List Cell) = W.lst [] := rfl
      rw [cn] at ne0
      have ce : cellsL cs = W.lst (cs.map cW) := rfl
      rw [ce] at ne0
      exact blk_skip (.va (.scr ns)) (.va (.int v0)) (cs.map cW) (txsW P) X ne0
    · rw [hP]
      exact blk cs csc hn cb (by omega) (.va (.scr ns)) (.va (.int v0)) X
  obtain ⟨y4, y5, y6, y7, bk⟩ := bk
  obtain ⟨w, hw⟩ : ∃ w : Nat, v0 / 21 % 9 = (w : Int) := ⟨(v0 / 21 % 9).toNat, by omega⟩
  obtain ⟨R2, y10, f2, ok2⟩ := law2_loop ns w (v0 / 189 % 7).toNat (by omega) (by omega) (.va (.int v0)) (.va (cellsL cs)) (.va (.lst (txsW P))) y4 y5 y6 y7 X
  obtain ⟨R3, z7, z10, z11, z12, f1, ok3⟩ := law1_loop ns (v0 / 1323 % 3).toNat (by omega) R2 ok2 (.va (.int v0)) (.va (cellsL cs)) (.va (.lst (txsW P))) y4 y5 y6 y7 (.va (.int (w : Nat))) y10 X
  obtain ⟨w0, hw0⟩ : ∃ w0, ∀ r0, R3[0]? = some r0 → r0.length = w0 := by
    cases h : R3[0]? with
    | none => exact ⟨0, fun r0 h2 => by cases h2⟩
    | some r => exact ⟨r.length, fun r0 h2 => by cases h2; rfl⟩
  have l3 := ok3.len
  have rl3 : ∀ x ∈ R3, x.length < 100 := fun x hx => by have := (ok3.row x hx).1; omega
  have re := read_eq R3 w0 hw0 (by omega) rl3 X
  obtain ⟨B, du, hB⟩ := due_eq R3 w0 hw0 (by omega) rl3 X
  have eqT := eqW_tx R3 fun row hr => (ok3.row row hr).2
  have main : ∃ L', (cSeq (cTryP d_read_picture 15 16 17 (fun p => cSuite (cOrV (cK (.bl false)) (cOrV (cK (.bl false)) (cNotV (cK (.bl true))))) 18 (cAndV (cK (.bl true)) (cAndV (cNotV (cVar 18)) (cAndV (cOp eqW (cTup (cCons (cXf "row" p) (cCons (cXf "column" p) cNil))) (cVar 14)) (cOp eqW (cVar 15) (cVar 9))))))) (cFr 9 (cRet (cAndV (cOp isW (cVar 14) (cK .non)) (cAndV (cCall d_law_cells (cCons (cVar 16) cNil)) (cAndV (cOp eqW (cVar 16) (cVar 13)) (cOp eqW (cVar 15) (cVar 9)))))))) [.va (.scr ns), .va (.int v0), .va (cellsL cs), .va (.lst (txsW P)), y4, y5, y6, z7, .va (.int (w : Nat)), .va (.lst (txsW R3)), z10, z11, z12, .va (cellsL B), .va (faultW (readF w0 0 R3 [])), .va (.lst (txsW R3)), .un, .un, .un, .un] X = some (.rt (.bl true) L') := by
    cases hr : readF w0 0 R3 [] with
    | ok cs2 =>
      rw [hr] at re
      simp only at re
      have eB := hB cs2 hr
      have ea := readF_is w0 R3 0 [] cs2 hr
      rw [List.nil_append] at ea
      have c2 : Can cs2 := by rw [ea]; exact can_allm _ _
      have lcs := law_cells_eq cs2 X
      have so : cs2 = sortC cs2 := can_ext c2 (sortC_can c2.1) fun x => mem_sortC.symm
      rw [decide_eq_true so] at lcs
      have ee := eqW_cells cs2 cs2
      rw [decide_eq_true rfl] at ee
      refine ⟨X, ?_⟩
      rw [eB]
      have t1 := try_ok (.scr ns) (.int v0) (cellsL cs) (.lst (txsW P)) y4 y5 y6 z7 (.va (.int (w : Nat))) z10 z11 z12 (cellsL cs2) (txsW R3) (cs2.map cW) X (faultW (.ok cs2)) re
      rw [seq_nx t1]
      exact fin_ok (.scr ns) (.int v0) (cellsL cs) (.lst (txsW P)) y4 y5 y6 z7 (.va (.int (w : Nat))) z10 z11 z12 (cellsL cs2) (txsW R3) (cs2.map cW) X lcs ee eqT
    | error e =>
      rw [hr] at re
      simp only at re
      exact ⟨X, seq_rt (try_err (.scr ns) (.int v0) (cellsL cs) (.lst (txsW P)) y4 y5 y6 z7 (.va (.int (w : Nat))) z10 z11 z12 (cellsL B) (txsW R3) X (e.1 : Int) (e.2 : Int) re eqT)⟩
  obtain ⟨L', en⟩ := main
  have bL := law_walk05 (.scr ns) ns v0 v1 _ _ w cs0 cs P R2 R3 X B _ _ y4 y5 y6 y7 y10 z7 z10 z11 z12 _ rfl c0 c1 se hcs (by omega) (by rw [hP]; exact pi) e1 e2 bk hw rfl rfl f2 f1 du en
  refine ⟨L', ?_⟩
  rw [ud_law, e_runDef, show (20 - ([.scr ns] : List W).length) = 19 from rfl]
  have st' : b_law (([.scr ns] : List W).map Sl.va ++ List.replicate 19 .un) [] = some (.rt (.bl true) L') := bL
  rw [st']
theorem law_end (ns : List Int) (_ : ns.length ≤ 63) (_ : ∀ z ∈ ns, Builtin.Int.intBits z ≤ 1048576) : ∃ L', d_law [.scr ns] [] = some (.bl true, L') := law_true ns

end Law
open PySem PySem.W PySem.Calls PyProof.Rows
theorem PySem.Challenge.cw_longlife_k05_pictures_and_their_faults_holds : PySem.Challenge.rw_longlife_k05_pictures_and_their_faults.Holds := by
  w_on; o_law
  refine HandSHeadRun.head_any (r := OpenLaw.row PySem.Challenge.rw_longlife_k05_pictures_and_their_faults) (q := view (OpenLaw.row PySem.Challenge.rw_longlife_k05_pictures_and_their_faults).prog [20]) (H := Law.hk) (ob := Law.ob) (M := 4000) (loose := ["pattern", "moved", "home", "picture_rows", "picture", "check_string", "read_picture", "_law_cell", "_law_row", "_law_integer", "_law_cells", "_law_some", "_law_due", "LifeError", "InvalidRule", "InvalidText", "InvalidPicture"]) (d := HandSHeadRun.topDef (OpenLaw.row PySem.Challenge.rw_longlife_k05_pictures_and_their_faults).prog 20) (kwd := []) Law.ob_eq
    (by kernel_rfl) (fun s => by kernel_rfl) Law.run (by kernel_rfl) (by kernel_rfl) (by kernel_rfl) (by rfl) (by first | assumption | decide +kernel) (by decide +kernel) ⟨rfl, rfl, rfl, rfl, rfl, by decide +kernel⟩ ?hw ?hc
  case hw => w_witness2
  case hc =>
    refine Lf.walk_lf (l := PySem.Challenge.rw_longlife_k05_pictures_and_their_faults) (n := 63) (k := 5) (x := "script") (D := Law.d_law) rfl (by decide) (by kernel_rfl) ⟨rfl, by decide, by decide⟩ ?F ?D
    case F =>
      intro w mg fa h Y G hmg0
      obtain ⟨K, KX, c⟩ := Y
      have hmg : mg ("law" : PySem.Str) = some (.ref fa) := by
        have e : (HandSHeadRun.topDef (OpenLaw.row PySem.Challenge.rw_longlife_k05_pictures_and_their_faults).prog 20).name = ("law" : PySem.Str) := by kernel_rfl
        rw [← e]
        exact hmg0
      obtain ⟨fd, hb, hF⟩ := Law.facts (P := (PySem.Challenge.rw_longlife_k05_pictures_and_their_faults).prog) (w := w) KX G hmg c
      exact ⟨K, fd, KX, hb, hF⟩
    case D =>
      intro ns hl hb
      exact Law.law_end ns hl hb
